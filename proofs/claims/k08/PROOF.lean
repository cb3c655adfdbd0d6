import PyProof.Rows.All
import Wide.All
import OpenK.AllK
import Wide.FinOn
import HandS.ForMost
import HandS.TupAny
import HandS.Flow
import HandS.IsInst
import HandS.Style
import HandS.Wide
import HandS.Deep
import HandS.Exc
import PyProof.ReprRoads
import HandS.Lambda
import KE.KUnpackStar
import PyProof.NeKinds
import HandS.Property
import HandS.ClsMeth
import HandS.Star
import HandS.SortInts
import PyProof.ReprBulk
import PyProof.DictUpdate
import HandS.Conv
import HandS.More
import KE.KDictPairs
import HandS.SetFor
import HandS.SetBool
import HandS.SetTxt0
import KE.GoesSet
import KE.GoesEnum
import KE.GoesMore
import PyProof.P3Eq
import PyProof.EqKinds
import KE.KSortTupAny
import HandS.SortRule
import HandS.FStr
import HandS.RaiseMore
import KE.KCallOwn
import PyProof.StrOps2
import PyProof.InstEq
import HandS.Codes
import HandS.DictComp
import HandS.SlotsOwn
import PyProof.TupleOfSeq
import PyProof.ReprLen
import HandS.ExcIs
import HandS.ExcField
import HandS.ExcInit
import HandS.ExcValue
import PyProof.ExcBaseAll.OverflowError
import PySem.Challenge.RW_jamtally_k08_errors_of_all_classes
set_option Elab.async false
set_option linter.all false
set_option maxRecDepth 100000
set_option maxHeartbeats 4000000
namespace Eo
open PySem L2
/-! ## data -/
inductive D where
  | non | bl (b : Bool) | int (i : Int) | str (x : Str)
  | lst (ds : List D) | tup (ds : List D) | dct (kvs : List (Key × D)) | obj (c : Str) (fs : List (Str × D)) | scr (ns : List Int) | cls (c : Str) | exc (c : Str) (fs : List (Str × D))
/-- an exception that was caught, at a -/
noncomputable def XO (C : Addr) (d : Addr) (a : Addr) : HO := .ext fun h => ∃ (oe : Obj) (vs : Array Value), h.get? a = some oe ∧ Zc (.ref C) (some d) oe ∧ oe.data = .fields vs
structure Cg where
  K : PySem.W.Frag
  cls : Str → Option Addr
  pl : Str → Str → Bool
  tb : List (Addr × Str) := []
noncomputable def getK {κ α : Type} [DecidableEq κ] : List (κ × α) → κ → Option α
  | [], _ => none
  | (j, x) :: r, k => if j = k then some x else getK r k
noncomputable def setK {κ α : Type} [DecidableEq κ] : List (κ × α) → κ → α → List (κ × α)
  | [], _, _ => []
  | (j, x) :: r, k, y => if j = k then (j, y) :: r else (j, x) :: setK r k y
/-- a plain tuple, known to the object -/
noncomputable def PlT (K : PySem.W.Frag) (F : Hp) (v : V) : Prop := ∃ (a : Addr) (o : Obj) (vs : List V) (its : Array Value) (n : Nat), v = .ref a ∧ F a = some (.frz o (.tup vs)) ∧ K.lookup a = none ∧ o.cls = .type "tuple" ∧ o.dict = none ∧ o.data = .seq its n
/-- the class c stands at C; the fields of it that are told to be plain tuples are so -/
noncomputable def OC (G : Cg) (F : Hp) (c : Str) (C : Addr) (fs : List (Str × V)) : Prop := G.cls c = some C ∧ ∀ f v, G.pl c f = true → getK fs f = some v → PlT G.K F v
mutual
inductive Rp (G : Cg) (F : Hp) : V → D → Prop
  | non : Rp G F .non .non
  | bl (b : Bool) : Rp G F (.bl b) (.bl b)
  | int (i : Int) : Rp G F (.int i) (.int i)
  | str (x : Str) : Rp G F (.str x) (.str x)
  | lst {a : Addr} {vs : List V} {ds : List D} : F a = some (.lst vs) → Rps G F vs ds → Rp G F (.ref a) (.lst ds)
  | tup {a : Addr} {vs : List V} {ds : List D} : SqT G.K F a vs → Rps G F vs ds → Rp G F (.ref a) (.tup ds)
  | dct {a : Addr} {kvs : List (Key × V)} {ds : List (Key × D)} : Rd F a (.dK kvs) → Rpk G F kvs ds → Rp G F (.ref a) (.dct ds)
  | obj {a C dx : Addr} {fs : List (Str × V)} {c : Str} {ds : List (Str × D)} : F a = some (.ins C dx fs) → OC G F c C fs → Rpf G F fs ds → Rp G F (.ref a) (.obj c ds)
  | scr {a : Addr} {ns : List Int} : SqL G.K F a (ns.map V.int) → Rp G F (.ref a) (.scr ns)
  | cls {C : Addr} {c : Str} : G.cls c = some C → Rp G F (.ref C) (.cls c)
  | exc {a C d : Addr} {fs : List (Str × V)} {c : Str} {ds : List (Str × D)} : F a = some (XO C d a) → F d = some (.xd fs) → G.cls c = some C → Rpf G F fs ds → Rp G F (.ref a) (.exc c ds)
inductive Rps (G : Cg) (F : Hp) : List V → List D → Prop
  | nil : Rps G F [] []
  | cons {v : V} {vs : List V} {d : D} {ds : List D} : Rp G F v d → Rps G F vs ds → Rps G F (v :: vs) (d :: ds)
inductive Rpk (G : Cg) (F : Hp) : List (Key × V) → List (Key × D) → Prop
  | nil : Rpk G F [] []
  | cons {k : Key} {v : V} {vs : List (Key × V)} {d : D} {ds : List (Key × D)} : Rp G F v d → Rpk G F vs ds → Rpk G F ((k, v) :: vs) ((k, d) :: ds)
inductive Rpf (G : Cg) (F : Hp) : List (Str × V) → List (Str × D) → Prop
  | nil : Rpf G F [] []
  | cons {k : Str} {v : V} {vs : List (Str × V)} {d : D} {ds : List (Str × D)} : Rp G F v d → Rpf G F vs ds → Rpf G F ((k, v) :: vs) ((k, d) :: ds)
end
noncomputable def Ex (H H' : Hp) : Prop := ∀ a o, H a = some o → H' a = some o
theorem Ex.refl (H : Hp) : Ex H H := fun _ _ h => h
theorem Ex.trans {H H1 H2 : Hp} (a : Ex H H1) (b : Ex H1 H2) : Ex H H2 := fun x o h => b x o (a x o h)
theorem Ex.new {H : Hp} {p : Addr} {o : HO} (h : H p = none) : Ex H (upd H p o) := fun a u e => by
  rw [upd_ne (ne_of_none e h)]; exact e
theorem Ex.free {H H' : Hp} {p : Addr} (e : Ex H H') (h : H' p = none) : H p = none := by
  cases h1 : H p with
  | none => rfl
  | some o => rw [e p o h1] at h; cases h
theorem Ex.upd {H H' : Hp} {p : Addr} {o : HO} (e : Ex H H') : Ex (upd H p o) (upd H' p o) := fun a u h => by
  by_cases q : a = p
  · subst q; rw [upd_same] at h ⊢; exact h
  · rw [upd_ne q] at h ⊢; exact e a u h
theorem PlT.mono {K : PySem.W.Frag} {F F' : Hp} {v : V} (h : PlT K F v) (e : Ex F F') : PlT K F' v := by
  obtain ⟨a, o, vs, its, n, h1, h2, r⟩ := h
  exact ⟨a, o, vs, its, n, h1, e _ _ h2, r⟩
theorem OC.mono {G : Cg} {F F' : Hp} {c : Str} {C : Addr} {fs : List (Str × V)} (h : OC G F c C fs) (e : Ex F F') : OC G F' c C fs := ⟨h.1, fun f v p q => (h.2 f v p q).mono e⟩
theorem OC.nil {G : Cg} {F : Hp} {c : Str} {C : Addr} (h : G.cls c = some C) : OC G F c C [] := ⟨h, fun f v _ q => nomatch q⟩
theorem ex_rd {H H' : Hp} {a : Addr} {u : HO} (e : Ex H H') (h : Rd H a u) : Rd H' a u := by
  rcases h with h | ⟨o, h⟩
  · exact Or.inl (e a _ h)
  · exact Or.inr ⟨o, e a _ h⟩
theorem ex_l {K : PySem.W.Frag} {H H' : Hp} {a : Addr} {xs : List V} (e : Ex H H') (h : SqL K H a xs) : SqL K H' a xs := by
  rcases h with h | h
  · exact Or.inl (ex_rd e h)
  · exact Or.inr h
theorem ex_t {K : PySem.W.Frag} {H H' : Hp} {a : Addr} {xs : List V} (e : Ex H H') (h : SqT K H a xs) : SqT K H' a xs := by
  rcases h with h | h
  · exact Or.inl (ex_rd e h)
  · exact Or.inr h
mutual
theorem Rp.mono {G : Cg} {F F' : Hp} (e : Ex F F') : ∀ {v : V} {d : D}, Rp G F v d → Rp G F' v d
  | _, _, .non => .non
  | _, _, .bl b => .bl b
  | _, _, .int i => .int i
  | _, _, .str x => .str x
  | _, _, .lst h r => .lst (e _ _ h) (Rps.mono e r)
  | _, _, .tup h r => .tup (ex_t e h) (Rps.mono e r)
  | _, _, .dct h r => .dct (ex_rd e h) (Rpk.mono e r)
  | _, _, .obj h c r => .obj (e _ _ h) (c.mono e) (Rpf.mono e r)
  | _, _, .scr h => .scr (ex_l e h)
  | _, _, .cls h => .cls h
  | _, _, .exc h h' c r => .exc (e _ _ h) (e _ _ h') c (Rpf.mono e r)
theorem Rps.mono {G : Cg} {F F' : Hp} (e : Ex F F') : ∀ {v : List V} {d : List D}, Rps G F v d → Rps G F' v d
  | _, _, .nil => .nil
  | _, _, .cons h r => .cons (Rp.mono e h) (Rps.mono e r)
theorem Rpk.mono {G : Cg} {F F' : Hp} (e : Ex F F') : ∀ {v : List (Key × V)} {d : List (Key × D)}, Rpk G F v d → Rpk G F' v d
  | _, _, .nil => .nil
  | _, _, .cons h r => .cons (Rp.mono e h) (Rpk.mono e r)
theorem Rpf.mono {G : Cg} {F F' : Hp} (e : Ex F F') : ∀ {v : List (Str × V)} {d : List (Str × D)}, Rpf G F v d → Rpf G F' v d
  | _, _, .nil => .nil
  | _, _, .cons h r => .cons (Rp.mono e h) (Rpf.mono e r)
end
theorem Rps.length {G : Cg} {F : Hp} : ∀ {vs : List V} {ds : List D}, Rps G F vs ds → vs.length = ds.length
  | _, _, .nil => rfl
  | _, _, .cons _ r => by simp [Rps.length r]
theorem Rps.append {G : Cg} {F : Hp} : ∀ {vs ws : List V} {ds es : List D}, Rps G F vs ds → Rps G F ws es → Rps G F (vs ++ ws) (ds ++ es)
  | _, _, _, _, .nil, s => s
  | _, _, _, _, .cons h r, s => .cons h (Rps.append r s)
theorem Rps.get {G : Cg} {F : Hp} : ∀ {vs : List V} {ds : List D} {i : Nat} {d : D}, Rps G F vs ds → ds[i]? = some d → ∃ v, vs[i]? = some v ∧ Rp G F v d
  | _, _, _, _, .nil, e => by simp at e
  | _, _, 0, _, .cons r _, e => by simp at e; subst e; exact ⟨_, rfl, r⟩
  | _, _, i + 1, d, .cons _ t, e => by
    obtain ⟨u, h1, h2⟩ := Rps.get (i := i) (d := d) t (by simpa using e)
    exact ⟨u, by simpa using h1, h2⟩
theorem Rps.set {G : Cg} {F : Hp} {v : V} {d : D} (h : Rp G F v d) : ∀ {vs : List V} {ds : List D} (i : Nat), Rps G F vs ds → Rps G F (vs.set i v) (ds.set i d)
  | _, _, _, .nil => .nil
  | _, _, 0, .cons _ t => .cons h t
  | _, _, i + 1, .cons q t => .cons q (Rps.set h i t)
theorem Rps.take {G : Cg} {F : Hp} : ∀ {vs : List V} {ds : List D} (n : Nat), Rps G F vs ds → Rps G F (vs.take n) (ds.take n)
  | _, _, 0, _ => by simpa using Rps.nil
  | _, _, _ + 1, .nil => .nil
  | _, _, n + 1, .cons h t => .cons h (Rps.take n t)
theorem Rps.drop {G : Cg} {F : Hp} : ∀ {vs : List V} {ds : List D} (n : Nat), Rps G F vs ds → Rps G F (vs.drop n) (ds.drop n)
  | _, _, 0, r => r
  | _, _, _ + 1, .nil => .nil
  | _, _, n + 1, .cons _ t => Rps.drop n t
/-! ## trees of what is one's own -/
inductive OT where
  | leaf (d : D) | lst (ts : List OT) | dct (kvs : List (Key × OT)) | obj (c : Str) (fs : List (Str × OT))
mutual
/-- v is the root of a tree of things that stand in H at the addresses A; its leaves are frozen in F -/
inductive Own (G : Cg) (F H : Hp) : V → OT → List Addr → Prop
  | leaf {v : V} {d : D} : Rp G F v d → Own G F H v (.leaf d) []
  | lst {a : Addr} {vs : List V} {ts : List OT} {A : List Addr} : H a = some (.lst vs) → Owns G F H vs ts A → Own G F H (.ref a) (.lst ts) (a :: A)
  | dct {a : Addr} {vs : List (Key × V)} {ts : List (Key × OT)} {A : List Addr} : H a = some (.dK vs) → Ownk G F H vs ts A → Own G F H (.ref a) (.dct ts) (a :: A)
  | obj {a C dx : Addr} {vs : List (Str × V)} {c : Str} {ts : List (Str × OT)} {A : List Addr} : H a = some (.ins C dx vs) → OC G F c C vs → Ownf G F H vs ts A → Own G F H (.ref a) (.obj c ts) (a :: A)
inductive Owns (G : Cg) (F H : Hp) : List V → List OT → List Addr → Prop
  | nil : Owns G F H [] [] []
  | cons {v : V} {vs : List V} {t : OT} {ts : List OT} {A A' : List Addr} : Own G F H v t A → Owns G F H vs ts A' → Owns G F H (v :: vs) (t :: ts) (A ++ A')
inductive Ownk (G : Cg) (F H : Hp) : List (Key × V) → List (Key × OT) → List Addr → Prop
  | nil : Ownk G F H [] [] []
  | cons {k : Key} {v : V} {vs : List (Key × V)} {t : OT} {ts : List (Key × OT)} {A A' : List Addr} : Own G F H v t A → Ownk G F H vs ts A' → Ownk G F H ((k, v) :: vs) ((k, t) :: ts) (A ++ A')
inductive Ownf (G : Cg) (F H : Hp) : List (Str × V) → List (Str × OT) → List Addr → Prop
  | nil : Ownf G F H [] [] []
  | cons {k : Str} {v : V} {vs : List (Str × V)} {t : OT} {ts : List (Str × OT)} {A A' : List Addr} : Own G F H v t A → Ownf G F H vs ts A' → Ownf G F H ((k, v) :: vs) ((k, t) :: ts) (A ++ A')
end
mutual
/-- the same tree in another heap that holds the same at the tree's addresses -/
theorem Own.step {G : Cg} {F F' H H' : Hp} (e : Ex F F') : ∀ {v : V} {t : OT} {A : List Addr}, Own G F H v t A → (∀ a ∈ A, ∀ o, H a = some o → H' a = some o) → Own G F' H' v t A
  | _, _, _, .leaf r, _ => .leaf (r.mono e)
  | _, _, _, .lst h r, q => .lst (q _ (List.mem_cons_self ..) _ h) (Owns.step e r fun a m => q a (List.mem_cons_of_mem _ m))
  | _, _, _, .dct h r, q => .dct (q _ (List.mem_cons_self ..) _ h) (Ownk.step e r fun a m => q a (List.mem_cons_of_mem _ m))
  | _, _, _, .obj h c r, q => .obj (q _ (List.mem_cons_self ..) _ h) (c.mono e) (Ownf.step e r fun a m => q a (List.mem_cons_of_mem _ m))
theorem Owns.step {G : Cg} {F F' H H' : Hp} (e : Ex F F') : ∀ {v : List V} {t : List OT} {A : List Addr}, Owns G F H v t A → (∀ a ∈ A, ∀ o, H a = some o → H' a = some o) → Owns G F' H' v t A
  | _, _, _, .nil, _ => .nil
  | _, _, _, .cons h r, q => .cons (Own.step e h fun a m => q a (List.mem_append_left _ m)) (Owns.step e r fun a m => q a (List.mem_append_right _ m))
theorem Ownk.step {G : Cg} {F F' H H' : Hp} (e : Ex F F') : ∀ {v : List (Key × V)} {t : List (Key × OT)} {A : List Addr}, Ownk G F H v t A → (∀ a ∈ A, ∀ o, H a = some o → H' a = some o) → Ownk G F' H' v t A
  | _, _, _, .nil, _ => .nil
  | _, _, _, .cons h r, q => .cons (Own.step e h fun a m => q a (List.mem_append_left _ m)) (Ownk.step e r fun a m => q a (List.mem_append_right _ m))
theorem Ownf.step {G : Cg} {F F' H H' : Hp} (e : Ex F F') : ∀ {v : List (Str × V)} {t : List (Str × OT)} {A : List Addr}, Ownf G F H v t A → (∀ a ∈ A, ∀ o, H a = some o → H' a = some o) → Ownf G F' H' v t A
  | _, _, _, .nil, _ => .nil
  | _, _, _, .cons h r, q => .cons (Own.step e h fun a m => q a (List.mem_append_left _ m)) (Ownf.step e r fun a m => q a (List.mem_append_right _ m))
end
/-- neither a table of code objects nor a code object -/
noncomputable def Nt (o : HO) : Prop := (∀ ps, o ≠ .tbl ps) ∧ ∀ c q, o ≠ LamX.CodeO c q
theorem tabs_upd {T : List (Addr × Str)} {H : Hp} {p : Addr} {o' : HO} (t : LamX.Tabs T H) (hp : ∀ o, H p = some o → Nt o) : LamX.Tabs T (upd H p o') := fun x hx => by
  obtain ⟨ps, h1, h2, h3⟩ := t x hx
  refine ⟨ps, by rw [upd_ne (fun z => by rw [z] at h1; exact (hp _ h1).1 ps rfl)]; exact h1, h2, fun pos cv hc => ?_⟩
  obtain ⟨c, e1, e2⟩ := h3 pos cv hc
  exact ⟨c, e1, by rw [upd_ne (fun z => by rw [z] at e2; exact (hp _ e2).2 _ _ rfl)]; exact e2⟩
theorem nt_none {H : Hp} {p : Addr} (h : H p = none) : ∀ o, H p = some o → Nt o := fun o z => by rw [h] at z; cases z
theorem nt_lst (xs : List V) : Nt (.lst xs) := ⟨(fun _ z => by cases z), (fun _ _ z => by unfold LamX.CodeO at z; cases z)⟩
theorem nt_dK (xs : List (Key × V)) : Nt (.dK xs) := ⟨(fun _ z => by cases z), (fun _ _ z => by unfold LamX.CodeO at z; cases z)⟩
theorem nt_ins (C dx : Addr) (fs : List (Str × V)) : Nt (.ins C dx fs) := ⟨(fun _ z => by cases z), (fun _ _ z => by unfold LamX.CodeO at z; cases z)⟩
theorem nt_own (x : Addr) : Nt (.own x) := ⟨(fun _ z => by cases z), (fun _ _ z => by unfold LamX.CodeO at z; cases z)⟩
theorem nt_tup (xs : List V) : Nt (.tup xs) := ⟨(fun _ z => by cases z), (fun _ _ z => by unfold LamX.CodeO at z; cases z)⟩
theorem nt_frz (o : Obj) (u : HO) : Nt (.frz o u) := ⟨(fun _ z => by cases z), (fun _ _ z => by unfold LamX.CodeO at z; cases z)⟩
mutual
theorem Own.there {G : Cg} {F H : Hp} : ∀ {v : V} {t : OT} {A : List Addr}, Own G F H v t A → ∀ a ∈ A, ∃ o, H a = some o
  | _, _, _, .leaf _, a, m => by cases m
  | _, _, _, .lst h r, a, m => by
    rcases List.mem_cons.mp m with rfl | m
    · exact ⟨_, h⟩
    · exact Owns.there r a m
  | _, _, _, .dct h r, a, m => by
    rcases List.mem_cons.mp m with rfl | m
    · exact ⟨_, h⟩
    · exact Ownk.there r a m
  | _, _, _, .obj h _ r, a, m => by
    rcases List.mem_cons.mp m with rfl | m
    · exact ⟨_, h⟩
    · exact Ownf.there r a m
theorem Owns.there {G : Cg} {F H : Hp} : ∀ {v : List V} {t : List OT} {A : List Addr}, Owns G F H v t A → ∀ a ∈ A, ∃ o, H a = some o
  | _, _, _, .nil, a, m => by cases m
  | _, _, _, .cons h r, a, m => by
    rcases List.mem_append.mp m with m | m
    · exact Own.there h a m
    · exact Owns.there r a m
theorem Ownk.there {G : Cg} {F H : Hp} : ∀ {v : List (Key × V)} {t : List (Key × OT)} {A : List Addr}, Ownk G F H v t A → ∀ a ∈ A, ∃ o, H a = some o
  | _, _, _, .nil, a, m => by cases m
  | _, _, _, .cons h r, a, m => by
    rcases List.mem_append.mp m with m | m
    · exact Own.there h a m
    · exact Ownk.there r a m
theorem Ownf.there {G : Cg} {F H : Hp} : ∀ {v : List (Str × V)} {t : List (Str × OT)} {A : List Addr}, Ownf G F H v t A → ∀ a ∈ A, ∃ o, H a = some o
  | _, _, _, .nil, a, m => by cases m
  | _, _, _, .cons h r, a, m => by
    rcases List.mem_append.mp m with m | m
    · exact Own.there h a m
    · exact Ownf.there r a m
end
mutual
/-- what stands at a tree's addresses is neither a table nor a code object -/
theorem Own.nt {G : Cg} {F H : Hp} : ∀ {v : V} {t : OT} {A : List Addr}, Own G F H v t A → ∀ a ∈ A, ∀ o, H a = some o → Nt o
  | _, _, _, .leaf _, a, m, _, _ => by cases m
  | _, _, _, .lst h r, a, m, o, e => by
    rcases List.mem_cons.mp m with rfl | m
    · rw [h] at e; cases e; exact nt_lst _
    · exact Owns.nt r a m o e
  | _, _, _, .dct h r, a, m, o, e => by
    rcases List.mem_cons.mp m with rfl | m
    · rw [h] at e; cases e; exact nt_dK _
    · exact Ownk.nt r a m o e
  | _, _, _, .obj h _ r, a, m, o, e => by
    rcases List.mem_cons.mp m with rfl | m
    · rw [h] at e; cases e; exact nt_ins _ _ _
    · exact Ownf.nt r a m o e
theorem Owns.nt {G : Cg} {F H : Hp} : ∀ {v : List V} {t : List OT} {A : List Addr}, Owns G F H v t A → ∀ a ∈ A, ∀ o, H a = some o → Nt o
  | _, _, _, .nil, a, m, _, _ => by cases m
  | _, _, _, .cons h r, a, m, o, e => by
    rcases List.mem_append.mp m with m | m
    · exact Own.nt h a m o e
    · exact Owns.nt r a m o e
theorem Ownk.nt {G : Cg} {F H : Hp} : ∀ {v : List (Key × V)} {t : List (Key × OT)} {A : List Addr}, Ownk G F H v t A → ∀ a ∈ A, ∀ o, H a = some o → Nt o
  | _, _, _, .nil, a, m, _, _ => by cases m
  | _, _, _, .cons h r, a, m, o, e => by
    rcases List.mem_append.mp m with m | m
    · exact Own.nt h a m o e
    · exact Ownk.nt r a m o e
theorem Ownf.nt {G : Cg} {F H : Hp} : ∀ {v : List (Str × V)} {t : List (Str × OT)} {A : List Addr}, Ownf G F H v t A → ∀ a ∈ A, ∀ o, H a = some o → Nt o
  | _, _, _, .nil, a, m, _, _ => by cases m
  | _, _, _, .cons h r, a, m, o, e => by
    rcases List.mem_append.mp m with m | m
    · exact Own.nt h a m o e
    · exact Ownf.nt r a m o e
end
mutual
/-- what the tree is as data -/
noncomputable def OT.toD : OT → D
  | .leaf d => d
  | .lst ts => .lst (OT.toDs ts)
  | .dct ts => .dct (OT.toDk ts)
  | .obj c ts => .obj c (OT.toDf ts)
noncomputable def OT.toDs : List OT → List D
  | [] => []
  | t :: ts => t.toD :: OT.toDs ts
noncomputable def OT.toDk : List (Key × OT) → List (Key × D)
  | [] => []
  | (k, t) :: ts => (k, t.toD) :: OT.toDk ts
noncomputable def OT.toDf : List (Str × OT) → List (Str × D)
  | [] => []
  | (k, t) :: ts => (k, t.toD) :: OT.toDf ts
end
mutual
theorem Own.froze {G : Cg} {F H F' : Hp} (e : Ex F F') : ∀ {v : V} {t : OT} {A : List Addr}, Own G F H v t A → (∀ a ∈ A, ∀ o, H a = some o → F' a = some o) → Rp G F' v t.toD
  | _, _, _, .leaf r, _ => r.mono e
  | _, _, _, .lst h r, q => .lst (q _ (List.mem_cons_self ..) _ h) (Owns.froze e r fun a m => q a (List.mem_cons_of_mem _ m))
  | _, _, _, .dct h r, q => .dct (.inl (q _ (List.mem_cons_self ..) _ h)) (Ownk.froze e r fun a m => q a (List.mem_cons_of_mem _ m))
  | _, _, _, .obj h c r, q => .obj (q _ (List.mem_cons_self ..) _ h) (c.mono e) (Ownf.froze e r fun a m => q a (List.mem_cons_of_mem _ m))
theorem Owns.froze {G : Cg} {F H F' : Hp} (e : Ex F F') : ∀ {v : List V} {t : List OT} {A : List Addr}, Owns G F H v t A → (∀ a ∈ A, ∀ o, H a = some o → F' a = some o) → Rps G F' v (OT.toDs t)
  | _, _, _, .nil, _ => .nil
  | _, _, _, .cons h r, q => .cons (Own.froze e h fun a m => q a (List.mem_append_left _ m)) (Owns.froze e r fun a m => q a (List.mem_append_right _ m))
theorem Ownk.froze {G : Cg} {F H F' : Hp} (e : Ex F F') : ∀ {v : List (Key × V)} {t : List (Key × OT)} {A : List Addr}, Ownk G F H v t A → (∀ a ∈ A, ∀ o, H a = some o → F' a = some o) → Rpk G F' v (OT.toDk t)
  | _, _, _, .nil, _ => .nil
  | _, _, _, .cons h r, q => .cons (Own.froze e h fun a m => q a (List.mem_append_left _ m)) (Ownk.froze e r fun a m => q a (List.mem_append_right _ m))
theorem Ownf.froze {G : Cg} {F H F' : Hp} (e : Ex F F') : ∀ {v : List (Str × V)} {t : List (Str × OT)} {A : List Addr}, Ownf G F H v t A → (∀ a ∈ A, ∀ o, H a = some o → F' a = some o) → Rpf G F' v (OT.toDf t)
  | _, _, _, .nil, _ => .nil
  | _, _, _, .cons h r, q => .cons (Own.froze e h fun a m => q a (List.mem_append_left _ m)) (Ownf.froze e r fun a m => q a (List.mem_append_right _ m))
end
/-! ## slots, the world of a body -/
/-- what a slot holds: nothing known; data; a tree of this body's own; a tree that the caller lent; a tree that may be read only, for a while -/
inductive Sl where
  | emp | dat (d : D) | own (t : OT) | io (t : OT) | lck (t : OT)
noncomputable abbrev Env := List Sl
/-- the background of a body: the constants, the frozen heap and the heap at its entry, what else must stay (X), the lent values by slot, their addresses at the entry -/
structure Bg where
  G : Cg
  F0 : Hp
  H0 : Hp
  X : Hp
  par : List (Nat × V)
  lent : List Addr
  lk : List (Nat × V × OT)
/-- all but tables stays -/
noncomputable def ExN (H H' : Hp) : Prop := ∀ a o, (∀ ps, o ≠ .tbl ps) → H a = some o → H' a = some o
/-- how a heap grows: tables may be written -/
structure Gw (T : List (Addr × Str)) (H H' : Hp) : Prop where
  keep : ExN H H'
  pin : ∀ a, H a ≠ none → H' a ≠ none
  tab : LamX.Tabs T H'
theorem Gw.of {T : List (Addr × Str)} {H H' : Hp} (e : Ex H H') (t : LamX.Tabs T H) : Gw T H H' := ⟨fun a o _ h => e a o h, fun a m z => m (e.free z), t.ext e⟩
/-- what is locked can be read -/
noncomputable def LkOk (B : Bg) (F : Hp) : Prop := ∀ i v t, (i, v, t) ∈ B.lk → ∃ A, Own B.G F B.X v t A
theorem LkOk.mono {B : Bg} {F F' : Hp} (h : LkOk B F) (e : Ex F F') : LkOk B F' := fun i v t m => by
  obtain ⟨A, q⟩ := h i v t m
  exact ⟨A, q.step e fun _ _ _ z => z⟩
noncomputable def SlOk (B : Bg) (F H : Hp) (i : Nat) (o : Option V) (s : Sl) (A : List Addr) : Prop := match s with
  | .emp => A = []
  | .dat d => A = [] ∧ ∃ v, o = some v ∧ Rp B.G F v d
  | .own t => ∃ v, o = some v ∧ Own B.G F H v t A ∧ ∀ a ∈ A, B.H0 a = none
  | .io t => ∃ v, o = some v ∧ Own B.G F H v t A ∧ (i, v) ∈ B.par
  | .lck t => A = [] ∧ ∃ v, o = some v ∧ (i, v, t) ∈ B.lk
structure Wd (B : Bg) (F H : Hp) : Prop where
  sub : Ex F H
  old : ∀ a, B.H0 a ≠ none → F a = B.F0 a
  keep : ∀ a o, a ∉ B.lent → (∀ ps, o ≠ .tbl ps) → B.H0 a = some o → H a = some o
  pin : ∀ a, B.H0 a ≠ none → H a ≠ none
  ext : ∀ a o, B.X a = some o → H a = some o ∧ F a = none
  lk : LkOk B F
  tab : LamX.Tabs B.G.tb H
  xnt : ∀ a o, B.X a = some o → Nt o
/-- who holds what -/
structure Hds (B : Bg) (F H : Hp) (σ : L2.St) (ρ : Env) (A : Nat → List Addr) : Prop where
  ok : ∀ (i : Nat) (s : Sl), ρ[i]? = some s → SlOk B F H i (σ[i]?).join s (A i)
  nd : ∀ i, (A i).Nodup
  apart : ∀ i j a, i ≠ j → a ∈ A i → a ∉ A j
  free : ∀ i a, a ∈ A i → F a = none ∧ B.X a = none ∧ H a ≠ none ∧ (B.H0 a = none ∨ a ∈ B.lent)
structure Sta (B : Bg) (F H : Hp) (σ : L2.St) (ρ : Env) : Prop extends Wd B F H where
  own : ∃ A, Hds B F H σ ρ A
  len : σ.length = ρ.length
theorem SlOk.step {B : Bg} {F H F' H' : Hp} {i : Nat} {o : Option V} {s : Sl} {A : List Addr} (e : Ex F F') (hh : ∀ a ∈ A, ∀ u, H a = some u → H' a = some u) (h : SlOk B F H i o s A) : SlOk B F' H' i o s A := by
  cases s with
  | emp => exact h
  | dat d => obtain ⟨rfl, v, rfl, r⟩ := h; exact ⟨rfl, v, rfl, r.mono e⟩
  | own t => obtain ⟨v, rfl, r, z⟩ := h; exact ⟨v, rfl, r.step e hh, z⟩
  | io t => obtain ⟨v, rfl, r, m⟩ := h; exact ⟨v, rfl, r.step e hh, m⟩
  | lck t => exact h
theorem SlOk.nt {B : Bg} {F H : Hp} {i : Nat} {o : Option V} {s : Sl} {A : List Addr} (h : SlOk B F H i o s A) : ∀ a ∈ A, ∀ u, H a = some u → Nt u := by
  cases s with
  | emp => intro a m; rw [show A = [] from h] at m; cases m
  | dat d => obtain ⟨rfl, _⟩ := h; intro a m; cases m
  | own t => obtain ⟨v, _, r, _⟩ := h; exact r.nt
  | io t => obtain ⟨v, _, r, _⟩ := h; exact r.nt
  | lck t => obtain ⟨rfl, _⟩ := h; intro a m; cases m
/-- what all slots hold stays, tables may be written -/
theorem Hds.stepN {B : Bg} {F H F' H' : Hp} {σ : L2.St} {ρ : Env} {A : Nat → List Addr} (S : Hds B F H σ ρ A) (e : Ex F F') (hh : ∀ a, F a = none → B.X a = none → ∀ u, Nt u → H a = some u → H' a = some u) (hf : ∀ a, F a = none → B.X a = none → H a ≠ none → F' a = none ∧ H' a ≠ none) : Hds B F' H' σ ρ A where
  ok := fun i s h => (S.ok i s h).step e fun a m u hu => hh a (S.free i a m).1 (S.free i a m).2.1 u ((S.ok i s h).nt a m u hu) hu
  nd := S.nd
  apart := S.apart
  free := fun i a m => by
    obtain ⟨h1, h2, h3, h4⟩ := S.free i a m
    obtain ⟨q1, q2⟩ := hf a h1 h2 h3
    exact ⟨q1, h2, q2, h4⟩
/-- what all slots hold stays -/
theorem Hds.step {B : Bg} {F H F' H' : Hp} {σ : L2.St} {ρ : Env} {A : Nat → List Addr} (S : Hds B F H σ ρ A) (e : Ex F F') (hh : ∀ a, F a = none → B.X a = none → ∀ u, H a = some u → H' a = some u ∧ F' a = none) : Hds B F' H' σ ρ A where
  ok := fun i s h => (S.ok i s h).step e fun a m u hu => (hh a (S.free i a m).1 (S.free i a m).2.1 u hu).1
  nd := S.nd
  apart := S.apart
  free := fun i a m => by
    obtain ⟨h1, h2, h3, h4⟩ := S.free i a m
    obtain ⟨u, hu⟩ := Option.ne_none_iff_exists'.mp h3
    obtain ⟨q1, q2⟩ := hh a h1 h2 u hu
    exact ⟨q2, h2, (by rw [q1]; exact fun z => nomatch z), h4⟩
theorem Wd.fresh {B : Bg} {F H : Hp} (W : Wd B F H) {p : Addr} (hp : H p = none) : B.H0 p = none := by
  cases h : B.H0 p with
  | none => rfl
  | some o => exact absurd hp (W.pin p (by rw [h]; exact fun z => nomatch z))
theorem Wd.xfree {B : Bg} {F H : Hp} (S : Wd B F H) {p : Addr} (hp : H p = none) : B.X p = none := by
  cases h : B.X p with
  | none => rfl
  | some o => rw [(S.ext p o h).1] at hp; cases hp
theorem Wd.new {B : Bg} {F H : Hp} {p : Addr} {o : HO} (S : Wd B F H) (hp : H p = none) : Wd B (upd F p o) (upd H p o) where
  sub := S.sub.upd
  old := fun a h => by
    have n : a ≠ p := fun q => h (by rw [q]; exact S.fresh hp)
    rw [upd_ne n]; exact S.old a h
  keep := fun a u hm hn h => by
    have n : a ≠ p := fun q => by rw [q, S.fresh hp] at h; cases h
    rw [upd_ne n]; exact S.keep a u hm hn h
  pin := fun a m => by
    by_cases n : a = p
    · rw [n, upd_same]; exact fun z => nomatch z
    · rw [upd_ne n]; exact S.pin a m
  ext := fun a u h => by
    have q := S.ext a u h
    have n : a ≠ p := ne_of_none q.1 hp
    rw [upd_ne n, upd_ne n]; exact q
  lk := S.lk.mono (Ex.new (S.sub.free hp))
  tab := tabs_upd S.tab (nt_none hp)
  xnt := S.xnt
/-- the background of what is new and not frozen -/
theorem Wd.own {B : Bg} {F H : Hp} {p : Addr} {o : HO} (S : Wd B F H) (hp : H p = none) : Wd B F (upd H p o) where
  sub := fun a u h => by
    have n : a ≠ p := ne_of_none (S.sub a u h) hp
    rw [upd_ne n]; exact S.sub a u h
  old := S.old
  keep := fun a u hm hn h => by
    have n : a ≠ p := fun q => by rw [q, S.fresh hp] at h; cases h
    rw [upd_ne n]; exact S.keep a u hm hn h
  pin := fun a m => by
    by_cases n : a = p
    · rw [n, upd_same]; exact fun z => nomatch z
    · rw [upd_ne n]; exact S.pin a m
  ext := fun a u h => by
    have q := S.ext a u h
    have n : a ≠ p := ne_of_none q.1 hp
    rw [upd_ne n]; exact q
  lk := S.lk
  tab := tabs_upd S.tab (nt_none hp)
  xnt := S.xnt
/-- a new frozen object -/
theorem Sta.new {B : Bg} {F H : Hp} {σ : L2.St} {ρ : Env} {p : Addr} {o : HO} (S : Sta B F H σ ρ) (hp : H p = none) : Sta B (upd F p o) (upd H p o) σ ρ where
  toWd := S.toWd.new hp
  own := by
    obtain ⟨A, h⟩ := S.own
    exact ⟨A, h.step (Ex.new (S.sub.free hp)) fun a f _ u hu => by
      have n : a ≠ p := ne_of_none hu hp
      rw [upd_ne n, upd_ne n]; exact ⟨hu, f⟩⟩
  len := S.len
/-! ## outcomes -/
inductive R (α : Type) where
  | ok (a : α) (ρ : Env) | err (c : Str) (fs : List (Str × D)) (ρ : Env) | bad
noncomputable def R.bind {α β : Type} (r : R α) (k : α → Env → R β) : R β :=
  match r with
  | .ok a ρ => k a ρ
  | .err c fs ρ => .err c fs ρ
  | .bad => .bad
/-- what a def hands back: data, or a tree for the caller to own -/
inductive AV where
  | dat (d : D) | own (t : OT)
inductive O where
  | nx (ρ : Env) | rt (d : D) (ρ : Env) | ro (t : OT) (ρ : Env) | bk (ρ : Env) | ct (ρ : Env) | err (c : Str) (fs : List (Str × D)) (ρ : Env) | bad
/-- what is wanted of an exception that leaves: its class, its dict, the slots, the heap -/
noncomputable abbrev Wx := Value → Option Addr → L2.St → Hp → Prop
noncomputable def Errs (B : Bg) (W : Wx) (F : Hp) (σ : L2.St) (c : Str) (fs : List (Str × D)) (ρ : Env) : Prop :=
  ∀ F' H' C dd vfs, Ex F F' → Sta B F' H' σ ρ → B.G.cls c = some C → F' dd = some (.xd vfs) → Rpf B.G F' vfs fs → W (.ref C) (some dd) σ H'
/-- how a value tells data: by the slots, what is frozen, the heap -/
noncomputable abbrev Rl (β α : Type) := L2.St → Hp → Hp → β → α → Prop
noncomputable def Fits {α β : Type} (B : Bg) (W : Wx) (rel : Rl β α) (σ : L2.St) (F : Hp) (Q : β → Hp → Prop) : R α → Prop
  | .ok a ρ => ∀ v F' H', Ex F F' → Sta B F' H' σ ρ → rel σ F' H' v a → Q v H'
  | .err c fs ρ => Errs B W F σ c fs ρ
  | .bad => False
theorem Errs.mono {B : Bg} {W : Wx} {F F1 : Hp} {σ : L2.St} {c : Str} {fs : List (Str × D)} {ρ : Env} (e : Ex F F1) (h : Errs B W F σ c fs ρ) : Errs B W F1 σ c fs ρ :=
  fun F' H' C dd vfs e' => h F' H' C dd vfs (e.trans e')
theorem Fits.mono {α β : Type} {B : Bg} {W : Wx} {rel : Rl β α} {σ : L2.St} {F F1 : Hp} {Q : β → Hp → Prop} (e : Ex F F1) : ∀ {r : R α}, Fits B W rel σ F Q r → Fits B W rel σ F1 Q r
  | .ok _ _, h => fun v F' H' e' => h v F' H' (e.trans e')
  | .err _ _ _, h => Errs.mono e h
  | .bad, h => h
/-- the first part of two -/
theorem Fits.fst {α β α1 β1 : Type} {B : Bg} {W : Wx} {rel : Rl β α} {rel1 : Rl β1 α1} {σ : L2.St} {F : Hp} {Q : β → Hp → Prop} {Q1 : β1 → Hp → Prop} {k : α1 → Env → R α} :
    ∀ {r : R α1}, Fits B W rel σ F Q (r.bind k) → (∀ v a ρ' F' H', Ex F F' → Sta B F' H' σ ρ' → rel1 σ F' H' v a → Fits B W rel σ F' Q (k a ρ') → Q1 v H') → Fits B W rel1 σ F Q1 r
  | .ok a ρ', h, q => fun v F' H' e S r => q v a ρ' F' H' e S r (Fits.mono e h)
  | .err _ _ _, h, _ => h
  | .bad, h, _ => h
/-- what a reading does, told on data -/
noncomputable def Ev {α β : Type} (G : Cg) (W : Wx) (rel : Rl β α) (t : L2.St → Hp → (β → Hp → Prop) → Prop) (m : Env → R α) : Prop :=
  ∀ (B : Bg) (F H : Hp) (σ : L2.St) (ρ : Env) (Q : β → Hp → Prop), B.G = G → Sta B F H σ ρ → Fits B W rel σ F Q (m ρ) → t σ H Q
noncomputable abbrev ME := Env → R D
noncomputable abbrev MT := Env → R Bool
noncomputable abbrev MA := Env → R (List D)
noncomputable abbrev MS := Env → O
noncomputable abbrev RE (G : Cg) : Rl V D := fun _ F _ v d => Rp G F v d
noncomputable abbrev EvE (G : Cg) (W : Wx) (t : TE) (m : ME) : Prop := Ev G W (RE G) t m
noncomputable abbrev Req : Rl Bool Bool := fun _ _ _ a b => a = b
noncomputable abbrev EvT (G : Cg) (W : Wx) (t : TT) (m : MT) : Prop := Ev G W Req t m
noncomputable abbrev RA (G : Cg) : Rl (List V) (List D) := fun _ F _ v d => Rps G F v d
noncomputable abbrev EvA (G : Cg) (W : Wx) (t : TA) (m : MA) : Prop := Ev G W (RA G) t m
end Eo
namespace Eo
open PySem L2
/-! ## changes of a state -/
theorem join_get {σ : L2.St} {i : Nat} {v : V} (h : i < σ.length) : ((σ.set i (some v))[i]?).join = some v := by
  rw [List.getElem?_set_self h]; rfl
theorem join_some {σ : L2.St} {i : Nat} {v : V} (h : (σ[i]?).join = some v) : σ[i]? = some (some v) := by
  cases w : σ[i]? with
  | none => rw [w] at h; cases h
  | some o => rw [w] at h; exact congrArg some h
theorem Sta.lt {B : Bg} {F H : Hp} {σ : L2.St} {ρ : Env} (S : Sta B F H σ ρ) {i : Nat} {s : Sl} (h : ρ[i]? = some s) : i < σ.length := by
  rw [S.len]; exact (List.getElem?_eq_some_iff.mp h).1
theorem set_get {ρ : Env} {i j : Nat} {s t : Sl} (h : (ρ.set i s)[j]? = some t) : (i = j ∧ t = s ∧ i < ρ.length) ∨ (i ≠ j ∧ ρ[j]? = some t) := by
  by_cases e : i = j
  · subst e
    have hl := (List.getElem?_eq_some_iff.mp h).1
    rw [List.length_set] at hl
    rw [List.getElem?_set_self hl] at h
    cases h
    exact .inl ⟨rfl, rfl, hl⟩
  · rw [List.getElem?_set_ne e] at h
    exact .inr ⟨e, h⟩
/-- the addresses, those of one slot others -/
noncomputable def putA (A : Nat → List Addr) (i : Nat) (L : List Addr) : Nat → List Addr := fun j => if j = i then L else A j
theorem putA_same {A : Nat → List Addr} {i : Nat} {L : List Addr} : putA A i L i = L := if_pos rfl
theorem putA_ne {A : Nat → List Addr} {i j : Nat} {L : List Addr} (h : j ≠ i) : putA A i L j = A j := if_neg h
/-- one slot holds another thing -/
theorem Hds.put {B : Bg} {F H : Hp} {σ σ' : L2.St} {ρ : Env} {A : Nat → List Addr} {i : Nat} {s : Sl} {L : List Addr} (S : Hds B F H σ ρ A) (hσ : ∀ j, i ≠ j → σ'[j]? = σ[j]?) (ok : i < ρ.length → SlOk B F H i (σ'[i]?).join s L) (nd : L.Nodup)
    (ap : ∀ j a, j ≠ i → a ∈ L → a ∉ A j) (fr : ∀ a, a ∈ L → F a = none ∧ B.X a = none ∧ H a ≠ none ∧ (B.H0 a = none ∨ a ∈ B.lent)) : Hds B F H σ' (ρ.set i s) (putA A i L) where
  ok := fun j t h => by
    rcases set_get h with ⟨rfl, rfl, hl⟩ | ⟨n, h⟩
    · rw [putA_same]; exact ok hl
    · rw [putA_ne n.symm, hσ j n]; exact S.ok j t h
  nd := fun j => by
    by_cases e : j = i
    · rw [e, putA_same]; exact nd
    · rw [putA_ne e]; exact S.nd j
  apart := fun j k a n hj hk => by
    by_cases e : j = i
    · subst e
      rw [putA_same] at hj
      rw [putA_ne n.symm] at hk
      exact ap k a n.symm hj hk
    · rw [putA_ne e] at hj
      by_cases e' : k = i
      · subst e'
        rw [putA_same] at hk
        exact ap j a e hk hj
      · rw [putA_ne e'] at hk
        exact S.apart j k a n hj hk
  free := fun j a m => by
    by_cases e : j = i
    · rw [e, putA_same] at m; exact fr a m
    · rw [putA_ne e] at m; exact S.free j a m
/-- a slot is stored -/
theorem Sta.set {B : Bg} {F H : Hp} {σ : L2.St} {ρ : Env} {i : Nat} {v : V} {d : D} (S : Sta B F H σ ρ) (r : Rp B.G F v d) : Sta B F H (σ.set i (some v)) (ρ.set i (.dat d)) where
  toWd := S.toWd
  len := by rw [List.length_set, List.length_set]; exact S.len
  own := by
    obtain ⟨A, h⟩ := S.own
    exact ⟨_, h.put (fun j n => List.getElem?_set_ne n) (fun hl => ⟨rfl, v, join_get (by rw [S.len]; exact hl), r⟩) .nil (fun j a _ m => by cases m) fun a m => by cases m⟩
theorem Sta.emp {B : Bg} {F H : Hp} {σ : L2.St} {ρ : Env} (i : Nat) (v : Option V) (S : Sta B F H σ ρ) : Sta B F H (σ.set i v) (ρ.set i .emp) where
  toWd := S.toWd
  len := by rw [List.length_set, List.length_set]; exact S.len
  own := by
    obtain ⟨A, h⟩ := S.own
    exact ⟨_, h.put (fun j n => List.getElem?_set_ne n) (fun hl => rfl) .nil (fun j a _ m => by cases m) fun a m => by cases m⟩
/-! what else must stay -/
noncomputable def Bg.with (B : Bg) (X : Hp) : Bg := { B with X := X }
noncomputable def Bg.also (B : Bg) (p : Addr) (o : HO) : Bg := B.with (upd B.X p o)
theorem SlOk.withX {B : Bg} {X F H : Hp} {i : Nat} {o : Option V} {s : Sl} {A : List Addr} (h : SlOk B F H i o s A) : SlOk (B.with X) F H i o s A := by
  cases s <;> exact h
theorem SlOk.lessX {B : Bg} {X F H : Hp} {i : Nat} {o : Option V} {s : Sl} {A : List Addr} (h : SlOk (B.with X) F H i o s A) : SlOk B F H i o s A := by
  cases s <;> exact h
theorem LkOk.withX {B : Bg} {X F : Hp} (h : LkOk B F) (e : Ex B.X X) : LkOk (B.with X) F := fun i v t m => by
  obtain ⟨A, q⟩ := h i v t m
  exact ⟨A, q.step (Ex.refl F) fun a _ o z => e a o z⟩
/-- one more thing must stay -/
theorem Sta.also {B : Bg} {F H : Hp} {σ : L2.St} {ρ : Env} {p : Addr} {o : HO} (S : Sta B F H σ ρ) (hp : H p = none) (nt : Nt o := by first | exact nt_lst _ | exact nt_dK _ | exact nt_ins _ _ _ | exact nt_own _ | exact nt_tup _ | exact nt_frz _ _ | assumption) : Sta (B.also p o) F (upd H p o) σ ρ where
  toWd := ⟨(S.toWd.own hp).sub, S.old, (S.toWd.own hp).keep, (S.toWd.own hp).pin, fun a u h => by
    by_cases n : a = p
    · subst n
      have h' : upd B.X a o a = some u := h
      rw [upd_same] at h' ⊢
      exact ⟨h', S.sub.free hp⟩
    · have h' : upd B.X p o a = some u := h
      rw [upd_ne n] at h' ⊢
      exact S.ext a u h', S.lk.withX (Ex.new (S.xfree hp)), (S.toWd.own hp).tab, fun a u h => by
    have h' : upd B.X p o a = some u := h
    by_cases n : a = p
    · rw [n, upd_same] at h'; cases h'; exact nt
    · rw [upd_ne n] at h'; exact S.xnt a u h'⟩
  len := S.len
  own := by
    obtain ⟨A, h⟩ := S.own
    have np : ∀ i a, a ∈ A i → a ≠ p := fun i a m z => (h.free i a m).2.2.1 (by rw [z]; exact hp)
    exact ⟨A, fun i s q => ((h.ok i s q).step (Ex.refl F) fun a m u hu => by rw [upd_ne (np i a m)]; exact hu).withX, h.nd, h.apart, fun i a m => by
      have n := np i a m
      obtain ⟨h1, h2, h3, h4⟩ := h.free i a m
      exact ⟨h1, by show upd B.X p o a = none; rw [upd_ne n]; exact h2, by rw [upd_ne n]; exact h3, h4⟩⟩
/-- a thing that must stay becomes another one -/
theorem Sta.reX {B : Bg} {X F H : Hp} {σ : L2.St} {ρ : Env} {q : Addr} {o : HO} (o' : HO) (S : Sta (B.with X) F H σ ρ) (L : LkOk B F) (hX : Ex B.X X) (hq : X q = some o) (hb : B.X q = none) (h0 : B.H0 q = none ∨ q ∈ B.lent) (nt : Nt o := by first | exact nt_lst _ | exact nt_dK _ | exact nt_ins _ _ _ | exact nt_own _ | exact nt_tup _ | exact nt_frz _ _ | assumption) (nt' : Nt o' := by first | exact nt_lst _ | exact nt_dK _ | exact nt_ins _ _ _ | exact nt_own _ | exact nt_tup _ | exact nt_frz _ _ | assumption) :
    Sta (B.with (upd X q o')) F (upd H q o') σ ρ ∧ H q = some o ∧ F q = none := by
  have e : H q = some o ∧ F q = none := S.ext q o hq
  have eX : Ex B.X (upd X q o') := fun a u z => by rw [upd_ne (ne_of_none z hb)]; exact hX a u z
  refine ⟨⟨⟨fun a u h => ?_, S.old, fun a u hm hn h => ?_, fun a m => ?_, fun a u h => ?_, L.withX eX, tabs_upd S.tab (fun u z => by rw [e.1] at z; cases z; exact nt), fun a u h => by
    have h' : upd X q o' a = some u := h
    by_cases n : a = q
    · rw [n, upd_same] at h'; cases h'; exact nt'
    · rw [upd_ne n] at h'; exact S.xnt a u h'⟩, ?_, S.len⟩, e⟩
  · rw [upd_ne (ne_of_none h e.2)]; exact S.sub a u h
  · have n : a ≠ q := fun z => by
      subst z
      rcases h0 with h0 | h0
      · have h' : B.H0 a = some u := h; rw [h0] at h'; cases h'
      · exact hm h0
    rw [upd_ne n]; exact S.keep a u hm hn h
  · by_cases n : a = q
    · rw [n, upd_same]; exact fun z => nomatch z
    · rw [upd_ne n]; exact S.pin a m
  · have h' : upd X q o' a = some u := h
    by_cases n : a = q
    · subst n
      rw [upd_same] at h' ⊢
      exact ⟨h', e.2⟩
    · rw [upd_ne n] at h' ⊢
      exact S.ext a u h'
  · obtain ⟨A, h⟩ := S.own
    have np : ∀ i a, a ∈ A i → a ≠ q := fun i a m z => by
      have z1 : X a = none := (h.free i a m).2.1
      rw [z, hq] at z1; cases z1
    exact ⟨A, fun i s k => ((h.ok i s k).step (Ex.refl F) fun a m u hu => by rw [upd_ne (np i a m)]; exact hu).lessX.withX, h.nd, h.apart, fun i a m => by
      have n := np i a m
      obtain ⟨h1, h2, h3, h4⟩ := h.free i a m
      have h2' : X a = none := h2
      exact ⟨h1, by show upd X q o' a = none; rw [upd_ne n]; exact h2', by rw [upd_ne n]; exact h3, h4⟩⟩
theorem upd_idem {H : Hp} {p : Addr} {o o' : HO} : upd (upd H p o) p o' = upd H p o' := upd_upd
theorem Sta.less {B : Bg} {F H : Hp} {σ : L2.St} {ρ : Env} {p : Addr} {o : HO} (L : LkOk B F) (hx : B.X p = none) (h0 : B.H0 p = none) (S : Sta (B.also p o) F H σ ρ) (o' : HO) (nt : Nt o := by first | exact nt_lst _ | exact nt_dK _ | exact nt_ins _ _ _ | exact nt_own _ | exact nt_tup _ | exact nt_frz _ _ | assumption) (nt' : Nt o' := by first | exact nt_lst _ | exact nt_dK _ | exact nt_ins _ _ _ | exact nt_own _ | exact nt_tup _ | exact nt_frz _ _ | assumption) : Sta (B.also p o') F (upd H p o') σ ρ ∧ H p = some o ∧ F p = none := by
  have z := Sta.reX (B := B) (X := upd B.X p o) o' S L (Ex.new hx) upd_same hx (.inl h0)
  rw [upd_idem] at z
  exact z
/-- less must stay -/
theorem Sta.lessX {B : Bg} {X F H : Hp} {σ : L2.St} {ρ : Env} (S : Sta (B.with X) F H σ ρ) (L : LkOk B F) (hx : Ex B.X X) : Sta B F H σ ρ where
  toWd := ⟨S.sub, S.old, S.keep, S.pin, fun a u h => S.ext a u (hx a u h), L, S.tab, fun a u h => S.xnt a u (hx a u h)⟩
  len := S.len
  own := by
    obtain ⟨A, h⟩ := S.own
    exact ⟨A, fun i s k => (h.ok i s k).lessX, h.nd, h.apart, fun i a m => by
      obtain ⟨h1, h2, h3, h4⟩ := h.free i a m
      exact ⟨h1, hx.free h2, h3, h4⟩⟩
/-- some addresses of H are frozen -/
noncomputable def join (F H : Hp) (A : List Addr) : Hp := fun a => if a ∈ A then H a else F a
theorem join_in {F H : Hp} {A : List Addr} {a : Addr} (h : a ∈ A) : join F H A a = H a := if_pos h
theorem join_out {F H : Hp} {A : List Addr} {a : Addr} (h : a ∉ A) : join F H A a = F a := if_neg h
theorem join_ex {F H : Hp} {A : List Addr} (h : ∀ a ∈ A, F a = none) : Ex F (join F H A) := fun a o e => by
  rw [join_out (fun m => by rw [h a m] at e; cases e)]; exact e
/-- what had to stay is frozen -/
theorem Sta.melt {B : Bg} {X F H : Hp} {σ : L2.St} {ρ : Env} {A : List Addr} (S : Sta (B.with X) F H σ ρ) (L : LkOk B F) (hx : Ex B.X X) (hA : ∀ a ∈ A, X a ≠ none ∧ B.X a = none ∧ B.H0 a = none) : Ex F (join F X A) ∧ Sta B (join F X A) H σ ρ := by
  have fA : ∀ a ∈ A, F a = none := fun a m => by
    obtain ⟨o, ho⟩ := Option.ne_none_iff_exists'.mp (hA a m).1
    exact (S.ext a o ho).2
  have ex := join_ex (H := X) fA
  refine ⟨ex, ⟨⟨fun a u h => ?_, fun a h => ?_, S.keep, S.pin, fun a u h => ?_, L.mono ex, S.tab, fun a u h => S.xnt a u (hx a u h)⟩, ?_, S.len⟩⟩
  · by_cases m : a ∈ A
    · rw [join_in m] at h; exact (S.ext a u h).1
    · rw [join_out m] at h; exact S.sub a u h
  · rw [join_out (fun m => h (hA a m).2.2)]; exact S.old a h
  · have m : a ∉ A := fun m => by rw [(hA a m).2.1] at h; cases h
    rw [join_out m]; exact S.ext a u (hx a u h)
  · obtain ⟨A', h⟩ := S.own
    have np : ∀ i a, a ∈ A' i → a ∉ A := fun i a m m' => (hA a m').1 (h.free i a m).2.1
    exact ⟨A', fun i s k => ((h.ok i s k).step ex fun _ _ _ z => z).lessX, h.nd, h.apart, fun i a m => by
      obtain ⟨h1, h2, h3, h4⟩ := h.free i a m
      exact ⟨by rw [join_out (np i a m)]; exact h1, hx.free h2, h3, h4⟩⟩
theorem Sta.keepIt {B : Bg} {F H : Hp} {σ : L2.St} {ρ : Env} {p : Addr} {o : HO} (L : LkOk B F) (h0 : B.H0 p = none) (hx : B.X p = none) (S : Sta (B.also p o) F H σ ρ) : Sta B (upd F p o) H σ ρ := by
  have z := (Sta.melt (B := B) (X := upd B.X p o) (A := [p]) S L (Ex.new hx) fun a m => by
    cases List.mem_singleton.mp m
    exact ⟨(by rw [upd_same]; exact fun z => nomatch z), hx, h0⟩).2
  have e : join F (upd B.X p o) [p] = upd F p o := by
    funext a
    by_cases n : a = p
    · subst n; rw [join_in (List.mem_singleton.mpr rfl), upd_same, upd_same]
    · rw [join_out (fun m => n (List.mem_singleton.mp m)), upd_ne n]
  rw [e] at z
  exact z
/-- a tree that had to stay becomes a slot's own -/
theorem Sta.take {B : Bg} {X F H : Hp} {σ : L2.St} {ρ : Env} {v : V} {t : OT} {A : List Addr} (j : Nat) (S : Sta (B.with X) F H σ ρ) (L : LkOk B F) (hx : Ex B.X X) (ho : Own B.G F X v t A) (nd : A.Nodup) (hA : ∀ a ∈ A, B.X a = none ∧ B.H0 a = none) :
    Sta B F H (σ.set j (some v)) (ρ.set j (.own t)) where
  toWd := (S.lessX L hx).toWd
  len := by rw [List.length_set, List.length_set]; exact S.len
  own := by
    obtain ⟨A', h⟩ := S.own
    have h' : Hds B F H σ ρ A' := ⟨fun i s k => (h.ok i s k).lessX, h.nd, h.apart, fun i a m => by
      obtain ⟨h1, h2, h3, h4⟩ := h.free i a m
      exact ⟨h1, hx.free h2, h3, h4⟩⟩
    refine ⟨_, h'.put (i := j) (L := A) (fun k n => List.getElem?_set_ne n) (fun hl => ⟨v, join_get (by rw [S.len]; exact hl), ho.step (Ex.refl F) (fun a m o z => (S.ext a o z).1), fun a m => (hA a m).2⟩) nd (fun k a n m m' => ?_) fun a m => ?_⟩
    · obtain ⟨o, z⟩ := ho.there a m
      have z2 : X a = none := (h.free k a m').2.1
      rw [z] at z2; cases z2
    · obtain ⟨o, z⟩ := ho.there a m
      obtain ⟨q1, q2⟩ := S.ext a o z
      exact ⟨q2, (hA a m).1, (by rw [q1]; exact fun z => nomatch z), .inl (hA a m).2⟩
/-- other slots but those at vs are the same -/
theorem Hds.dropped {B : Bg} {F H : Hp} {σ σ' : L2.St} {ρ ρ' : Env} {A : Nat → List Addr} (S : Hds B F H σ ρ A) (h : ∀ (i : Nat) (s : Sl), ρ'[i]? = some s → s = .emp ∨ (σ'[i]? = σ[i]? ∧ ρ[i]? = some s)) : ∃ A', Hds B F H σ' ρ' A' := by
  classical
  refine ⟨fun i => if ρ'[i]? = some .emp ∨ ρ'[i]? = none then [] else A i, fun i s q => ?_, fun i => ?_, fun i j a n hi hj => ?_, fun i a m => ?_⟩
  · rcases h i s q with rfl | ⟨q1, q2⟩
    · show (if ρ'[i]? = some .emp ∨ ρ'[i]? = none then [] else A i) = []
      rw [if_pos (.inl q)]
    · by_cases e : s = .emp
      · subst e
        show (if ρ'[i]? = some .emp ∨ ρ'[i]? = none then [] else A i) = []
        rw [if_pos (.inl q)]
      · have ne : ¬ (ρ'[i]? = some Sl.emp ∨ ρ'[i]? = none) := fun z => by
          rw [q] at z
          rcases z with z | z
          · exact e (Option.some.inj z)
          · cases z
        rw [if_neg ne, q1]; exact S.ok i s q2
  · split
    · exact .nil
    · exact S.nd i
  · split at hi
    · cases hi
    · split at hj
      · cases hj
      · exact S.apart i j a n hi hj
  · split at m
    · cases m
    · exact S.free i a m
theorem Sta.grown {B : Bg} {F H F' H' : Hp} {σ : L2.St} {ρ : Env} (S : Sta B F H σ ρ) (x1 : Ex F F') (x2 : Ex F' H') (x3 : ∀ a, H a ≠ none → F' a = F a) (x4 : Gw B.G.tb H H') : Sta B F' H' σ ρ where
  sub := x2
  old := fun a h => by
    have hh : H a ≠ none := fun z => h (S.fresh z)
    rw [x3 a hh]; exact S.old a h
  keep := fun a o hm hn h => x4.keep a o hn (S.keep a o hm hn h)
  pin := fun a m => x4.pin a (S.pin a m)
  ext := fun a o h => by
    have q := S.ext a o h
    exact ⟨x4.keep a o (S.xnt a o h).1 q.1, by rw [x3 a (by rw [q.1]; exact fun z => nomatch z)]; exact q.2⟩
  lk := S.lk.mono x1
  tab := x4.tab
  xnt := S.xnt
  len := S.len
  own := by
    obtain ⟨A, h⟩ := S.own
    exact ⟨A, h.stepN x1 (fun a f _ u n hu => x4.keep a u n.1 hu) fun a f _ m => ⟨by rw [x3 a m]; exact f, x4.pin a m⟩⟩
/-- a tree of one's own is done with: from now on data -/
noncomputable def frz (i : Nat) (ρ : Env) : Env := match ρ[i]? with
  | some (.own t) => ρ.set i (.dat t.toD)
  | _ => ρ
theorem Sta.frz {B : Bg} {F H : Hp} {σ : L2.St} {ρ : Env} (S : Sta B F H σ ρ) (i : Nat) : ∃ F', Ex F F' ∧ Sta B F' H σ (frz i ρ) := by
  unfold Eo.frz
  split
  · rename_i t h
    obtain ⟨A, q⟩ := S.own
    obtain ⟨v, ev, ho, h0⟩ := q.ok i _ h
    have fA : ∀ a ∈ A i, F a = none := fun a m => (q.free i a m).1
    have ex := join_ex (H := H) fA
    refine ⟨join F H (A i), ex, ⟨⟨fun a u h => ?_, fun a h => ?_, S.keep, S.pin, fun a u h => ?_, S.lk.mono ex, S.tab, S.xnt⟩, ?_, by rw [List.length_set]; exact S.len⟩⟩
    · by_cases m : a ∈ A i
      · rw [join_in m] at h; exact h
      · rw [join_out m] at h; exact S.sub a u h
    · rw [join_out (fun m => h (h0 a m))]; exact S.old a h
    · have m : a ∉ A i := fun m => by rw [(q.free i a m).2.1] at h; cases h
      rw [join_out m]; exact S.ext a u h
    · refine ⟨putA A i [], fun j s hj => ?_, fun j => ?_, fun j k a n hj hk => ?_, fun j a m => ?_⟩
      · rcases set_get hj with ⟨rfl, rfl, hl⟩ | ⟨n, hj⟩
        · rw [putA_same]
          exact ⟨rfl, v, ev, ho.froze ex fun a m o z => by rw [join_in m]; exact z⟩
        · rw [putA_ne n.symm]; exact (q.ok j s hj).step ex fun _ _ _ z => z
      · by_cases e : j = i
        · rw [e, putA_same]; exact .nil
        · rw [putA_ne e]; exact q.nd j
      · by_cases e : j = i
        · rw [e, putA_same] at hj; cases hj
        · by_cases e' : k = i
          · rw [e', putA_same] at hk; cases hk
          · rw [putA_ne e] at hj; rw [putA_ne e'] at hk; exact q.apart j k a n hj hk
      · by_cases e : j = i
        · rw [e, putA_same] at m; cases m
        · rw [putA_ne e] at m
          obtain ⟨h1, h2, h3, h4⟩ := q.free j a m
          exact ⟨by rw [join_out (fun m' => q.apart j i a e m m')]; exact h1, h2, h3, h4⟩
  · exact ⟨F, Ex.refl F, S⟩
end Eo
namespace Eo
open PySem L2
/-! ## places in a tree -/
inductive PEl where
  | ix (k : Nat) | ky (k : Key) | fd (f : Str)
noncomputable abbrev Path := List PEl
noncomputable def OT.kid : OT → PEl → Option OT
  | .lst ts, .ix k => ts[k]?
  | .dct ts, .ky k => getK ts k
  | .obj _ ts, .fd f => getK ts f
  | _, _ => none
noncomputable def OT.setKid : OT → PEl → OT → OT
  | .lst ts, .ix k, t => .lst (ts.set k t)
  | .dct ts, .ky k, t => .dct (setK ts k t)
  | .obj c ts, .fd f, t => .obj c (setK ts f t)
  | t, _, _ => t
noncomputable def OT.sub : OT → Path → Option OT
  | t, [] => some t
  | t, e :: p => match t.kid e with
    | some c => c.sub p
    | none => none
noncomputable def OT.put : OT → Path → OT → OT
  | _, [], s => s
  | t, e :: p, s => match t.kid e with
    | some c => t.setKid e (c.put p s)
    | none => t
noncomputable def stepH (H : Hp) (v : V) (e : PEl) : Option V := match v with
  | .ref a => match H a, e with
    | some (.lst vs), .ix k => vs[k]?
    | some (.dK vs), .ky k => getK vs k
    | some (.ins _ _ vs), .fd f => getK vs f
    | _, _ => none
  | _ => none
noncomputable def walk (H : Hp) : V → Path → Option V
  | v, [] => some v
  | v, e :: p => match stepH H v e with
    | some u => walk H u p
    | none => none
theorem valV_getK (k : Key) : ∀ kvs : List (Key × V), valV kvs k = getK kvs k
  | [] => rfl
  | (j, x) :: r => by
    unfold getK
    by_cases e : j = k
    · rw [if_pos e, valV_pos (p := (j, x)) e]
    · rw [if_neg e, valV_neg (p := (j, x)) e, valV_getK k r]
theorem lookup_getK (f : Str) : ∀ fs : List (Str × V), fs.lookup f = getK fs f
  | [] => rfl
  | (j, x) :: r => by
    unfold getK
    rw [List.lookup_cons]
    by_cases e : j = f
    · subst e; simp
    · rw [if_neg e, show (f == j) = false from beq_eq_false_iff_ne.mpr (fun z => e z.symm), lookup_getK f r]
section
variable {G : Cg} {F H : Hp}
theorem Owns.kid : ∀ {vs : List V} {ts : List OT} {A : List Addr} {k : Nat} {c : OT}, Owns G F H vs ts A → ts[k]? = some c → ∃ w L A0 R, vs[k]? = some w ∧ Own G F H w c A0 ∧ A = L ++ (A0 ++ R) ∧
    ∀ F2 H2 c' A1, Ex F F2 → (∀ a, a ∈ L ∨ a ∈ R → ∀ o, H a = some o → H2 a = some o) → Own G F2 H2 w c' A1 → Owns G F2 H2 vs (ts.set k c') (L ++ (A1 ++ R))
  | _, _, _, _, _, .nil, h => by simp at h
  | _, _, _, 0, c, .cons (v := v) (A := A0) (A' := R) o r, h => by
    simp at h
    subst h
    exact ⟨v, [], A0, R, rfl, o, rfl, fun F2 H2 c' A1 e q o' => by rw [List.nil_append]; exact .cons o' (r.step e fun a m => q a (.inr m))⟩
  | _, _, _, k + 1, c, .cons (A := A) o r, h => by
    obtain ⟨w, L, A0, R, h1, h2, h3, h4⟩ := Owns.kid (k := k) (c := c) r (by simpa using h)
    refine ⟨w, A ++ L, A0, R, by simpa using h1, h2, by rw [h3, List.append_assoc], fun F2 H2 c' A1 e q o' => ?_⟩
    rw [List.append_assoc]
    exact .cons (o.step e fun a m => q a (.inl (List.mem_append_left _ m))) (h4 F2 H2 c' A1 e (fun a m => q a (m.imp (List.mem_append_right _) id)) o')
theorem Ownk.kid : ∀ {vs : List (Key × V)} {ts : List (Key × OT)} {A : List Addr} {k : Key} {c : OT}, Ownk G F H vs ts A → getK ts k = some c → ∃ w L A0 R, getK vs k = some w ∧ Own G F H w c A0 ∧ A = L ++ (A0 ++ R) ∧
    ∀ F2 H2 c' A1, Ex F F2 → (∀ a, a ∈ L ∨ a ∈ R → ∀ o, H a = some o → H2 a = some o) → Own G F2 H2 w c' A1 → Ownk G F2 H2 vs (setK ts k c') (L ++ (A1 ++ R))
  | _, _, _, _, _, .nil, h => by cases h
  | _, _, _, k, c, .cons (k := j) (v := v) (A := A0) (A' := R) o r, h => by
    unfold getK at h ⊢
    unfold setK
    by_cases e : j = k
    · simp only [e, if_true] at h ⊢
      cases h
      exact ⟨v, [], A0, R, rfl, o, rfl, fun F2 H2 c' A1 e q o' => by rw [List.nil_append]; exact .cons o' (r.step e fun a m => q a (.inr m))⟩
    · simp only [e, if_false] at h ⊢
      obtain ⟨w, L, A1, R', h1, h2, h3, h4⟩ := Ownk.kid r h
      refine ⟨w, A0 ++ L, A1, R', h1, h2, by rw [h3, List.append_assoc], fun F2 H2 c' A2 e q o' => ?_⟩
      rw [List.append_assoc]
      exact .cons (o.step e fun a m => q a (.inl (List.mem_append_left _ m))) (h4 F2 H2 c' A2 e (fun a m => q a (m.imp (List.mem_append_right _) id)) o')
theorem Ownf.kid : ∀ {vs : List (Str × V)} {ts : List (Str × OT)} {A : List Addr} {k : Str} {c : OT}, Ownf G F H vs ts A → getK ts k = some c → ∃ w L A0 R, getK vs k = some w ∧ Own G F H w c A0 ∧ A = L ++ (A0 ++ R) ∧
    ∀ F2 H2 c' A1, Ex F F2 → (∀ a, a ∈ L ∨ a ∈ R → ∀ o, H a = some o → H2 a = some o) → Own G F2 H2 w c' A1 → Ownf G F2 H2 vs (setK ts k c') (L ++ (A1 ++ R))
  | _, _, _, _, _, .nil, h => by cases h
  | _, _, _, k, c, .cons (k := j) (v := v) (A := A0) (A' := R) o r, h => by
    unfold getK at h ⊢
    unfold setK
    by_cases e : j = k
    · simp only [e, if_true] at h ⊢
      cases h
      exact ⟨v, [], A0, R, rfl, o, rfl, fun F2 H2 c' A1 e q o' => by rw [List.nil_append]; exact .cons o' (r.step e fun a m => q a (.inr m))⟩
    · simp only [e, if_false] at h ⊢
      obtain ⟨w, L, A1, R', h1, h2, h3, h4⟩ := Ownf.kid r h
      refine ⟨w, A0 ++ L, A1, R', h1, h2, by rw [h3, List.append_assoc], fun F2 H2 c' A2 e q o' => ?_⟩
      rw [List.append_assoc]
      exact .cons (o.step e fun a m => q a (.inl (List.mem_append_left _ m))) (h4 F2 H2 c' A2 e (fun a m => q a (m.imp (List.mem_append_right _) id)) o')
/-- one step down -/
theorem Own.kid {v : V} {t c : OT} {A : List Addr} {e : PEl} (h : Own G F H v t A) (hc : t.kid e = some c) : ∃ w L A0 R, stepH H v e = some w ∧ Own G F H w c A0 ∧ A = L ++ (A0 ++ R) ∧
    ∀ F2 H2 c' A1, Ex F F2 → (∀ a, a ∈ L ∨ a ∈ R → ∀ o, H a = some o → H2 a = some o) → Own G F2 H2 w c' A1 → Own G F2 H2 v (t.setKid e c') (L ++ (A1 ++ R)) := by
  cases h with
  | leaf r => cases e <;> cases hc
  | @lst a vs ts A ha r =>
    cases e with
    | ix k =>
      obtain ⟨w, L, A0, R, h1, h2, h3, h4⟩ := r.kid (show ts[k]? = some c from hc)
      refine ⟨w, a :: L, A0, R, by unfold stepH; simp only [ha]; exact h1, h2, by rw [h3]; rfl, fun F2 H2 c' A1 ex q o => ?_⟩
      exact .lst (q a (.inl (List.mem_cons_self ..)) _ ha) (h4 F2 H2 c' A1 ex (fun b m => q b (m.imp (List.mem_cons_of_mem _) id)) o)
    | ky k => cases hc
    | fd f => cases hc
  | @dct a vs ts A ha r =>
    cases e with
    | ky k =>
      obtain ⟨w, L, A0, R, h1, h2, h3, h4⟩ := r.kid (show getK ts k = some c from hc)
      refine ⟨w, a :: L, A0, R, by unfold stepH; simp only [ha]; exact h1, h2, by rw [h3]; rfl, fun F2 H2 c' A1 ex q o => ?_⟩
      exact .dct (q a (.inl (List.mem_cons_self ..)) _ ha) (h4 F2 H2 c' A1 ex (fun b m => q b (m.imp (List.mem_cons_of_mem _) id)) o)
    | ix k => cases hc
    | fd f => cases hc
  | @obj a C dx vs cn ts A ha hcl r =>
    cases e with
    | fd k =>
      obtain ⟨w, L, A0, R, h1, h2, h3, h4⟩ := r.kid (show getK ts k = some c from hc)
      refine ⟨w, a :: L, A0, R, by unfold stepH; simp only [ha]; exact h1, h2, by rw [h3]; rfl, fun F2 H2 c' A1 ex q o => ?_⟩
      exact .obj (q a (.inl (List.mem_cons_self ..)) _ ha) (hcl.mono ex) (h4 F2 H2 c' A1 ex (fun b m => q b (m.imp (List.mem_cons_of_mem _) id)) o)
    | ix k => cases hc
    | ky f => cases hc
/-- down a path -/
theorem Own.sub : ∀ (p : Path) {v : V} {t s : OT} {A : List Addr}, Own G F H v t A → t.sub p = some s → ∃ u L A0 R, walk H v p = some u ∧ Own G F H u s A0 ∧ A = L ++ (A0 ++ R) ∧
    ∀ F2 H2 s' A1, Ex F F2 → (∀ a, a ∈ L ∨ a ∈ R → ∀ o, H a = some o → H2 a = some o) → Own G F2 H2 u s' A1 → Own G F2 H2 v (t.put p s') (L ++ (A1 ++ R))
  | [], v, t, s, A, h, e => by
    cases e
    exact ⟨v, [], A, [], rfl, h, by simp, fun F2 H2 s' A1 _ _ o => by simpa [OT.put] using o⟩
  | e :: p, v, t, s, A, h, hs => by
    unfold OT.sub at hs
    split at hs
    · rename_i c hc
      obtain ⟨w, L, A0, R, h1, h2, h3, h4⟩ := h.kid hc
      obtain ⟨u, L', A1, R', q1, q2, q3, q4⟩ := Own.sub p h2 hs
      refine ⟨u, L ++ L', A1, R' ++ R, by unfold walk; rw [h1]; exact q1, q2, by rw [h3, q3]; simp [List.append_assoc], fun F2 H2 s' A2 ex q o => ?_⟩
      unfold OT.put
      rw [hc]
      have z := h4 F2 H2 (c.put p s') _ ex (fun a m => q a (m.imp (List.mem_append_left _) (List.mem_append_right _))) (q4 F2 H2 s' A2 ex (fun a m => q a (m.imp (List.mem_append_right _) (List.mem_append_left _))) o)
      simpa [List.append_assoc] using z
    · cases hs
end
/-! ## a slot's tree -/
noncomputable def Sl.tree : Sl → Option OT
  | .own t => some t
  | .io t => some t
  | .lck t => some t
  | _ => none
/-- it may be changed -/
noncomputable def Sl.mut : Sl → Bool
  | .own _ => true
  | .io _ => true
  | _ => false
noncomputable def Sl.putT : Sl → OT → Sl
  | .own _, t => .own t
  | .io _, t => .io t
  | s, _ => s
theorem nodup_mid {L A R : List Addr} (h : (L ++ (A ++ R)).Nodup) : L.Nodup ∧ A.Nodup ∧ R.Nodup ∧ (∀ a ∈ A, a ∉ L ∧ a ∉ R) ∧ (∀ a ∈ L, a ∉ R) := by
  rw [List.nodup_append, List.nodup_append] at h
  obtain ⟨h1, ⟨h2, h3, h4⟩, h5⟩ := h
  exact ⟨h1, h2, h3, fun a m => ⟨fun m' => h5 a m' a (List.mem_append_left _ m) rfl, fun m' => h4 a m a m' rfl⟩, fun a m m' => h5 a m a (List.mem_append_right _ m') rfl⟩
theorem mid_nodup {L A R : List Addr} (h1 : L.Nodup) (h2 : A.Nodup) (h3 : R.Nodup) (h4 : ∀ a ∈ A, a ∉ L ∧ a ∉ R) (h5 : ∀ a ∈ L, a ∉ R) : (L ++ (A ++ R)).Nodup := by
  rw [List.nodup_append, List.nodup_append]
  refine ⟨h1, ⟨h2, h3, fun a m b m' e => ?_⟩, fun a m b m' e => ?_⟩
  · subst e; exact (h4 a m).2 m'
  · subst e
    rcases List.mem_append.mp m' with m' | m'
    · exact (h4 a m').1 m
    · exact h5 a m m'
theorem SlOk.withX' {B : Bg} {X F H : Hp} {i : Nat} {o : Option V} {s : Sl} {A : List Addr} (h : SlOk B F H i o s A) : SlOk { B with X := X } F H i o s A := by
  cases s <;> exact h
/-- a part of a slot's tree is changed: what stood there, and what may stand there then -/
theorem Sta.swap {B : Bg} {F H : Hp} {σ : L2.St} {ρ : Env} {i : Nat} {s0 : Sl} {t s : OT} {p : Path} (S : Sta B F H σ ρ) (hi : ρ[i]? = some s0) (ht : s0.tree = some t) (hm : s0.mut = true) (hs : t.sub p = some s) :
    ∃ r u A0, σ[i]? = some (some r) ∧ walk H r p = some u ∧ Own B.G F H u s A0 ∧ A0.Nodup ∧ (∀ a ∈ A0, F a = none ∧ B.X a = none ∧ H a ≠ none) ∧
      ∀ F2 H2 s' A1 X2, Ex F F2 → Ex F2 H2 → (∀ a, H a ≠ none → F2 a = F a) → (∀ a o, a ∉ A0 → (∀ ps, o ≠ .tbl ps) → H a = some o → H2 a = some o) → (∀ a, H a ≠ none → H2 a ≠ none) → LamX.Tabs B.G.tb H2 → Own B.G F2 H2 u s' A1 → A1.Nodup → (∀ a ∈ A1, F2 a = none ∧ (a ∈ A0 ∨ H a = none)) →
        Ex B.X X2 → (∀ a o, X2 a = some o → B.X a = some o ∨ (H a = none ∧ a ∉ A1 ∧ H2 a = some o ∧ F2 a = none ∧ Nt o)) → Sta { B with X := X2 } F2 H2 σ (ρ.set i (s0.putT (t.put p s'))) := by
  obtain ⟨A, q⟩ := S.own
  have ok := q.ok i s0 hi
  obtain ⟨r, er, ho⟩ : ∃ r, (σ[i]?).join = some r ∧ Own B.G F H r t (A i) := by
    cases s0 with
    | own t' => cases ht; obtain ⟨v, e, o, _⟩ := ok; exact ⟨v, e, o⟩
    | io t' => cases ht; obtain ⟨v, e, o, _⟩ := ok; exact ⟨v, e, o⟩
    | emp => cases ht
    | dat => cases ht
    | lck => cases hm
  obtain ⟨u, L, A0, R, h1, h2, h3, h4⟩ := Own.sub p ho hs
  have nd := q.nd i
  rw [h3] at nd
  obtain ⟨n1, n2, n3, n4, n5⟩ := nodup_mid nd
  have inA : ∀ a, a ∈ L ∨ a ∈ A0 ∨ a ∈ R → a ∈ A i := fun a m => by rw [h3]; simpa [or_assoc] using m
  refine ⟨r, u, A0, join_some er, h1, h2, n2, fun a m => ?_, fun F2 H2 s' A1 X2 x1 x2 x3 x4 x5 x6 o nd1 hA1 eX hX => ?_⟩
  · obtain ⟨f1, f2, f3, _⟩ := q.free i a (inA a (.inr (.inl m)))
    exact ⟨f1, f2, f3⟩
  · have notin : ∀ j a, j ≠ i → a ∈ A j → a ∉ A0 := fun j a n m m' => q.apart j i a n m (inA a (.inr (.inl m')))
    have sides : ∀ a, a ∈ L ∨ a ∈ R → a ∉ A0 := fun a m m' => m.elim (n4 a m').1 (n4 a m').2
    have new := h4 F2 H2 s' A1 x1 (fun a m u h => x4 a u (sides a m) (ho.nt a (by rw [h3]; simpa [or_assoc] using m.elim (fun z => (.inl z : a ∈ L ∨ a ∈ A0 ∨ a ∈ R)) fun z => .inr (.inr z)) u h).1 h) o
    have aA1 : ∀ a ∈ A1, ∀ j, a ∈ A j → a ∈ A0 := fun a m j mj => by
      rcases (hA1 a m).2 with z | z
      · exact z
      · exact absurd z (q.free j a mj).2.2.1
    have mids : ∀ a, a ∈ L ++ (A1 ++ R) → a ∈ A1 ∨ ((a ∈ L ∨ a ∈ R) ∧ a ∈ A i ∧ a ∉ A0) := fun a m => by
      rcases List.mem_append.mp m with m | m
      · exact .inr ⟨.inl m, inA a (.inl m), sides a (.inl m)⟩
      · rcases List.mem_append.mp m with m | m
        · exact .inl m
        · exact .inr ⟨.inr m, inA a (.inr (.inr m)), sides a (.inr m)⟩
    have h0A0 : ∀ a ∈ A1, (B.H0 a = none ∨ a ∈ B.lent) := fun a m => by
      rcases (hA1 a m).2 with z | z
      · exact (q.free i a (inA a (.inr (.inl z)))).2.2.2
      · exact .inl (S.fresh z)
    refine ⟨⟨x2, fun a h => ?_, fun a o hl hn h => ?_, fun a h => x5 a (S.pin a h), fun a o h => ?_, fun i v t m => by
      obtain ⟨A', q'⟩ := S.lk i v t m
      exact ⟨A', q'.step x1 fun a _ u z => eX a u z⟩, x6, fun a u h => by
      rcases hX a u h with h | ⟨_, _, _, _, h⟩
      · exact S.xnt a u h
      · exact h⟩, ?_, by rw [List.length_set]; exact S.len⟩
    · rw [x3 a (S.pin a h)]; exact S.old a h
    · refine x4 a o (fun m => ?_) hn (S.keep a o hl hn h)
      rcases (q.free i a (inA a (.inr (.inl m)))).2.2.2 with z | z
      · rw [z] at h; cases h
      · exact hl z
    · rcases hX a o h with h | ⟨_, _, h1, h2, _⟩
      · have z := S.ext a o h
        refine ⟨x4 a o (fun m => ?_) (S.xnt a o h).1 z.1, by rw [x3 a (by rw [z.1]; exact fun y => nomatch y)]; exact z.2⟩
        rw [(q.free i a (inA a (.inr (.inl m)))).2.1] at h; cases h
      · exact ⟨h1, h2⟩
    · have xold : ∀ a, B.X a = none → (H a ≠ none ∨ a ∈ A1) → X2 a = none := fun a h1 h2 => by
        cases z : X2 a with
        | none => rfl
        | some u =>
          rcases hX a u z with y | ⟨y1, y2, _⟩
          · rw [h1] at y; cases y
          · rcases h2 with h2 | h2
            · exact absurd y1 h2
            · exact absurd h2 y2
      refine ⟨putA A i (L ++ (A1 ++ R)), fun j sl hj => ?_, fun j => ?_, fun j k a n hj hk => ?_, fun j a m => ?_⟩
      · rcases set_get hj with ⟨rfl, rfl, hl⟩ | ⟨n, hj⟩
        · rw [putA_same]
          cases s0 with
          | own t' =>
            cases ht
            obtain ⟨v, e, _, z⟩ := ok
            rw [er] at e; cases e
            refine ⟨r, er, new, fun a m => ?_⟩
            rcases mids a m with m | ⟨_, m, _⟩
            · rcases (hA1 a m).2 with y | y
              · exact z a (inA a (.inr (.inl y)))
              · exact S.fresh y
            · exact z a m
          | io t' =>
            cases ht
            obtain ⟨v, e, _, z⟩ := ok
            rw [er] at e; cases e
            exact ⟨r, er, new, z⟩
          | emp => cases ht
          | dat => cases ht
          | lck => cases hm
        · rw [putA_ne n.symm]
          exact SlOk.withX' ((q.ok j sl hj).step x1 fun a m u h => x4 a u (notin j a n.symm m) ((q.ok j sl hj).nt a m u h).1 h)
      · by_cases e : j = i
        · rw [e, putA_same]
          exact mid_nodup n1 nd1 n3 (fun a m => ⟨fun m' => (n4 a (aA1 a m i (inA a (.inl m')))).1 m', fun m' => (n4 a (aA1 a m i (inA a (.inr (.inr m'))))).2 m'⟩) n5
        · rw [putA_ne e]; exact q.nd j
      · by_cases e : j = i
        · subst e
          rw [putA_same] at hj
          rw [putA_ne n.symm] at hk
          rcases mids a hj with m | ⟨_, m, _⟩
          · exact notin k a n.symm hk (aA1 a m k hk)
          · exact q.apart j k a n m hk
        · rw [putA_ne e] at hj
          by_cases e' : k = i
          · subst e'
            rw [putA_same] at hk
            rcases mids a hk with m | ⟨_, m, _⟩
            · exact notin j a n hj (aA1 a m j hj)
            · exact q.apart j k a n hj m
          · rw [putA_ne e'] at hk
            exact q.apart j k a n hj hk
      · by_cases e : j = i
        · rw [e, putA_same] at m
          rcases mids a m with m | ⟨_, m, n⟩
          · refine ⟨(hA1 a m).1, xold a ?_ (.inr m), ?_, h0A0 a m⟩
            · rcases (hA1 a m).2 with z | z
              · exact (q.free i a (inA a (.inr (.inl z)))).2.1
              · exact S.xfree z
            · obtain ⟨o', z⟩ := o.there a m
              rw [z]; exact fun y => nomatch y
          · obtain ⟨f1, f2, f3, f4⟩ := q.free i a m
            exact ⟨by rw [x3 a f3]; exact f1, xold a f2 (.inl f3), x5 a f3, f4⟩
        · rw [putA_ne e] at m
          obtain ⟨f1, f2, f3, f4⟩ := q.free j a m
          exact ⟨by rw [x3 a f3]; exact f1, xold a f2 (.inl f3), x5 a f3, f4⟩
theorem Own.kidStep {G : Cg} {F H H' : Hp} {v : V} {t c : OT} {A : List Addr} {e : PEl} (h : Own G F H v t A) (hc : t.kid e = some c) (q : ∀ a ∈ A, ∀ o, H a = some o → H' a = some o) : stepH H' v e = stepH H v e := by
  cases h with
  | leaf r => cases e <;> cases hc
  | lst ha r => simp only [stepH, q _ (List.mem_cons_self ..) _ ha, ha]
  | dct ha r => simp only [stepH, q _ (List.mem_cons_self ..) _ ha, ha]
  | obj ha _ r => simp only [stepH, q _ (List.mem_cons_self ..) _ ha, ha]
theorem Own.walkSame {G : Cg} {F H H' : Hp} : ∀ (p : Path) {v : V} {t s : OT} {A : List Addr}, Own G F H v t A → t.sub p = some s → (∀ a ∈ A, ∀ o, H a = some o → H' a = some o) → walk H' v p = walk H v p
  | [], _, _, _, _, _, _, _ => rfl
  | e :: p, v, t, s, A, h, hs, q => by
    unfold OT.sub at hs
    split at hs
    · rename_i c hc
      obtain ⟨w, L, A0, R, h1, h2, h3, _⟩ := h.kid hc
      unfold walk
      rw [h.kidStep hc q, h1]
      exact Own.walkSame p h2 hs fun a m => q a (by rw [h3]; exact List.mem_append_right _ (List.mem_append_left _ m))
    · cases hs
/-! ## locks -/
noncomputable def lockE (i : Nat) (ρ : Env) : Env := match ρ[i]? with
  | some (.own t) => ρ.set i (.lck t)
  | some (.io t) => ρ.set i (.lck t)
  | _ => ρ
/-- the slot as it was -/
noncomputable def backE (i : Nat) (ρ ρ' : Env) : Env := match ρ[i]? with
  | some (.own t) => ρ'.set i (.own t)
  | some (.io t) => ρ'.set i (.io t)
  | _ => ρ'
noncomputable def Bg.lock (B : Bg) (X : Hp) (m : Nat × V × OT) : Bg := { B with X := X, lk := m :: B.lk }
/-- a slot's tree is read only for a while -/
theorem Sta.lock {B : Bg} {F H : Hp} {σ : L2.St} {ρ : Env} (i : Nat) (S : Sta B F H σ ρ) : ∃ B' : Bg, B'.G = B.G ∧ Sta B' F H σ (lockE i ρ) ∧
    ∀ F' H' ρ', Ex F F' → Sta B' F' H' σ ρ' → Sta B F' H' σ (backE i ρ ρ') ∧ ∀ (s : Sl) (t s' : OT) (r : V) (p : Path), ρ[i]? = some s → s.tree = some t → t.sub p = some s' → σ[i]? = some (some r) → walk H' r p = walk H r p := by
  have main : ∀ (t : OT) (s : Sl), ρ[i]? = some s → (s = .own t ∨ s = .io t) → ∃ B' : Bg, B'.G = B.G ∧ Sta B' F H σ (ρ.set i (.lck t)) ∧
      ∀ F' H' ρ', Ex F F' → Sta B' F' H' σ ρ' → Sta B F' H' σ (ρ'.set i s) ∧ ∀ (s' : OT) (r : V) (p : Path), t.sub p = some s' → σ[i]? = some (some r) → walk H' r p = walk H r p := by
    intro t s hi hs
    obtain ⟨A, q⟩ := S.own
    obtain ⟨v, ev, ho⟩ : ∃ v, (σ[i]?).join = some v ∧ Own B.G F H v t (A i) := by
      have ok := q.ok i s hi
      rcases hs with rfl | rfl
      · obtain ⟨v, e, o, _⟩ := ok; exact ⟨v, e, o⟩
      · obtain ⟨v, e, o, _⟩ := ok; exact ⟨v, e, o⟩
    have xA : ∀ a ∈ A i, B.X a = none := fun a m => (q.free i a m).2.1
    have eX : Ex B.X (join B.X H (A i)) := join_ex xA
    have oX : Own B.G F (join B.X H (A i)) v t (A i) := ho.step (Ex.refl F) fun a m o h => by rw [join_in m]; exact h
    refine ⟨B.lock (join B.X H (A i)) (i, v, t), rfl, ⟨⟨S.sub, S.old, S.keep, S.pin, fun a o h => ?_, fun j w s' m => ?_, S.tab, fun a o h => ?_⟩, ?_, by rw [List.length_set]; exact S.len⟩, fun F' H' ρ' ex S' => ⟨⟨⟨S'.sub, S'.old, S'.keep, S'.pin, fun a o h => S'.ext a o (eX a o h), S.lk.mono ex, S'.tab, S.xnt⟩, ?_, by rw [List.length_set]; exact S'.len⟩, fun s' r p hp hr => ?_⟩⟩
    · have h' : join B.X H (A i) a = some o := h
      by_cases m : a ∈ A i
      · rw [join_in m] at h'
        exact ⟨h', (q.free i a m).1⟩
      · rw [join_out m] at h'; exact S.ext a o h'
    · rcases List.mem_cons.mp m with m | m
      · cases m; exact ⟨_, oX⟩
      · obtain ⟨A', o⟩ := S.lk j w s' m
        exact ⟨A', o.step (Ex.refl F) fun a _ u z => eX a u z⟩
    · have h' : join B.X H (A i) a = some o := h
      by_cases m : a ∈ A i
      · rw [join_in m] at h'; exact ho.nt a m o h'
      · rw [join_out m] at h'; exact S.xnt a o h'
    · refine ⟨putA A i [], fun j s' hj => ?_, fun j => ?_, fun j k a n hj hk => ?_, fun j a m => ?_⟩
      · rcases set_get hj with ⟨rfl, rfl, hl⟩ | ⟨n, hj⟩
        · rw [putA_same]; exact ⟨rfl, v, ev, List.mem_cons_self ..⟩
        · rw [putA_ne n.symm]
          have ok := q.ok j s' hj
          cases s' with
          | lck t' => obtain ⟨e, w, e2, m⟩ := ok; exact ⟨e, w, e2, List.mem_cons_of_mem _ m⟩
          | emp => exact ok
          | dat => exact ok
          | own => exact ok
          | io => exact ok
      · by_cases e : j = i
        · rw [e, putA_same]; exact .nil
        · rw [putA_ne e]; exact q.nd j
      · by_cases e : j = i
        · rw [e, putA_same] at hj; cases hj
        · by_cases e' : k = i
          · rw [e', putA_same] at hk; cases hk
          · rw [putA_ne e] at hj; rw [putA_ne e'] at hk; exact q.apart j k a n hj hk
      · by_cases e : j = i
        · rw [e, putA_same] at m; cases m
        · rw [putA_ne e] at m
          obtain ⟨f1, f2, f3, f4⟩ := q.free j a m
          refine ⟨f1, ?_, f3, f4⟩
          show join B.X H (A i) a = none
          rw [join_out (fun m' => q.apart j i a e m m')]; exact f2
    · obtain ⟨A', q'⟩ := S'.own
      have hX : ∀ a ∈ A i, ∀ o, H a = some o → H' a = some o ∧ F' a = none := fun a m o h => S'.ext a o (by show join B.X H (A i) a = some o; rw [join_in m]; exact h)
      have out : ∀ j a, a ∈ A' j → a ∉ A i := fun j a m m' => by
        have z : join B.X H (A i) a = none := (q'.free j a m).2.1
        rw [join_in m'] at z
        exact (q.free i a m').2.2.1 z
      refine ⟨putA A' i (A i), fun j s' hj => ?_, fun j => ?_, fun j k a n hj hk => ?_, fun j a m => ?_⟩
      · rcases set_get hj with ⟨rfl, rfl, hl⟩ | ⟨n, hj⟩
        · rw [putA_same]
          have ok := q.ok i s' hi
          exact ok.step ex fun a m o h => (hX a m o h).1
        · rw [putA_ne n.symm]
          have ok := q'.ok j s' hj
          cases s' with
          | lck t' =>
            obtain ⟨e, w, e2, m⟩ := ok
            refine ⟨e, w, e2, ?_⟩
            rcases List.mem_cons.mp m with m | m
            · cases m; exact absurd rfl n
            · exact m
          | emp => exact ok
          | dat => exact ok
          | own => exact ok
          | io => exact ok
      · by_cases e : j = i
        · rw [e, putA_same]; exact q.nd i
        · rw [putA_ne e]; exact q'.nd j
      · by_cases e : j = i
        · subst e
          rw [putA_same] at hj
          rw [putA_ne n.symm] at hk
          exact out k a hk hj
        · rw [putA_ne e] at hj
          by_cases e' : k = i
          · subst e'; rw [putA_same] at hk; exact out j a hj hk
          · rw [putA_ne e'] at hk; exact q'.apart j k a n hj hk
      · by_cases e : j = i
        · rw [e, putA_same] at m
          obtain ⟨f1, f2, f3, f4⟩ := q.free i a m
          obtain ⟨u, hu⟩ := Option.ne_none_iff_exists'.mp f3
          obtain ⟨z1, z2⟩ := hX a m u hu
          exact ⟨z2, f2, (by rw [z1]; exact fun z => nomatch z), f4⟩
        · rw [putA_ne e] at m
          obtain ⟨f1, f2, f3, f4⟩ := q'.free j a m
          exact ⟨f1, eX.free f2, f3, f4⟩
    · have er : r = v := by
        have z := join_some ev
        rw [hr] at z; cases z; rfl
      subst er
      exact Own.walkSame p ho hp fun a m o h => (S'.ext a o (by show join B.X H (A i) a = some o; rw [join_in m]; exact h)).1
  unfold lockE backE
  cases hi : ρ[i]? with
  | none => exact ⟨B, rfl, S, fun F' H' ρ' ex S' => ⟨S', fun s t s' r p h => by cases h⟩⟩
  | some s =>
    cases s with
    | own t =>
      obtain ⟨B', h1, h2, h3⟩ := main t _ hi (.inl rfl)
      refine ⟨B', h1, h2, fun F' H' ρ' ex S' => ⟨(h3 F' H' ρ' ex S').1, fun s t' s' r p h ht hp hr => ?_⟩⟩
      cases h; cases ht
      exact (h3 F' H' ρ' ex S').2 s' r p hp hr
    | io t =>
      obtain ⟨B', h1, h2, h3⟩ := main t _ hi (.inr rfl)
      refine ⟨B', h1, h2, fun F' H' ρ' ex S' => ⟨(h3 F' H' ρ' ex S').1, fun s t' s' r p h ht hp hr => ?_⟩⟩
      cases h; cases ht
      exact (h3 F' H' ρ' ex S').2 s' r p hp hr
    | emp => exact ⟨B, rfl, S, fun F' H' ρ' ex S' => ⟨S', fun s t s' r p h ht => by cases h; cases ht⟩⟩
    | dat d => exact ⟨B, rfl, S, fun F' H' ρ' ex S' => ⟨S', fun s t s' r p h ht => by cases h; cases ht⟩⟩
    | lck t =>
      refine ⟨B, rfl, S, fun F' H' ρ' ex S' => ⟨S', fun s t' s' r p h ht hp hr => ?_⟩⟩
      cases h; cases ht
      obtain ⟨A, q⟩ := S.own
      obtain ⟨_, v, ev, m⟩ := q.ok i _ hi
      have z := join_some ev
      rw [hr] at z
      cases z
      obtain ⟨A', o⟩ := S.lk i _ _ m
      rw [o.walkSame p hp (H' := H') fun a _ u hu => (S'.ext a u hu).1, o.walkSame p hp (H' := H) fun a _ u hu => (S.ext a u hu).1]
end Eo
namespace Eo
open PySem L2
/-! ## expressions -/
noncomputable def lift {α : Type} (o : Option α) (ρ : Env) : R α := match o with
  | some d => .ok d ρ
  | none => .bad
theorem lift_fits {α β : Type} {B : Bg} {W : Wx} {rel : Rl β α} {σ : L2.St} {F H : Hp} {ρ : Env} {Q : β → Hp → Prop} (S : Sta B F H σ ρ) {o : Option α} (h : Fits B W rel σ F Q (lift o ρ)) :
    ∃ d, o = some d ∧ (∀ v, rel σ F H v d → Q v H) ∧ (∀ p u v, H p = none → rel σ (upd F p u) (upd H p u) v d → Q v (upd H p u)) := by
  cases o with
  | none => exact h.elim
  | some d => exact ⟨d, rfl, fun v r => h v F H (Ex.refl F) S r, fun p u v hp r => h v _ _ (Ex.new (S.sub.free hp)) (S.new hp) r⟩
noncomputable def mVar (i : Nat) : ME := fun ρ => match ρ[i]? with
  | some (.dat d) => .ok d ρ
  | _ => .bad
noncomputable def mC {α : Type} (d : α) : Env → R α := fun ρ => .ok d ρ
section
variable {G : Cg} {W : Wx}
theorem Sta.dat {B : Bg} {F H : Hp} {σ : L2.St} {ρ : Env} (S : Sta B F H σ ρ) {i : Nat} {d : D} (h : ρ[i]? = some (.dat d)) : ∃ v, σ[i]? = some (some v) ∧ Rp B.G F v d := by
  obtain ⟨A, q⟩ := S.own
  obtain ⟨_, v, e, r⟩ := q.ok i _ h
  exact ⟨v, join_some e, r⟩
theorem ev_var (i : Nat) : EvE G W (tVar i) (mVar i) := fun B F H σ ρ Q g S h => by
  unfold mVar at h
  split at h
  · rename_i d e
    obtain ⟨v, h1, h2⟩ := S.dat e
    exact ⟨v, h1, h v F H (Ex.refl F) S (g ▸ h2)⟩
  · exact h.elim
theorem ev_c {v : V} {d : D} (r : ∀ F, Rp G F v d) : EvE G W (tC v) (mC d) := fun B F H σ ρ Q g S h => h v F H (Ex.refl F) S (r F)
theorem ev_int (i : Int) : EvE G W (tC (.int i)) (mC (.int i)) := ev_c fun _ => .int i
theorem ev_str (i : Str) : EvE G W (tC (.str i)) (mC (.str i)) := ev_c fun _ => .str i
theorem ev_bl (i : Bool) : EvE G W (tC (.bl i)) (mC (.bl i)) := ev_c fun _ => .bl i
theorem ev_non : EvE G W (tC .non) (mC .non) := ev_c fun _ => .non
/-! operands: frozen, or a list or dict of one's own whose items are frozen -/
noncomputable def RpF (G : Cg) (F H : Hp) (v : V) (d : D) : Prop := Rp G F v d ∨ (∃ a vs ds, v = .ref a ∧ H a = some (.lst vs) ∧ Rps G F vs ds ∧ d = .lst ds) ∨ ∃ a vs ds, v = .ref a ∧ H a = some (.dK vs) ∧ Rpk G F vs ds ∧ d = .dct ds
theorem Rp.int_inv {F : Hp} {v : V} {i : Int} (h : Rp G F v (.int i)) : v = .int i := by cases h; rfl
theorem Rp.str_inv {F : Hp} {v : V} {i : Str} (h : Rp G F v (.str i)) : v = .str i := by cases h; rfl
theorem Rp.bl_inv {F : Hp} {v : V} {i : Bool} (h : Rp G F v (.bl i)) : v = .bl i := by cases h; rfl
theorem Rp.lst_inv {F : Hp} {v : V} {ds : List D} (h : Rp G F v (.lst ds)) : ∃ a vs, v = .ref a ∧ F a = some (.lst vs) ∧ Rps G F vs ds := by cases h; exact ⟨_, _, rfl, by assumption, by assumption⟩
theorem Rp.tup_inv {F : Hp} {v : V} {ds : List D} (h : Rp G F v (.tup ds)) : ∃ a vs, v = .ref a ∧ SqT G.K F a vs ∧ Rps G F vs ds := by cases h; exact ⟨_, _, rfl, by assumption, by assumption⟩
theorem RpF.int_inv {F H : Hp} {v : V} {i : Int} (h : RpF G F H v (.int i)) : v = .int i := by
  rcases h with h | ⟨_, _, _, _, _, _, e⟩ | ⟨_, _, _, _, _, _, e⟩
  · exact h.int_inv
  · cases e
  · cases e
theorem RpF.str_inv {F H : Hp} {v : V} {i : Str} (h : RpF G F H v (.str i)) : v = .str i := by
  rcases h with h | ⟨_, _, _, _, _, _, e⟩ | ⟨_, _, _, _, _, _, e⟩
  · exact h.str_inv
  · cases e
  · cases e
theorem RpF.bl_inv {F H : Hp} {v : V} {i : Bool} (h : RpF G F H v (.bl i)) : v = .bl i := by
  rcases h with h | ⟨_, _, _, _, _, _, e⟩ | ⟨_, _, _, _, _, _, e⟩
  · exact h.bl_inv
  · cases e
  · cases e
theorem RpF.tup {F H : Hp} {v : V} {ds : List D} (h : RpF G F H v (.tup ds)) : Rp G F v (.tup ds) := by
  rcases h with h | ⟨_, _, _, _, _, _, e⟩ | ⟨_, _, _, _, _, _, e⟩
  · exact h
  · cases e
  · cases e
theorem RpF.tup_inv {F H : Hp} {v : V} {ds : List D} (h : RpF G F H v (.tup ds)) : ∃ a vs, v = .ref a ∧ SqT G.K F a vs ∧ Rps G F vs ds := h.tup.tup_inv
theorem RpF.lst_inv {F H : Hp} {v : V} {ds : List D} (h : RpF G F H v (.lst ds)) (s : Ex F H) : ∃ a vs, v = .ref a ∧ H a = some (.lst vs) ∧ Rps G F vs ds := by
  rcases h with h | ⟨a, vs, ds', h1, h2, h3, e⟩ | ⟨_, _, _, _, _, _, e⟩
  · obtain ⟨a, vs, h1, h2, h3⟩ := h.lst_inv
    exact ⟨a, vs, h1, s _ _ h2, h3⟩
  · cases e; exact ⟨a, vs, h1, h2, h3⟩
  · cases e
/-- read in the whole heap -/
theorem RpF.full {F H : Hp} {v : V} {d : D} (h : RpF G F H v d) (s : Ex F H) : Rp G H v d := by
  rcases h with h | ⟨a, vs, ds', rfl, h2, h3, rfl⟩ | ⟨a, vs, ds', rfl, h2, h3, rfl⟩
  · exact h.mono s
  · exact .lst h2 (h3.mono s)
  · exact .dct (.inl h2) (h3.mono s)
noncomputable abbrev RF (G : Cg) : Rl V D := fun _ F H v d => RpF G F H v d
noncomputable abbrev EvF (G : Cg) (W : Wx) (t : TE) (m : ME) : Prop := Ev G W (RF G) t m
theorem Fits.imp {α β : Type} {B : Bg} {rel rel' : Rl β α} {σ : L2.St} {F : Hp} {Q : β → Hp → Prop} (h : ∀ F H v a, rel σ F H v a → rel' σ F H v a) : ∀ {r : R α}, Fits B W rel' σ F Q r → Fits B W rel σ F Q r
  | .ok _ _, q => fun v F' H' e S r => q v F' H' e S (h F' H' v _ r)
  | .err _ _ _, q => q
  | .bad, q => q
theorem EvE.f {t : TE} {m : ME} (h : EvE G W t m) : EvF G W t m := fun B F H σ ρ Q g S q => h B F H σ ρ Q g S (Fits.imp (fun _ _ _ _ r => .inl r) q)
/-! two-place operations -/
noncomputable def Opd (G : Cg) (W : Wx) (r : R2) (op : D → D → Env → R D) : Prop :=
  ∀ (B : Bg) (F H : Hp) (σ : L2.St) (ρ : Env) (x y : V) (dx dy : D) (Q : VK), B.G = G → Sta B F H σ ρ → RpF G F H x dx → RpF G F H y dy → Fits B W (RE G) σ F Q (op dx dy ρ) → r x y H Q
noncomputable def mOp (op : D → D → Env → R D) (ma mb : ME) : ME := fun ρ => (ma ρ).bind fun a ρ1 => (mb ρ1).bind fun b ρ2 => op a b ρ2
theorem ev_opF {r : R2} {op : D → D → Env → R D} {ta tb : TE} {ma mb : ME} (ho : Opd G W r op) (ha : EvE G W ta ma) (hb : EvF G W tb mb) : EvE G W (tOp r ta tb) (mOp op ma mb) :=
  fun B F H σ ρ Q g S h => ha B F H σ ρ _ g S (h.fst fun v a ρ1 F1 H1 e1 S1 r1 h1 => hb B F1 H1 σ ρ1 _ g S1 (h1.fst fun u b ρ2 F2 H2 e2 S2 r2 h2 => ho B F2 H2 σ ρ2 v u a b Q g S2 (.inl (r1.mono e2)) r2 h2))
theorem ev_op {r : R2} {op : D → D → Env → R D} {ta tb : TE} {ma mb : ME} (ho : Opd G W r op) (ha : EvE G W ta ma) (hb : EvE G W tb mb) : EvE G W (tOp r ta tb) (mOp op ma mb) := ev_opF ho ha hb.f
/-- operations that make nothing or one new thing -/
noncomputable def pur (f : D → D → Option D) (a b : D) (ρ : Env) : R D := lift (f a b) ρ
theorem Opd.or {r1 r2 : R2} {op : D → D → Env → R D} (h : ∀ (B : Bg) (F H : Hp) (σ : L2.St) (ρ : Env) (x y : V) (dx dy : D) (Q : VK), B.G = G → Sta B F H σ ρ → RpF G F H x dx → RpF G F H y dy → Fits B W (RE G) σ F Q (op dx dy ρ) → r1 x y H Q ∨ r2 x y H Q) :
    Opd G W (fun x y H Q => r1 x y H Q ∨ r2 x y H Q) op := h
noncomputable def rOr (r1 r2 : R2) : R2 := fun x y H Q => r1 x y H Q ∨ r2 x y H Q
theorem op_or2 {X : Cx} {f : Value → Value → Sem Value} {r1 r2 : R2} (h1 : OpR X f r1) (h2 : OpR X f r2) : OpR X f (rOr r1 r2) := by
  intro pins s σ H x y v u Q I rx ry h
  rcases h with h | h
  · exact h1 pins s σ H x y v u Q I rx ry h
  · exact h2 pins s σ H x y v u Q I rx ry h
/-- integers -/
noncomputable def dI (C : Int → Int → Bool) (g : Int → Int → D) (a b : D) : Option D := match a, b with
  | .int i, .int j => if C i j then some (g i j) else none
  | _, _ => none
theorem opd_I {C : Int → Int → Prop} {c : Int → Int → Bool} {g : Int → Int → V} {gd : Int → Int → D} (hc : ∀ i j, c i j = true → C i j) (hg : ∀ F i j, Rp G F (g i j) (gd i j)) : Opd G W (rI C g) (pur (dI c gd)) :=
  fun B F H σ ρ x y dx dy Q gg S rx ry h => by
    unfold pur at h
    obtain ⟨d, e, q, _⟩ := lift_fits S h
    unfold dI at e
    split at e
    · rename_i i j
      split at e
      · rename_i hh
        cases e
        exact ⟨i, j, rx.int_inv, ry.int_inv, hc i j hh, q _ (hg F i j)⟩
      · cases e
    · cases e
theorem opd_I0 {g : Int → Int → V} {gd : Int → Int → D} (hg : ∀ F i j, Rp G F (g i j) (gd i j)) : Opd G W (rI0 g) (pur (dI (fun _ _ => true) gd)) :=
  fun B F H σ ρ x y dx dy Q gg S rx ry h => by
    obtain ⟨i, j, e1, e2, _, q⟩ := opd_I (C := fun _ _ => True) (c := fun _ _ => true) (fun _ _ _ => trivial) hg B F H σ ρ x y dx dy Q gg S rx ry h
    exact ⟨i, j, e1, e2, q⟩
noncomputable def dSub := dI (fun _ _ => true) fun i j => .int (i - j)
noncomputable def smallB (i : Int) : Bool := decide (-(2 ^ 64) < i) && decide (i < 2 ^ 64)
noncomputable def dMul := dI (fun i j => smallB i || smallB j) fun i j => .int (i * j)
noncomputable def dFdiv := dI (fun _ j => decide (j ≠ 0) && decide (j.natAbs < 1073741824)) fun i j => .int (i.fdiv j)
noncomputable def dMod := dI (fun _ j => decide (j ≠ 0)) fun i j => .int (i.fmod j)
noncomputable def dPow := dI (fun i j => decide (0 ≤ j) && decide (j ≤ 1000000) && decide (i.natAbs < 2 ^ 64)) fun i j => .int (i ^ j.toNat)
theorem od_sub : Opd G W (rI0 fun i j => .int (i - j)) (pur dSub) := opd_I0 fun _ _ _ => .int _
theorem od_mul : Opd G W (rI CMul fun i j => .int (i * j)) (pur dMul) := opd_I (fun i j h => by
  unfold CMul; unfold smallB at h; simpa using h) fun _ _ _ => .int _
theorem od_fdiv : Opd G W (rI CDivN fun i j => .int (i.fdiv j)) (pur dFdiv) := opd_I (fun i j h => by unfold CDivN; simpa using h) fun _ _ _ => .int _
theorem od_mod : Opd G W (rI (fun _ j => j ≠ 0) fun i j => .int (i.fmod j)) (pur dMod) := opd_I (fun i j h => by simpa using h) fun _ _ _ => .int _
theorem od_pow : Opd G W (rI CPow fun i j => .int (i ^ j.toNat)) (pur dPow) := opd_I (fun i j h => by unfold CPow; simpa [and_assoc] using h) fun _ _ _ => .int _
/-- + -/
noncomputable def rAddS : R2 := fun x y H Q => ∃ i j, x = .str i ∧ y = .str j ∧ i.length + j.length ≤ sizeLine ∧ Q (.str (i ++ j)) H
noncomputable def rAddAny (K : PySem.W.Frag) : R2 := rOr (rI0 fun i j => .int (i + j)) (rOr rAddS (rOr rCat (rCatA K)))
noncomputable def dAdd (a b : D) : Option D := match a, b with
  | .int i, .int j => some (.int (i + j))
  | .str i, .str j => if i.length + j.length ≤ sizeLine then some (.str (i ++ j)) else none
  | .lst i, .lst j => if i.length + j.length ≤ sizeLine then some (.lst (i ++ j)) else none
  | .tup i, .tup j => if i.length + j.length ≤ sizeLine then some (.tup (i ++ j)) else none
  | _, _ => none
theorem od_add : Opd G W (rAddAny G.K) (pur dAdd) := fun B F H σ ρ x y dx dy Q gg S rx ry h => by
  unfold pur at h
  obtain ⟨d, e, q, qn⟩ := lift_fits S h
  unfold dAdd at e
  split at e
  · cases e
    exact .inl ⟨_, _, rx.int_inv, ry.int_inv, q _ (.int _)⟩
  · split at e
    · cases e
      exact .inr (.inl ⟨_, _, rx.str_inv, ry.str_inv, by assumption, q _ (.str _)⟩)
    · cases e
  · split at e
    · rename_i hl
      cases e
      obtain ⟨a, vs, rfl, ha, ra⟩ := rx.lst_inv S.sub
      obtain ⟨b, ws, rfl, hb, rb⟩ := ry.lst_inv S.sub
      refine .inr (.inr (.inl ⟨a, b, vs, ws, rfl, rfl, ha, hb, by rw [ra.length, rb.length]; exact hl, fun p hp => qn p _ _ hp ?_⟩))
      exact .lst upd_same ((ra.append rb).mono (Ex.new (S.sub.free hp)))
    · cases e
  · split at e
    · rename_i hl
      cases e
      obtain ⟨a, vs, rfl, ha, ra⟩ := rx.tup_inv
      obtain ⟨b, ws, rfl, hb, rb⟩ := ry.tup_inv
      refine .inr (.inr (.inr ⟨a, b, vs, ws, rfl, rfl, ex_t S.sub ha, ex_t S.sub hb, by rw [ra.length, rb.length]; exact hl, fun z => ?_, fun z1 z2 => ?_, fun z1 z2 p hp => qn p _ _ hp ?_⟩))
      · subst z
        cases ra
        exact q _ (.tup hb rb)
      · subst z2
        cases rb
        rw [List.append_nil] at q
        exact q _ (.tup ha ra)
      · exact .tup (SqT.of upd_same) ((ra.append rb).mono (Ex.new (S.sub.free hp)))
    · cases e
  · cases e
theorem op_addAny {X : Cx} : OpR X (binaryOp .Add) (rAddAny X.K) := op_or2 op_add (op_or2 op_add_str (op_or2 op_cat op_catA))
/-- -a -/
noncomputable def mUn (f : D → Option D) (ma : ME) : ME := fun ρ => (ma ρ).bind fun a ρ1 => lift (f a) ρ1
noncomputable def dNeg : D → Option D
  | .int i => some (.int (-i))
  | _ => none
theorem ev_neg {ta : TE} {ma : ME} (ha : EvE G W ta ma) : EvE G W (tUn (rU fun i => .int (-i)) ta) (mUn dNeg ma) := fun B F H σ ρ Q g S h =>
  ha B F H σ ρ _ g S (h.fst fun v a ρ1 F1 H1 e1 S1 r1 h1 => by
    obtain ⟨d, e, q, _⟩ := lift_fits S1 h1
    unfold dNeg at e
    split at e
    · cases e
      exact ⟨_, r1.int_inv, q _ (.int _)⟩
    · cases e)
/-! ## comparisons -/
mutual
noncomputable def toPy : D → Option PyData
  | .non => some .none
  | .bl b => some (.bool b)
  | .int i => some (.int i)
  | .str x => some (.str x)
  | .lst ds => (toPys ds).map .list
  | .tup ds => (toPys ds).map .tuple
  | .dct _ => none
  | .obj _ _ => none
  | .scr _ => none
  | .cls _ => none
  | .exc _ _ => none
noncomputable def toPys : List D → Option (List PyData)
  | [] => some []
  | d :: ds => match toPy d, toPys ds with
    | some p, some ps => some (p :: ps)
    | _, _ => none
end
mutual
theorem Rp.dp {F H : Hp} (e : Ex F H) : ∀ {v : V} {d : D} {p : PyData}, Rp G F v d → toPy d = some p → Dp G.K H v p
  | _, _, _, .non, h => by simp only [toPy, Option.some.injEq] at h; subst h; exact .non
  | _, _, _, .bl b, h => by simp only [toPy, Option.some.injEq] at h; subst h; exact .bl b
  | _, _, _, .int b, h => by simp only [toPy, Option.some.injEq] at h; subst h; exact .int b
  | _, _, _, .str b, h => by simp only [toPy, Option.some.injEq] at h; subst h; exact .str b
  | _, _, _, .lst (ds := ds) h1 r, h => by
    simp only [toPy, Option.map_eq_some_iff] at h
    obtain ⟨ps, h2, rfl⟩ := h
    exact .lst (SqL.of (e _ _ h1)) (Rps.dp e r h2)
  | _, _, _, .tup (ds := ds) h1 r, h => by
    simp only [toPy, Option.map_eq_some_iff] at h
    obtain ⟨ps, h2, rfl⟩ := h
    exact .tup (ex_t e h1) (Rps.dp e r h2)
  | _, _, _, .dct _ _, h => by simp [toPy] at h
  | _, _, _, .obj _ _ _, h => by simp [toPy] at h
  | _, _, _, .scr _, h => by simp [toPy] at h
  | _, _, _, .cls _, h => by simp [toPy] at h
  | _, _, _, .exc _ _ _ _, h => by simp [toPy] at h
theorem Rps.dp {F H : Hp} (e : Ex F H) : ∀ {v : List V} {d : List D} {p : List PyData}, Rps G F v d → toPys d = some p → DpAll G.K H v p
  | _, _, _, .nil, h => by simp only [toPys, Option.some.injEq] at h; subst h; exact .nil
  | _, _, _, .cons (d := d) (ds := ds) r rs, h => by
    simp only [toPys] at h
    split at h
    · rename_i p ps h1 h2
      cases h
      exact .cons (Rp.dp e r h1) (Rps.dp e rs h2)
    · cases h
end
noncomputable def dEqB (a b : D) : Option Bool := match toPy a, toPy b with
  | some p, some q => if SeqAt.shaped p && SeqAt.shaped q then some (PyData.eqv p q) else none
  | _, _ => none
theorem dEqB_inv {a b : D} {c : Bool} (h : dEqB a b = some c) : ∃ p q, toPy a = some p ∧ toPy b = some q ∧ SeqAt.shaped p = true ∧ SeqAt.shaped q = true ∧ c = PyData.eqv p q := by
  unfold dEqB at h
  split at h
  · rename_i p q h1 h2
    split at h
    · rename_i h3
      rw [Bool.and_eq_true] at h3
      cases h
      exact ⟨p, q, h1, h2, h3.1, h3.2, rfl⟩
    · cases h
  · cases h
end
end Eo
namespace Eo
open PySem L2
section
variable {G : Cg} {W : Wx}
/-! order -/
noncomputable def rS (g : Str → Str → V) : R2 := fun x y H Q => ∃ i j, x = .str i ∧ y = .str j ∧ Q (g i j) H
noncomputable def dOrd (gi : Int → Int → Bool) (gs : Str → Str → Bool) (a b : D) : Option D := match a, b with
  | .int i, .int j => some (.bl (gi i j))
  | .str i, .str j => some (.bl (gs i j))
  | _, _ => none
theorem od_ord {gi : Int → Int → Bool} {gs : Str → Str → Bool} : Opd G W (rOr (rI0 fun i j => .bl (gi i j)) (rS fun i j => .bl (gs i j))) (pur (dOrd gi gs)) := fun B F H σ ρ x y dx dy Q gg S rx ry h => by
  unfold pur at h
  obtain ⟨d, e, q, qn⟩ := lift_fits S h
  unfold dOrd at e
  split at e
  · cases e
    exact .inl ⟨_, _, rx.int_inv, ry.int_inv, q _ (.bl _)⟩
  · cases e
    exact .inr ⟨_, _, rx.str_inv, ry.str_inv, q _ (.bl _)⟩
  · cases e
noncomputable def ltS (i j : Str) : Bool := decide (i.cps.toList < j.cps.toList)
noncomputable def rLt : R2 := rOr (rI0 fun i j => .bl (decide (i < j))) (rS fun i j => .bl (ltS i j))
noncomputable def rGt : R2 := rOr (rI0 fun i j => .bl (decide (j < i))) (rS fun i j => .bl (ltS j i))
noncomputable def rGe : R2 := rOr (rI0 fun i j => .bl (decide (j ≤ i))) (rS fun i j => .bl (!ltS i j))
noncomputable def dLt := dOrd (fun i j => decide (i < j)) ltS
noncomputable def dLe := dOrd (fun i j => decide (i ≤ j)) fun i j => !ltS j i
noncomputable def dGt := dOrd (fun i j => decide (j < i)) fun i j => ltS j i
noncomputable def dGe := dOrd (fun i j => decide (j ≤ i)) fun i j => !ltS i j
theorem od_lt : Opd G W rLt (pur dLt) := od_ord
theorem od_gt : Opd G W rGt (pur dGt) := od_ord
theorem od_ge : Opd G W rGe (pur dGe) := od_ord
theorem op_ltA {X : Cx} : OpR X (compareOp .Lt) rLt := op_or2 op_lt op_lt_str
theorem op_gtA {X : Cx} : OpR X (compareOp .Gt) rGt := op_or2 op_gt op_gt_str
theorem op_geA {X : Cx} : OpR X (compareOp .GtE) rGe := op_or2 op_ge op_ge_str
/-! is -/
/-! truth -/
noncomputable def dTru : D → Option Bool
  | .non => some false
  | .bl b => some b
  | .int i => some (i != 0)
  | .str y => if y.length ≤ sizeLine then some ((y.length : Int) != 0) else none
  | .lst ds => some (!ds.isEmpty)
  | .tup ds => some (!ds.isEmpty)
  | .dct _ => none
  | .obj _ _ => none
  | .scr _ => none
  | .cls _ => none
  | .exc _ _ => none
theorem Rps.isEmpty {F : Hp} {vs : List V} {ds : List D} (h : Rps G F vs ds) : vs.isEmpty = ds.isEmpty := by cases h <;> rfl
theorem Rpk.isEmpty {F : Hp} {vs : List (Key × V)} {ds : List (Key × D)} (h : Rpk G F vs ds) : vs.isEmpty = ds.isEmpty := by cases h <;> rfl
noncomputable def mTru (ma : ME) : MT := fun ρ => (ma ρ).bind fun a ρ1 => lift (dTru a) ρ1
/-- a test by an expression that gives a bool -/
noncomputable def mTB (ma : ME) : MT := fun ρ => (ma ρ).bind fun a ρ1 => match a with
  | .bl b => .ok b ρ1
  | _ => .bad
theorem et_B {ta : TE} {ma : ME} (ha : EvE G W ta ma) : EvT G W (tTest ta) (mTB ma) := fun B F H σ ρ Q g S h =>
  ha B F H σ ρ _ g S (h.fst fun v a ρ1 F1 H1 e1 S1 r1 h1 => by
    split at h1
    · exact ⟨_, r1.bl_inv, h1 _ _ _ (Ex.refl _) S1 rfl⟩
    · exact h1.elim)
noncomputable def mAnd (ma mb : MT) : MT := fun ρ => (ma ρ).bind fun a ρ1 => if a then mb ρ1 else .ok false ρ1
noncomputable def mOr (ma mb : MT) : MT := fun ρ => (ma ρ).bind fun a ρ1 => if a then .ok true ρ1 else mb ρ1
noncomputable def mNot (ma : MT) : MT := fun ρ => (ma ρ).bind fun a ρ1 => .ok (!a) ρ1
theorem et_and {ta tb : TT} {ma mb : MT} (ha : EvT G W ta ma) (hb : EvT G W tb mb) : EvT G W (tAnd ta tb) (mAnd ma mb) := fun B F H σ ρ Q g S h =>
  ha B F H σ ρ _ g S (h.fst fun v a ρ1 F1 H1 e1 S1 r1 h1 => by
    cases (show v = a from r1)
    cases v with
    | true => exact hb B F1 H1 σ ρ1 Q g S1 h1
    | false => exact h1 _ _ _ (Ex.refl _) S1 rfl)
theorem et_or {ta tb : TT} {ma mb : MT} (ha : EvT G W ta ma) (hb : EvT G W tb mb) : EvT G W (tOr ta tb) (mOr ma mb) := fun B F H σ ρ Q g S h =>
  ha B F H σ ρ _ g S (h.fst fun v a ρ1 F1 H1 e1 S1 r1 h1 => by
    cases (show v = a from r1)
    cases v with
    | false => exact hb B F1 H1 σ ρ1 Q g S1 h1
    | true => exact h1 _ _ _ (Ex.refl _) S1 rfl)
/-- and, or, not as values -/
noncomputable def mAndV (ma mb : ME) : ME := fun ρ => (ma ρ).bind fun a ρ1 => (lift (dTru a) ρ1).bind fun k ρ2 => if k then mb ρ2 else .ok a ρ2
noncomputable def mOrV (ma mb : ME) : ME := fun ρ => (ma ρ).bind fun a ρ1 => (lift (dTru a) ρ1).bind fun k ρ2 => if k then .ok a ρ2 else mb ρ2
noncomputable def mNotV (ma : ME) : ME := fun ρ => (ma ρ).bind fun a ρ1 => (lift (dTru a) ρ1).bind fun k ρ2 => .ok (.bl (!k)) ρ2
/-- a if t else b -/
noncomputable def mIfE (mt : MT) (ma mb : ME) : ME := fun ρ => (mt ρ).bind fun c ρ1 => if c then ma ρ1 else mb ρ1
/-- a < b < c -/
noncomputable def mChain (op op' : D → D → Env → R D) (ma mb mc : ME) : ME := fun ρ => (ma ρ).bind fun a ρ1 => (mb ρ1).bind fun b ρ2 => (op a b ρ2).bind fun z ρ3 => match z with
  | .bl true => (mc ρ3).bind fun c ρ4 => op' b c ρ4
  | .bl false => .ok (.bl false) ρ3
  | _ => .bad
/-! subscripts -/
theorem Rps.atI {F : Hp} {vs : List V} {ds : List D} {i : Int} {d : D} (h : Rps G F vs ds) (e : atI ds i = some d) : ∃ v, L2.atI vs i = some v ∧ Rp G F v d := by
  unfold L2.atI at e ⊢
  rw [h.length]
  cases q : ixN ds.length i with
  | none => rw [q] at e; cases e
  | some j =>
    rw [q] at e
    exact h.get e
noncomputable def dIx (a b : D) : Option D := match a, b with
  | .lst ds, .int i => atI ds i
  | .tup ds, .int i => atI ds i
  | .str z, .int i => if z.length ≤ sizeLine then (atI z.cps.toList i).map fun c => .str ⟨#[c]⟩ else none
  | _, _ => none
theorem od_ix : Opd G W (rIx G.K) (pur dIx) := fun B F H σ ρ x y dx dy Q gg S rx ry h => by
  unfold pur at h
  obtain ⟨d, e, q, qn⟩ := lift_fits S h
  unfold dIx at e
  split at e
  · obtain ⟨a, vs, rfl, ha, ra⟩ := rx.lst_inv S.sub
    obtain ⟨v, h1, h2⟩ := ra.atI e
    exact .inl ⟨a, vs, _, v, rfl, ry.int_inv, SqL.of ha, h1, q v h2⟩
  · obtain ⟨a, vs, rfl, ha, ra⟩ := rx.tup_inv
    obtain ⟨v, h1, h2⟩ := ra.atI e
    exact .inr (.inl ⟨a, vs, _, v, rfl, ry.int_inv, ex_t S.sub ha, h1, q v h2⟩)
  · split at e
    · rw [Option.map_eq_some_iff] at e
      obtain ⟨c, e, rfl⟩ := e
      exact .inr (.inr ⟨_, _, c, rx.str_inv, ry.int_inv, by assumption, e, q _ (.str _)⟩)
    · cases e
  · cases e
/-! slices -/
noncomputable def cutL {α : Type} (xs : List α) (lo hi : Option Int) : List α := (xs.drop (HT.sIx xs.length 0 lo)).take (HT.sIx xs.length xs.length hi - HT.sIx xs.length 0 lo)
theorem Rps.cut {F : Hp} {vs : List V} {ds : List D} (h : Rps G F vs ds) (lo hi : Option Int) : Rps G F (cutV vs lo hi) (cutL ds lo hi) := by
  unfold cutV cutL
  rw [h.length]
  exact (h.drop _).take _
noncomputable abbrev MO := Env → R (Option Int)
noncomputable abbrev Roe : Rl (Option Int) (Option Int) := fun _ _ _ a b => a = b
noncomputable abbrev EvO (G : Cg) (W : Wx) (t : TO) (m : MO) : Prop := Ev G W Roe t m
theorem eo_none : EvO G W tNoPart (mC none) := fun B F H σ ρ Q g S h => h none F H (Ex.refl F) S rfl
noncomputable def mPart (ma : ME) : MO := fun ρ => (ma ρ).bind fun a ρ1 => match a with
  | .int i => .ok (some i) ρ1
  | _ => .bad
theorem eo_some {ta : TE} {ma : ME} (ha : EvE G W ta ma) : EvO G W (tPart ta) (mPart ma) := fun B F H σ ρ Q g S h =>
  ha B F H σ ρ _ g S (h.fst fun v a ρ1 F1 H1 e1 S1 r1 h1 => by
    split at h1
    · exact ⟨_, r1.int_inv, h1 _ _ _ (Ex.refl _) S1 rfl⟩
    · exact h1.elim)
noncomputable def rSlAny (K : PySem.W.Frag) : V → Option Int → Option Int → Hp → VK → Prop := fun x lo hi H Q => rSlL K x lo hi H Q ∨ (rSlA K x lo hi H Q ∨ rSlS x lo hi H Q)
theorem sl_any {X : Cx} : SlR X (rSlAny X.K) := sl_list.or (sl_tupA.or sl_str)
noncomputable def dSl (a : D) (lo hi : Option Int) : Option D := match a with
  | .lst ds => some (.lst (cutL ds lo hi))
  | .tup ds => some (.tup (cutL ds lo hi))
  | .str z => if z.length ≤ sizeLine then some (.str (cutS z lo hi)) else none
  | .scr ns => some (.lst ((cutL ns lo hi).map .int))
  | _ => none
theorem Rps.ints {F : Hp} : ∀ (ns : List Int), Rps G F (ns.map V.int) (ns.map .int)
  | [] => .nil
  | n :: ns => .cons (.int n) (Rps.ints ns)
theorem cutL_map {α β : Type} (f : α → β) (xs : List α) (lo hi : Option Int) : cutL (xs.map f) lo hi = (cutL xs lo hi).map f := by
  unfold cutL
  rw [List.length_map, List.map_take, List.map_drop]
noncomputable def mSl (ma : ME) (ml mh : MO) : ME := fun ρ => (ma ρ).bind fun a ρ1 => (ml ρ1).bind fun lo ρ2 => (mh ρ2).bind fun hi ρ3 => lift (dSl a lo hi) ρ3
theorem cutL_all {α : Type} {xs : List α} {lo hi : Option Int} (h : HT.sIx xs.length 0 lo = 0 ∧ HT.sIx xs.length xs.length hi = xs.length) : cutL xs lo hi = xs := by
  unfold cutL
  rw [h.1, h.2]; simp
theorem ev_sl {te : TE} {tl th : TO} {me : ME} {ml mh : MO} (he : EvE G W te me) (hl : EvO G W tl ml) (hh : EvO G W th mh) : EvE G W (tSl (rSlAny G.K) te tl th) (mSl me ml mh) := fun B F H σ ρ Q g S h =>
  he B F H σ ρ _ g S (h.fst fun v a ρ1 F1 H1 e1 S1 r1 h1 => hl B F1 H1 σ ρ1 _ g S1 (h1.fst fun lo lo' ρ2 F2 H2 e2 S2 r2 h2 => hh B F2 H2 σ ρ2 _ g S2 (h2.fst fun hi hi' ρ3 F3 H3 e3 S3 r3 h3 => by
    cases (show lo = lo' from r2)
    cases (show hi = hi' from r3)
    have ra := (r1.mono e2).mono e3
    obtain ⟨d, e, q, qn⟩ := lift_fits S3 h3
    unfold dSl at e
    split at e
    · cases e
      obtain ⟨b, vs, rfl, hb, rb⟩ := ra.lst_inv
      exact .inl ⟨b, vs, rfl, SqL.of (S3.sub _ _ hb), fun p hp => qn p _ _ hp (.lst upd_same ((rb.cut lo hi).mono (Ex.new (S3.sub.free hp))))⟩
    · cases e
      obtain ⟨b, vs, rfl, hb, rb⟩ := ra.tup_inv
      refine .inr (.inl ⟨b, vs, rfl, ex_t S3.sub hb, fun z => ?_, fun z p hp => qn p _ _ hp (.tup (SqT.of upd_same) ((rb.cut lo hi).mono (Ex.new (S3.sub.free hp))))⟩)
      rw [rb.length] at z
      rw [cutL_all z] at q
      exact q _ (.tup hb rb)
    · split at e
      · cases e
        exact .inr (.inr ⟨_, ra.str_inv, by assumption, q _ (.str _)⟩)
      · cases e
    · rename_i ns
      cases e
      cases ra with
      | scr hs =>
        refine .inl ⟨_, _, rfl, ex_l S3.sub hs, fun p hp => qn p _ _ hp (.lst upd_same ?_)⟩
        have z : cutV (ns.map V.int) lo hi = (cutL ns lo hi).map V.int := cutL_map V.int ns lo hi
        rw [z]; exact Rps.ints _
    · cases e)))
/-! argument lists, displays -/
noncomputable def mNil : MA := fun ρ => .ok [] ρ
noncomputable def mCons (ma : ME) (mr : MA) : MA := fun ρ => (ma ρ).bind fun a ρ1 => (mr ρ1).bind fun ds ρ2 => .ok (a :: ds) ρ2
theorem ea_nil : EvA G W tNil mNil := fun B F H σ ρ Q g S h => h _ _ _ (Ex.refl _) S .nil
theorem ea_cons {ta : TE} {tr : TA} {ma : ME} {mr : MA} (ha : EvE G W ta ma) (hr : EvA G W tr mr) : EvA G W (tCons ta tr) (mCons ma mr) := fun B F H σ ρ Q g S h =>
  ha B F H σ ρ _ g S (h.fst fun v a ρ1 F1 H1 e1 S1 r1 h1 => hr B F1 H1 σ ρ1 _ g S1 (h1.fst fun vs ds ρ2 F2 H2 e2 S2 r2 h2 => h2 _ _ _ (Ex.refl _) S2 (.cons (r1.mono e2) r2)))
noncomputable def mTup (ma : MA) : ME := fun ρ => (ma ρ).bind fun ds ρ1 => if ds.length ≤ sizeLine then .ok (.tup ds) ρ1 else .bad
noncomputable def mLst (ma : MA) : ME := fun ρ => (ma ρ).bind fun ds ρ1 => if ds.length ≤ sizeLine then .ok (.lst ds) ρ1 else .bad
theorem ev_tup {ta : TA} {ma : MA} (ha : EvA G W ta ma) : EvE G W (tTup ta) (mTup ma) := fun B F H σ ρ Q g S h =>
  ha B F H σ ρ _ g S (h.fst fun v a ρ1 F1 H1 e1 S1 r1 h1 => by
    split at h1
    · rename_i hl
      exact ⟨by rw [r1.length]; exact hl, fun p hp => h1 _ _ _ (Ex.new (S1.sub.free hp)) (S1.new hp) (.tup (SqT.of upd_same) (r1.mono (Ex.new (S1.sub.free hp))))⟩
    · exact h1.elim)
theorem ev_lst {ta : TA} {ma : MA} (ha : EvA G W ta ma) : EvE G W (tLst ta) (mLst ma) := fun B F H σ ρ Q g S h =>
  ha B F H σ ρ _ g S (h.fst fun v a ρ1 F1 H1 e1 S1 r1 h1 => by
    split at h1
    · rename_i hl
      exact ⟨by rw [r1.length]; exact hl, fun p hp => h1 _ _ _ (Ex.new (S1.sub.free hp)) (S1.new hp) (.lst upd_same (r1.mono (Ex.new (S1.sub.free hp))))⟩
    · exact h1.elim)
/-! calls of built-ins, by values; the last argument may be a list of one's own -/
inductive RpFs (G : Cg) (F H : Hp) : List V → List D → Prop
  | nil : RpFs G F H [] []
  | cons {v : V} {vs : List V} {d : D} {ds : List D} : RpF G F H v d → RpFs G F H vs ds → RpFs G F H (v :: vs) (d :: ds)
theorem Rps.fs {F H : Hp} : ∀ {vs : List V} {ds : List D}, Rps G F vs ds → RpFs G F H vs ds
  | _, _, .nil => .nil
  | _, _, .cons a b => .cons (.inl a) (Rps.fs b)
noncomputable abbrev RAF (G : Cg) : Rl (List V) (List D) := fun _ F H v d => RpFs G F H v d
noncomputable abbrev EvAF (G : Cg) (W : Wx) (t : TA) (m : MA) : Prop := Ev G W (RAF G) t m
theorem EvA.f {t : TA} {m : MA} (h : EvA G W t m) : EvAF G W t m := fun B F H σ ρ Q g S q => h B F H σ ρ Q g S (Fits.imp (fun _ _ _ _ r => r.fs) q)
noncomputable def Cad (G : Cg) (W : Wx) (r : List V → Hp → VK → Prop) (f : List D → Option D) : Prop :=
  ∀ (B : Bg) (F H : Hp) (σ : L2.St) (ρ : Env) (xs : List V) (ds : List D) (Q : VK), B.G = G → Sta B F H σ ρ → RpFs G F H xs ds → Fits B W (RE G) σ F Q (lift (f ds) ρ) → r xs H Q
noncomputable def mCB (f : List D → Option D) (ma : MA) : ME := fun ρ => (ma ρ).bind fun ds ρ1 => lift (f ds) ρ1
theorem ev_cbF {r : List V → Hp → VK → Prop} {f : List D → Option D} {ta : TA} {ma : MA} (hr : Cad G W r f) (ha : EvAF G W ta ma) : EvE G W (tCB r ta) (mCB f ma) := fun B F H σ ρ Q g S h =>
  ha B F H σ ρ _ g S (h.fst fun v a ρ1 F1 H1 e1 S1 r1 h1 => hr B F1 H1 σ ρ1 v a Q g S1 r1 h1)
theorem ev_cb {r : List V → Hp → VK → Prop} {f : List D → Option D} {ta : TA} {ma : MA} (hr : Cad G W r f) (ha : EvA G W ta ma) : EvE G W (tCB r ta) (mCB f ma) := ev_cbF hr ha.f
theorem RpFs.one {F H : Hp} {xs : List V} {d : D} (h : RpFs G F H xs [d]) : ∃ v, xs = [v] ∧ RpF G F H v d := by
  cases h with
  | cons r t => cases t; exact ⟨_, rfl, r⟩
theorem RpFs.two {F H : Hp} {xs : List V} {d e : D} (h : RpFs G F H xs [d, e]) : ∃ v u, xs = [v, u] ∧ RpF G F H v d ∧ RpF G F H u e := by
  cases h with
  | cons r t =>
    obtain ⟨u, rfl, q⟩ := t.one
    exact ⟨_, u, rfl, r, q⟩
noncomputable def dAbs : List D → Option D
  | [.int i] => some (.int (if i < 0 then -i else i))
  | _ => none
theorem Rps.one {F : Hp} {xs : List V} {d : D} (h : Rps G F xs [d]) : ∃ v, xs = [v] ∧ Rp G F v d := by
  cases h with
  | cons r t => cases t; exact ⟨_, rfl, r⟩
theorem Rps.two {F : Hp} {xs : List V} {d e : D} (h : Rps G F xs [d, e]) : ∃ v u, xs = [v, u] ∧ Rp G F v d ∧ Rp G F u e := by
  cases h with
  | cons r t =>
    obtain ⟨u, rfl, q⟩ := t.one
    exact ⟨_, u, rfl, r, q⟩
theorem cd_abs : Cad G W (fun xs H Q => ∃ i, xs = [.int i] ∧ Q (.int (if i < 0 then -i else i)) H) dAbs := fun B F H σ ρ xs ds Q g S r h => by
  obtain ⟨d, e, q, qn⟩ := lift_fits S h
  unfold dAbs at e
  split at e
  · cases e
    obtain ⟨v, rfl, rv⟩ := r.one
    exact ⟨_, by rw [rv.int_inv], q _ (.int _)⟩
  · cases e
noncomputable def dInt : List D → Option D
  | [.int i] => some (.int i)
  | [.bl k] => some (.int (if k then 1 else 0))
  | _ => none
theorem cd_int : Cad G W (fun xs H Q => (∃ i, xs = [.int i] ∧ Q (.int i) H) ∨ ∃ k, xs = [.bl k] ∧ Q (.int (if k then 1 else 0)) H) dInt := fun B F H σ ρ xs ds Q g S r h => by
  obtain ⟨d, e, q, qn⟩ := lift_fits S h
  unfold dInt at e
  split at e
  · cases e
    obtain ⟨v, rfl, rv⟩ := r.one
    exact .inl ⟨_, by rw [rv.int_inv], q _ (.int _)⟩
  · cases e
    obtain ⟨v, rfl, rv⟩ := r.one
    exact .inr ⟨_, by rw [rv.bl_inv], q _ (.int _)⟩
  · cases e
noncomputable def dLen : List D → Option D
  | [.str x] => if x.length ≤ sizeLine then some (.int x.length) else none
  | [.lst ds] => some (.int ds.length)
  | [.tup ds] => some (.int ds.length)
  | _ => none
theorem cd_len : Cad G W (fun xs H Q => ∃ x n, xs = [x] ∧ LenV G.K x H n ∧ Q (.int n) H) dLen := fun B F H σ ρ xs ds Q g S r h => by
  obtain ⟨d, e, q, qn⟩ := lift_fits S h
  unfold dLen at e
  split at e
  · split at e
    · cases e
      obtain ⟨v, rfl, rv⟩ := r.one
      rw [rv.str_inv]
      exact ⟨_, _, rfl, ⟨by assumption, rfl⟩, q _ (.int _)⟩
    · cases e
  · cases e
    obtain ⟨v, rfl, rv⟩ := r.one
    obtain ⟨a, vs, rfl, h1, h2⟩ := rv.lst_inv S.sub
    refine ⟨_, vs.length, rfl, .inl ⟨vs, SqL.of h1, rfl⟩, ?_⟩
    rw [h2.length]; exact q _ (.int _)
  · cases e
    obtain ⟨v, rfl, rv⟩ := r.one
    obtain ⟨a, vs, rfl, h1, h2⟩ := rv.tup_inv
    refine ⟨_, vs.length, rfl, .inr ⟨vs, ex_t S.sub h1, rfl⟩, ?_⟩
    rw [h2.length]; exact q _ (.int _)
  · cases e
end
end Eo
namespace Eo
open PySem L2
/-! ## statements -/
noncomputable def FitS (B : Bg) (W : Wx) (F : Hp) (D : Ends) : O → Prop
  | .nx ρ => ∀ σ' F' H', Ex F F' → Sta B F' H' σ' ρ → D.nx σ' H'
  | .rt d ρ => ∀ v σ' F' H', Ex F F' → Sta B F' H' σ' ρ → Rp B.G F' v d → D.rt v H'
  | .ro t ρ => ∀ v σ' F' H' A X, Ex F F' → Ex B.X X → LkOk B F' → Sta (B.with X) F' H' σ' ρ → Own B.G F' X v t A → A.Nodup → (∀ a ∈ A, B.X a = none ∧ B.H0 a = none) → D.rt v H'
  | .bk ρ => ∀ σ' F' H', Ex F F' → Sta B F' H' σ' ρ → D.bk σ' H'
  | .ct ρ => ∀ σ' F' H', Ex F F' → Sta B F' H' σ' ρ → D.ct σ' H'
  | .err c fs ρ => ∀ σ', Errs B W F σ' c fs ρ
  | .bad => False
theorem FitS.mono {B : Bg} {W : Wx} {F F1 : Hp} {D : Ends} (e : Ex F F1) : ∀ {o : O}, FitS B W F D o → FitS B W F1 D o
  | .nx _, h => fun σ' F' H' e' => h σ' F' H' (e.trans e')
  | .rt _ _, h => fun v σ' F' H' e' => h v σ' F' H' (e.trans e')
  | .ro _ _, h => fun v σ' F' H' A X e' => h v σ' F' H' A X (e.trans e')
  | .bk _, h => fun σ' F' H' e' => h σ' F' H' (e.trans e')
  | .ct _, h => fun σ' F' H' e' => h σ' F' H' (e.trans e')
  | .err _ _ _, h => fun σ' => (h σ').mono e
  | .bad, h => h
noncomputable def EvS (G : Cg) (W : Wx) (t : TS) (m : MS) : Prop :=
  ∀ (B : Bg) (F H : Hp) (σ : L2.St) (ρ : Env) (D : Ends), B.G = G → Sta B F H σ ρ → FitS B W F D (m ρ) → t D σ H
/-- from an expression's outcome to a statement's -/
noncomputable def R.then {α : Type} (r : R α) (k : α → Env → O) : O := match r with
  | .ok a ρ => k a ρ
  | .err c fs ρ => .err c fs ρ
  | .bad => .bad
theorem FitS.fst {α β : Type} {B : Bg} {W : Wx} {rel : Rl β α} {σ : L2.St} {F : Hp} {D : Ends} {Q : β → Hp → Prop} {k : α → Env → O} :
    ∀ {r : R α}, FitS B W F D (r.then k) → (∀ v a ρ' F' H', Ex F F' → Sta B F' H' σ ρ' → rel σ F' H' v a → FitS B W F' D (k a ρ') → Q v H') → Fits B W rel σ F Q r
  | .ok a ρ', h, q => fun v F' H' e S r => q v a ρ' F' H' e S r (FitS.mono e h)
  | .err _ _ _, h, _ => h σ
  | .bad, h, _ => h
section
variable {G : Cg} {W : Wx}
noncomputable def O.seq (o : O) (k : MS) : O := match o with
  | .nx ρ => k ρ
  | o => o
noncomputable def mSeq (a b : MS) : MS := fun ρ => (a ρ).seq b
theorem es_seq {t u : TS} {a b : MS} (ha : EvS G W t a) (hb : EvS G W u b) : EvS G W (tSeq t u) (mSeq a b) := fun B F H σ ρ D g S h => by
  refine ha B F H σ ρ _ g S ?_
  unfold mSeq at h
  cases e : a ρ with
  | nx ρ' => rw [e] at h; exact fun σ' F' H' e' S' => hb B F' H' σ' ρ' D g S' (FitS.mono e' h)
  | rt d ρ' => rw [e] at h; exact h
  | ro d ρ' => rw [e] at h; exact h
  | bk ρ' => rw [e] at h; exact h
  | ct ρ' => rw [e] at h; exact h
  | err c fs ρ' => rw [e] at h; exact h
  | bad => rw [e] at h; exact h
noncomputable def mNext : MS := fun ρ => .nx ρ
theorem es_next : EvS G W tNext mNext := fun B F H σ ρ D g S h => h σ F H (Ex.refl F) S
noncomputable def mBrk : MS := fun ρ => .bk ρ
noncomputable def mCt : MS := fun ρ => .ct ρ
noncomputable def mRet (me : ME) : MS := fun ρ => (me ρ).then fun d ρ' => .rt d ρ'
theorem es_ret {te : TE} {me : ME} (he : EvE G W te me) : EvS G W (tRet te) (mRet me) := fun B F H σ ρ D g S h =>
  he B F H σ ρ _ g S (h.fst fun v a ρ' F' H' e S' r h' => h' v σ F' H' (Ex.refl F') S' (g ▸ r))
noncomputable def mDrop (me : ME) : MS := fun ρ => (me ρ).then fun _ ρ' => .nx ρ'
noncomputable def mIf (mt : MT) (a b : MS) : MS := fun ρ => (mt ρ).then fun c ρ' => if c then a ρ' else b ρ'
theorem es_if {tt : TT} {t u : TS} {mt : MT} {a b : MS} (ht : EvT G W tt mt) (ha : EvS G W t a) (hb : EvS G W u b) : EvS G W (tIfS tt t u) (mIf mt a b) := fun B F H σ ρ D g S h =>
  ht B F H σ ρ _ g S (h.fst fun v c ρ' F' H' e S' r h' => by
    cases (show v = c from r)
    cases v with
    | true => exact ha B F' H' σ ρ' D g S' h'
    | false => exact hb B F' H' σ ρ' D g S' h')
/-- targets -/
noncomputable def Agr (ts : List Nat) (σ σ' : L2.St) : Prop := σ'.length = σ.length ∧ ∀ i, i ∉ ts → σ'[i]? = σ[i]?
noncomputable def EvG (G : Cg) (g : TG) (mg : D → Env → Option Env) (ts : List Nat) : Prop :=
  ∀ (B : Bg) (F H : Hp) (σ : L2.St) (ρ ρ' : Env) (x : V) (d : D) (Q : L2.St → Hp → Prop), B.G = G → Sta B F H σ ρ → Rp G F x d → mg d ρ = some ρ' → (∀ σ' F' H', Ex F F' → Agr ts σ σ' → Sta B F' H' σ' ρ' → Q σ' H') → g x σ H Q
noncomputable def gSet (i : Nat) (d : D) (ρ : Env) : Option Env := some (ρ.set i (.dat d))
theorem eg_name (i : Nat) : EvG G (gName i) (gSet i) [i] := fun B F H σ ρ ρ' x d Q g S r h q => by
  cases h
  refine q _ F H (Ex.refl F) ⟨by rw [List.length_set], fun j hj => ?_⟩ (S.set (g ▸ r))
  rw [List.getElem?_set_ne (by intro e; exact hj (by simp [e]))]
theorem Agr.trans {ts us : List Nat} {σ σ1 σ2 : L2.St} (a : Agr ts σ σ1) (b : Agr us σ1 σ2) : Agr (ts ++ us) σ σ2 :=
  ⟨b.1.trans a.1, fun i hi => by
    rw [List.mem_append, not_or] at hi
    exact (b.2 i hi.2).trans (a.2 i hi.1)⟩
noncomputable def gNilD (ds : List D) (ρ : Env) : Option Env := match ds with
  | [] => some ρ
  | _ => none
noncomputable def gConsD (f : D → Env → Option Env) (g : List D → Env → Option Env) (ds : List D) (ρ : Env) : Option Env := match ds with
  | d :: r => (f d ρ).bind fun ρ1 => g r ρ1
  | _ => none
noncomputable def gTupD (n : Nat) (g : List D → Env → Option Env) (d : D) (ρ : Env) : Option Env := match d with
  | .tup ds => if ds.length = n then g ds ρ else none
  | _ => none
noncomputable def optO (o : Option Env) : O := match o with
  | some ρ => .nx ρ
  | none => .bad
noncomputable def mAsg (me : ME) (mg : D → Env → Option Env) : MS := fun ρ => (me ρ).then fun d ρ' => optO (mg d ρ')
theorem es_asg {te : TE} {g : TG} {me : ME} {mg : D → Env → Option Env} {ts : List Nat} (he : EvE G W te me) (hg : EvG G g mg ts) : EvS G W (tAsg te g) (mAsg me mg) := fun B F H σ ρ D gg S h =>
  he B F H σ ρ _ gg S (h.fst fun v a ρ' F' H' e S' r h' => by
    cases q : mg a ρ' with
    | none => rw [q] at h'; exact h'.elim
    | some ρ2 =>
      rw [q] at h'
      exact hg B F' H' σ ρ' ρ2 v a _ gg S' r q fun σ' F2 H2 e2 _ S2 => h' σ' F2 H2 e2 S2)
/-- data from now on -/
theorem es_frz {t : TS} {m : MS} (i : Nat) (h : EvS G W t m) : EvS G W t (fun ρ => m (frz i ρ)) := fun B F H σ ρ D gg S q => by
  obtain ⟨F', e, S'⟩ := S.frz i
  exact h B F' H σ _ D gg S' (FitS.mono e q)
end
end Eo
namespace Eo
open PySem L2
section
variable {G : Cg} {W : Wx}
/-! ## loops -/
/-- nothing, or one frozen thing more -/
noncomputable def Gro (F H F' H' : Hp) : Prop := (F' = F ∧ H' = H) ∨ ∃ p o, H p = none ∧ F' = upd F p o ∧ H' = upd H p o
theorem Sta.gro {B : Bg} {F H F' H' : Hp} {σ : L2.St} {ρ : Env} (S : Sta B F H σ ρ) (g : Gro F H F' H') : Sta B F' H' σ ρ ∧ Ex F F' := by
  rcases g with ⟨rfl, rfl⟩ | ⟨p, o, hp, rfl, rfl⟩
  · exact ⟨S, Ex.refl _⟩
  · exact ⟨S.new hp, Ex.new (S.sub.free hp)⟩
/-- an iterator goes over data, while what is frozen stays -/
noncomputable def Walks (G : Cg) (J : It) (F : Hp) (ds : List D) : Prop := ∀ (i : Nat) (F1 H : Hp), Ex F F1 → Ex F1 H →
  (∀ d, ds[i]? = some d → J.go i H ∧ ∀ x H', J.yld i H x H' → ∃ F', Gro F1 H F' H' ∧ Rp G F' x d) ∧ (ds.length ≤ i → J.stop i H)
noncomputable abbrev RW (G : Cg) : Rl It (List D) := fun _ F _ J ds => Walks G J F ds
noncomputable def EvI (G : Cg) (W : Wx) (wi : TI) (m : MA) : Prop := ∀ (B : Bg) (F H : Hp) (σ : L2.St) (ρ : Env) (R : It → Hp → Prop), B.G = G → Sta B F H σ ρ → Fits B W (RW G) σ F R (m ρ) → wi σ H R
noncomputable def iOr (a b : TI) : TI := fun σ H R => a σ H R ∨ b σ H R
theorem pi_or {X : Cx} {tg e : Expr} {a b : TI} (h1 : PI X tg e a) (h2 : PI X tg e b) : PI X tg e (iOr a b) := ⟨fun pins s σ H R I h => by
  rcases h with h | h
  · exact h1.run pins s σ H R I h
  · exact h2.run pins s σ H R I h⟩
noncomputable def iAny (K : PySem.W.Frag) (te : TE) : TI := iOr (iList K te) (iOr (iTup K te) (iStr te))
theorem pi_any {X : Cx} {tg e : Expr} {te : TE} (he : PE X e te) : PI X tg e (iAny X.K te) := pi_or (pi_list he) (pi_or (pi_tup he) (pi_str he))
noncomputable def signs (x : Str) : List D := x.cps.toList.map fun c => .str ⟨#[c]⟩
noncomputable def dItems : D → Option (List D)
  | .lst ds => some ds
  | .tup ds => some ds
  | .str x => some (signs x)
  | _ => none
noncomputable def mItems (me : ME) : MA := fun ρ => (me ρ).bind fun a ρ1 => lift (dItems a) ρ1
theorem ei_any {te : TE} {me : ME} (he : EvE G W te me) : EvI G W (iAny G.K te) (mItems me) := fun B F H σ ρ R g S h => by
  unfold mItems at h
  cases e : me ρ with
  | bad => rw [e] at h; exact h.elim
  | err c fs ρ1 =>
    rw [e] at h
    refine .inl (he B F H σ ρ _ g S ?_)
    rw [e]; exact h
  | ok d ρ1 =>
    rw [e] at h
    have h' : Fits B W (RW G) σ F R (lift (dItems d) ρ1) := h
    cases d with
    | lst ds =>
      refine .inl (he B F H σ ρ _ g S ?_)
      rw [e]
      intro v F' H' e' S' r
      obtain ⟨a, vs, rfl, ha, ra⟩ := r.lst_inv
      refine ⟨a, rfl, ⟨vs, SqL.of (S'.sub _ _ ha)⟩, h' _ F' H' e' S' ?_⟩
      intro i F1 H1 x1 x2
      have hs : SqL G.K H1 a vs := SqL.of (x2 _ _ (x1 _ _ ha))
      refine ⟨fun d hd => ?_, fun hl => ⟨vs, hs, by rw [ra.length]; exact hl⟩⟩
      obtain ⟨v, h1, h2⟩ := ra.get hd
      refine ⟨⟨vs, v, hs, h1⟩, fun x H2 hy => ⟨F1, .inl ⟨rfl, hy.1⟩, ?_⟩⟩
      have z := hy.2 vs hs
      rw [h1] at z
      cases z
      exact h2.mono x1
    | tup ds =>
      refine .inr (.inl (he B F H σ ρ _ g S ?_))
      rw [e]
      intro v F' H' e' S' r
      obtain ⟨a, vs, rfl, ha, ra⟩ := r.tup_inv
      refine ⟨a, rfl, ⟨vs, ex_t S'.sub ha⟩, h' _ F' H' e' S' ?_⟩
      intro i F1 H1 x1 x2
      have hs : SqT G.K H1 a vs := ex_t x2 (ex_t x1 ha)
      refine ⟨fun d hd => ?_, fun hl => ⟨vs, hs, by rw [ra.length]; exact hl⟩⟩
      obtain ⟨v, h1, h2⟩ := ra.get hd
      refine ⟨⟨vs, v, hs, h1⟩, fun x H2 hy => ⟨F1, .inl ⟨rfl, hy.1⟩, ?_⟩⟩
      have z := hy.2 vs hs
      rw [h1] at z
      cases z
      exact h2.mono x1
    | str x =>
      refine .inr (.inr (he B F H σ ρ _ g S ?_))
      rw [e]
      intro v F' H' e' S' r
      refine ⟨x, r.str_inv, h' _ F' H' e' S' ?_⟩
      intro i F1 H1 x1 x2
      refine ⟨fun d hd => ?_, fun hl => ?_⟩
      · unfold signs at hd
        rw [List.getElem?_map, Option.map_eq_some_iff] at hd
        obtain ⟨c, hc, rfl⟩ := hd
        rw [Array.getElem?_toList] at hc
        refine ⟨(Array.getElem?_eq_some_iff.mp hc).1, fun y H2 hy => ⟨F1, .inl ⟨rfl, hy.1⟩, ?_⟩⟩
        obtain ⟨c', q1, rfl⟩ := hy.2
        rw [hc] at q1
        cases q1
        exact .str _
      · unfold signs at hl
        rw [List.length_map, Array.length_toList] at hl
        exact hl
    | non => exact h'.elim
    | bl => exact h'.elim
    | int => exact h'.elim
    | dct => exact h'.elim
    | obj => exact h'.elim
    | scr => exact h'.elim
    | cls => exact h'.elim
    | exc => exact h'.elim
noncomputable def rangeD (lo : Int) (n : Nat) : List D := (List.range n).map fun (i : Nat) => .int (lo + (i : Int))
theorem walks_range {F : Hp} {lo : Int} {n : Nat} : Walks G (Itr lo n) F (rangeD lo n) := fun i F1 H x1 x2 => by
  refine ⟨fun d hd => ?_, fun hl => ?_⟩
  · unfold rangeD at hd
    rw [List.getElem?_map, Option.map_eq_some_iff] at hd
    obtain ⟨c, hc, rfl⟩ := hd
    obtain ⟨q1, q2⟩ := List.getElem?_eq_some_iff.mp hc
    rw [List.getElem_range] at q2
    subst q2
    rw [List.length_range] at q1
    exact ⟨q1, fun y H2 hy => ⟨F1, .inl ⟨rfl, hy.1⟩, by rw [hy.2]; exact .int _⟩⟩
  · unfold rangeD at hl
    rw [List.length_map, List.length_range] at hl
    exact hl
noncomputable def in62 (i : Int) : Bool := decide (-(2 ^ 62) ≤ i) && decide (i < 2 ^ 62)
noncomputable def dRange1 : List D → Option (List D)
  | [.int j] => if in62 j then some (rangeD 0 j.toNat) else none
  | _ => none
noncomputable def mRange (f : List D → Option (List D)) (ma : MA) : MA := fun ρ => (ma ρ).bind fun ds ρ1 => lift (f ds) ρ1
theorem ei_range1 {ta : TA} {ma : MA} (ha : EvA G W ta ma) : EvI G W (iRng1 ta) (mRange dRange1 ma) := fun B F H σ ρ R g S h =>
  ha B F H σ ρ _ g S (h.fst fun v a ρ1 F1 H1 e1 S1 r1 h1 => by
    unfold dRange1 at h1
    split at h1
    · split at h1
      · rename_i hj
        obtain ⟨u, rfl, ru⟩ := r1.one
        unfold in62 at hj
        simp only [Bool.and_eq_true, decide_eq_true_eq] at hj
        exact ⟨_, by rw [ru.int_inv], hj.1, hj.2, h1 _ F1 H1 (Ex.refl F1) S1 walks_range⟩
      · exact h1.elim
    · exact h1.elim)
/-- for -/
noncomputable def forD (mg : D → Env → Option Env) (body : MS) : List D → Env → O
  | [], ρ => .nx ρ
  | d :: ds, ρ => match mg d ρ with
    | none => .bad
    | some ρ1 => match body ρ1 with
      | .nx ρ2 => forD mg body ds ρ2
      | .ct ρ2 => forD mg body ds ρ2
      | .bk ρ2 => .nx ρ2
      | o => o
noncomputable def mFor (mi : MA) (mg : D → Env → Option Env) (body : MS) : MS := fun ρ => (mi ρ).then fun ds ρ1 => forD mg body ds ρ1
noncomputable def forR (g : TG) (tb : TS) (D : Ends) (σ : L2.St) : It → Hp → Prop := fun J H1 => ∃ W : Nat → Nat → L2.St → Hp → Prop, (∃ m, W 0 m σ H1) ∧ ∀ i m σ H, W i m σ H →
  (J.stop i H ∧ D.nx σ H) ∨ (J.go i H ∧ ∃ N : L2.St → Hp → Prop, (∀ σ' H', N σ' H' → ∃ m', m' < m ∧ W (i + 1) m' σ' H') ∧ ∀ x H', J.yld i H x H' → g x σ H' fun σ2 H2 => tb { D with nx := N, ct := N, bk := D.nx } σ2 H2)
theorem for_main {g : TG} {tb : TS} {mg : D → Env → Option Env} {ts : List Nat} {body : MS} (hg : EvG G g mg ts) (hb : EvS G W tb body) {B : Bg} {F0 H0 : Hp} {σ : L2.St} {ρ0 : Env} {D : Ends} {J : It} {ds : List Eo.D} (gg : B.G = G) (S0 : Sta B F0 H0 σ ρ0) (wk : Walks G J F0 ds)
    (h0 : FitS B W F0 D (forD mg body ds ρ0)) : forR g tb D σ J H0 := by
  refine ⟨fun i m σ H => m = ds.length - i ∧ i ≤ ds.length ∧ ∃ F1 ρ1, Ex F0 F1 ∧ Sta B F1 H σ ρ1 ∧ FitS B W F1 D (forD mg body (ds.drop i) ρ1), ⟨ds.length, by simp, Nat.zero_le _, F0, ρ0, Ex.refl F0, S0, by simpa using h0⟩, ?_⟩
  rintro i m σ1 H1 ⟨rfl, hil, F1, ρ1, e1, S1, h1⟩
  have w1 := wk i F1 H1 e1 S1.sub
  by_cases hlt : i < ds.length
  · right
    have hd : ds[i]? = some ds[i] := List.getElem?_eq_getElem hlt
    obtain ⟨hgo, hy⟩ := w1.1 _ hd
    refine ⟨hgo, fun σ' H' => ∃ F2 ρ2, Ex F0 F2 ∧ Sta B F2 H' σ' ρ2 ∧ FitS B W F2 D (forD mg body (ds.drop (i + 1)) ρ2), fun σ' H' ⟨F2, ρ2, x1, x2, x3⟩ => ⟨ds.length - (i + 1), by omega, rfl, by omega, F2, ρ2, x1, x2, x3⟩, fun x H2 hyl => ?_⟩
    obtain ⟨F2, hgr, rx⟩ := hy x H2 hyl
    obtain ⟨S2, e2⟩ := S1.gro hgr
    rw [List.drop_eq_getElem_cons hlt] at h1
    have h2 := FitS.mono e2 h1
    simp only [forD] at h2
    split at h2
    · exact h2.elim
    · rename_i ρ2 hm
      refine hg B F2 H2 σ1 ρ1 ρ2 x _ _ gg S2 rx hm fun σ2 F3 H3 e3 _ S3 => ?_
      refine hb B F3 H3 σ2 ρ2 _ gg S3 ?_
      replace h2 := FitS.mono e3 h2
      replace e2 := e2.trans e3
      cases eb : body ρ2 with
      | nx ρ3 => rw [eb] at h2; exact fun σ' F' H' e' S' => ⟨F', ρ3, (e1.trans e2).trans e', S', FitS.mono e' h2⟩
      | ct ρ3 => rw [eb] at h2; exact fun σ' F' H' e' S' => ⟨F', ρ3, (e1.trans e2).trans e', S', FitS.mono e' h2⟩
      | bk ρ3 => rw [eb] at h2; exact fun σ' F' H' e' S' => h2 σ' F' H' e' S'
      | rt d ρ3 => rw [eb] at h2; exact h2
      | ro d ρ3 => rw [eb] at h2; exact h2
      | err c fs ρ3 => rw [eb] at h2; exact h2
      | bad => rw [eb] at h2; exact h2
  · left
    have hz : i = ds.length := by omega
    subst hz
    refine ⟨w1.2 (Nat.le_refl _), ?_⟩
    rw [List.drop_length] at h1
    exact h1 σ1 F1 H1 (Ex.refl F1) S1
theorem es_for {wi : TI} {g : TG} {tb : TS} {mi : MA} {mg : D → Env → Option Env} {ts : List Nat} {body : MS} (hi : EvI G W wi mi) (hg : EvG G g mg ts) (hb : EvS G W tb body) : EvS G W (tFor wi g tb) (mFor mi mg body) := fun B F H σ ρ D gg S h =>
  hi B F H σ ρ _ gg S (FitS.fst h fun J ds ρ0 F0 H0 e0 S0 wk h0 => for_main hg hb gg S0 wk h0)
/-! ## list comprehensions -/
noncomputable def wipeE (ρ : Env) : List Nat → Env
  | [] => ρ
  | v :: vs => (wipeE ρ vs).set v .emp
theorem wipeE_len (ρ : Env) : ∀ vs : List Nat, (wipeE ρ vs).length = ρ.length
  | [] => rfl
  | v :: vs => by unfold wipeE; rw [List.length_set, wipeE_len ρ vs]
theorem wipeE_get (ρ : Env) (i : Nat) (s : Sl) : ∀ vs : List Nat, (wipeE ρ vs)[i]? = some s → s = .emp ∨ (i ∉ vs ∧ ρ[i]? = some s)
  | [], h => .inr ⟨by simp, h⟩
  | v :: vs, h => by
    unfold wipeE at h
    by_cases e : v = i
    · subst e
      have hl := (List.getElem?_eq_some_iff.mp h).1
      rw [List.length_set] at hl
      rw [List.getElem?_set_self hl] at h
      cases h; exact .inl rfl
    · rw [List.getElem?_set_ne e] at h
      rcases wipeE_get ρ i s vs h with q | ⟨q1, q2⟩
      · exact .inl q
      · exact .inr ⟨by simp only [List.mem_cons, not_or]; exact ⟨fun z => e z.symm, q1⟩, q2⟩
theorem wipe_ne (σ : L2.St) {i : Nat} : ∀ {vs : List Nat}, i ∉ vs → (wipe σ vs)[i]? = σ[i]?
  | [], _ => rfl
  | v :: vs, h => by
    simp only [List.mem_cons, not_or] at h
    unfold wipe
    rw [List.getElem?_set_ne (fun z => h.1 z.symm), wipe_ne σ h.2]
theorem wipe_in (σ : L2.St) {i : Nat} : ∀ {vs : List Nat}, i ∈ vs → i < σ.length → (wipe σ vs)[i]? = some none
  | [], h, _ => by simp at h
  | v :: vs, h, hl => by
    unfold wipe
    by_cases e : v = i
    · subst e; rw [List.getElem?_set_self (by rw [wipe_length]; exact hl)]
    · rw [List.getElem?_set_ne e]
      rcases List.mem_cons.mp h with z | z
      · exact absurd z.symm e
      · exact wipe_in σ z hl
theorem wipe_agr {σ σ' : L2.St} {vs : List Nat} (a : Agr vs (wipe σ vs) σ') : wipe σ' vs = wipe σ vs := by
  have hl : σ'.length = σ.length := a.1.trans (wipe_length σ vs)
  apply List.ext_getElem?
  intro i
  by_cases hi : i < σ.length
  · by_cases hv : i ∈ vs
    · rw [wipe_in σ' hv (by omega), wipe_in σ hv hi]
    · rw [wipe_ne σ' hv, a.2 i hv]
  · rw [List.getElem?_eq_none (by rw [wipe_length]; omega), List.getElem?_eq_none (by rw [wipe_length]; omega)]
/-- other slots but those at vs are the same -/
theorem Sta.wiped {B : Bg} {F H : Hp} {σ σ' : L2.St} {ρ : Env} {vs : List Nat} (S : Sta B F H σ ρ) (hl : σ'.length = σ.length) (he : ∀ i, i ∉ vs → σ'[i]? = σ[i]?) : Sta B F H σ' (wipeE ρ vs) where
  toWd := S.toWd
  len := by rw [hl, wipeE_len]; exact S.len
  own := by
    obtain ⟨A, q⟩ := S.own
    exact q.dropped fun i s h => by
      rcases wipeE_get ρ i s vs h with rfl | ⟨q1, q2⟩
      · exact .inl rfl
      · exact .inr ⟨he i q1, q2⟩
/-- nothing is raised -/
noncomputable def Wn : Wx := fun _ _ _ _ => False
noncomputable def lcD (vs : List Nat) (mg : D → Env → Option Env) (mt : MT) (me : ME) : List D → List D → Env → R (List D)
  | [], acc, ρ => .ok acc ρ
  | d :: ds, acc, ρ => match mg d ρ with
    | none => .bad
    | some ρ1 => match mt ρ1 with
      | .ok true ρ2 => match me ρ2 with
        | .ok y ρ3 => if acc.length < sizeLine then lcD vs mg mt me ds (acc ++ [y]) (wipeE ρ3 vs) else .bad
        | _ => .bad
      | .ok false ρ2 => lcD vs mg mt me ds acc (wipeE ρ2 vs)
      | _ => .bad
noncomputable def mLc (vs : List Nat) (mi : MA) (mg : D → Env → Option Env) (mt : MT) (me : ME) : ME := fun ρ => (mi ρ).bind fun ds ρ1 => (lcD vs mg mt me ds [] (wipeE ρ1 vs)).bind fun acc ρ2 => .ok (.lst acc) (wipeE ρ2 vs)
noncomputable def lcR (g : TG) (tt : TT) (te : TE) (vs : List Nat) (σ : L2.St) (Q : VK) : It → Hp → Prop := fun J H1 => ∀ D, H1 D = none → ∃ W : Nat → Nat → Hp → Prop, (∃ m, W 0 m (upd H1 D (.lst []))) ∧ ∀ i m H, W i m H →
  (J.stop i H ∧ Q (.ref D) H) ∨ (J.go i H ∧ ∃ Nx : Hp → Prop, (∀ H', Nx H' → ∃ m', m' < m ∧ W (i + 1) m' H') ∧ ∀ x H', J.yld i H x H' → g x (wipe σ vs) H' fun σ2 H2 => wipe σ2 vs = wipe σ vs ∧ tt σ2 H2 fun b H3 =>
    if b = true then te σ2 H3 fun y H4 => ∃ acc, H4 D = some (.lst acc) ∧ acc.length < sizeLine ∧ Nx (upd H4 D (.lst (acc ++ [y]))) else Nx H3)
theorem lc_main {g : TG} {tt : TT} {te : TE} {vs : List Nat} {mg : D → Env → Option Env} {mt : MT} {me : ME} (hg : EvG G g mg vs) (ht : EvT G Wn tt mt) (he : EvE G Wn te me) {B : Bg} {F0 H0 : Hp} {σ : L2.St} {ρ0 : Env} {Q : VK} {J : It} {ds : List D} (gg : B.G = G) (S0 : Sta B F0 H0 σ ρ0) (wk : Walks G J F0 ds)
    (h0 : Fits B W (RE G) σ F0 Q ((lcD vs mg mt me ds [] (wipeE ρ0 vs)).bind fun acc ρ2 => .ok (.lst acc) (wipeE ρ2 vs))) : lcR g tt te vs σ Q J H0 := by
  intro Dd hD
  have x0 : B.X Dd = none := S0.xfree hD
  have z0 : B.H0 Dd = none := S0.fresh hD
  have fd : F0 Dd = none := S0.sub.free hD
  have lk0 : LkOk B F0 := S0.lk
  have Sw : Sta B F0 H0 (wipe σ vs) (wipeE ρ0 vs) := S0.wiped (wipe_length σ vs) fun i hi => wipe_ne σ hi
  have gB : ∀ acc, (B.also Dd (.lst acc)).G = G := fun _ => gg
  refine ⟨fun i m H => m = ds.length - i ∧ i ≤ ds.length ∧ ∃ F1 ρ1 acc dacc, Ex F0 F1 ∧ Sta (B.also Dd (.lst acc)) F1 H (wipe σ vs) ρ1 ∧ Rps G F1 acc dacc ∧ Fits B W (RE G) σ F1 Q ((lcD vs mg mt me (ds.drop i) dacc ρ1).bind fun acc ρ2 => .ok (.lst acc) (wipeE ρ2 vs)),
    ⟨ds.length, by simp, Nat.zero_le _, F0, wipeE ρ0 vs, [], [], Ex.refl F0, Sw.also hD, .nil, by simpa using h0⟩, ?_⟩
  rintro i m H1 ⟨rfl, hil, F1, ρ1, acc, dacc, e1, S1, ra, h1⟩
  have w1 := wk i F1 H1 e1 S1.sub
  by_cases hlt : i < ds.length
  · right
    have hd : ds[i]? = some ds[i] := List.getElem?_eq_getElem hlt
    obtain ⟨hgo, hy⟩ := w1.1 _ hd
    refine ⟨hgo, fun H' => ∃ F1 ρ1 acc dacc, Ex F0 F1 ∧ Sta (B.also Dd (.lst acc)) F1 H' (wipe σ vs) ρ1 ∧ Rps G F1 acc dacc ∧ Fits B W (RE G) σ F1 Q ((lcD vs mg mt me (ds.drop (i + 1)) dacc ρ1).bind fun acc ρ2 => .ok (.lst acc) (wipeE ρ2 vs)),
      fun H' q => ⟨ds.length - (i + 1), by omega, rfl, by omega, q⟩, fun x H2 hyl => ?_⟩
    obtain ⟨F2, hgr, rx⟩ := hy x H2 hyl
    obtain ⟨S2, e2⟩ := S1.gro hgr
    rw [List.drop_eq_getElem_cons hlt] at h1
    have h2 := Fits.mono e2 h1
    simp only [lcD] at h2
    split at h2
    · exact h2.elim
    · rename_i ρ2 hm
      refine hg (B.also Dd (.lst acc)) F2 H2 (wipe σ vs) ρ1 ρ2 x _ _ gg S2 rx hm fun σ2 F2' H2' e2' a2 S3 => ⟨wipe_agr a2, ?_⟩
      replace h2 := Fits.mono e2' h2
      replace e2 := e2.trans e2'
      have back : ∀ {B' : Bg} {F' H' : Hp} {ρ' : Env}, Sta B' F' H' σ2 ρ' → Sta B' F' H' (wipe σ vs) (wipeE ρ' vs) := fun S' => S'.wiped a2.1.symm fun j hj => (a2.2 j hj).symm
      refine ht (B.also Dd (.lst acc)) F2' H2' σ2 ρ2 _ gg S3 ?_
      cases et : mt ρ2 with
      | bad => rw [et] at h2; exact h2.elim
      | err c fs ρ3 => rw [et] at h2; exact h2.elim
      | ok b ρ3 =>
        rw [et] at h2
        intro b' F3 H3 e3 S4 rb
        cases (show b' = b from rb)
        cases b with
        | false =>
          simp only [Bool.false_eq_true, if_false]
          exact ⟨F3, _, acc, dacc, (e1.trans e2).trans e3, back S4, ra.mono (e2.trans e3), Fits.mono e3 h2⟩
        | true =>
          simp only [if_true]
          dsimp only at h2
          refine he (B.also Dd (.lst acc)) F3 H3 σ2 ρ3 _ gg S4 ?_
          cases ee : me ρ3 with
          | bad => rw [ee] at h2; exact h2.elim
          | err c fs ρ4 => rw [ee] at h2; exact h2.elim
          | ok y ρ4 =>
            rw [ee] at h2
            intro v F4 H4 e4 S5 rv
            simp only at h2
            split at h2
            · rename_i hlen
              have e5 := (e2.trans e3).trans e4
              obtain ⟨S6, q1, q2⟩ := Sta.less (lk0.mono (e1.trans e5)) x0 z0 (back S5) (.lst (acc ++ [v]))
              exact ⟨acc, q1, by rw [ra.length]; exact hlen, F4, _, acc ++ [v], dacc ++ [y], e1.trans e5, S6, (ra.mono e5).append (.cons rv .nil), Fits.mono (e3.trans e4) h2⟩
            · exact h2.elim
  · left
    have hz : i = ds.length := by omega
    subst hz
    refine ⟨w1.2 (Nat.le_refl _), ?_⟩
    rw [List.drop_length] at h1
    have h3 : ∀ v F' H', Ex F1 F' → Sta B F' H' σ (wipeE ρ1 vs) → Rp G F' v (.lst dacc) → Q v H' := h1
    have S2 := Sta.keepIt (lk0.mono e1) z0 x0 S1
    have nf : F1 Dd = none := (S1.ext Dd _ upd_same).2
    exact h3 _ _ _ (Ex.new nf) (S2.wiped (wipe_length σ vs).symm fun j hj => (wipe_ne σ hj).symm) (.lst upd_same (ra.mono (Ex.new nf)))
theorem ev_lc {wi : TI} {g : TG} {tt : TT} {te : TE} {vs : List Nat} {mi : MA} {mg : D → Env → Option Env} {mt : MT} {me : ME} (hi : EvI G W wi mi) (hg : EvG G g mg vs) (ht : EvT G Wn tt mt) (he : EvE G Wn te me) :
    EvE G W (tLc wi g tt te vs) (mLc vs mi mg mt me) := fun B F H σ ρ Q gg S h =>
  hi B F H σ ρ _ gg S (Fits.fst h fun J ds ρ0 F0 H0 e0 S0 wk h0 => lc_main hg ht he gg S0 wk h0)
end
end Eo
namespace Eo
open PySem L2
/-! ## expressions that make a tree of one's own -/
noncomputable def FitW (B : Bg) (W : Wx) (σ : L2.St) (F : Hp) (Q : V → Hp → Prop) : R OT → Prop
  | .ok t ρ => ∀ v F' H' A X, Ex F F' → Ex B.X X → LkOk B F' → Sta (B.with X) F' H' σ ρ → Own B.G F' X v t A → A.Nodup → (∀ a ∈ A, B.X a = none ∧ B.H0 a = none) → Q v H'
  | .err c fs ρ => Errs B W F σ c fs ρ
  | .bad => False
noncomputable def FitWs (B : Bg) (W : Wx) (σ : L2.St) (F : Hp) (Q : List V → Hp → Prop) : R (List OT) → Prop
  | .ok t ρ => ∀ v F' H' A X, Ex F F' → Ex B.X X → LkOk B F' → Sta (B.with X) F' H' σ ρ → Owns B.G F' X v t A → A.Nodup → (∀ a ∈ A, B.X a = none ∧ B.H0 a = none) → Q v H'
  | .err c fs ρ => Errs B W F σ c fs ρ
  | .bad => False
noncomputable abbrev MW := Env → R OT
noncomputable abbrev MWs := Env → R (List OT)
noncomputable def EvW (G : Cg) (W : Wx) (t : TE) (m : MW) : Prop := ∀ (B : Bg) (F H : Hp) (σ : L2.St) (ρ : Env) (Q : V → Hp → Prop), B.G = G → Sta B F H σ ρ → FitW B W σ F Q (m ρ) → t σ H Q
noncomputable def EvWs (G : Cg) (W : Wx) (t : TA) (m : MWs) : Prop := ∀ (B : Bg) (F H : Hp) (σ : L2.St) (ρ : Env) (Q : List V → Hp → Prop), B.G = G → Sta B F H σ ρ → FitWs B W σ F Q (m ρ) → t σ H Q
section
variable {G : Cg} {W : Wx}
/-- data as a leaf -/
noncomputable def mLf (me : ME) : MW := fun ρ => (me ρ).bind fun d ρ1 => .ok (.leaf d) ρ1
theorem ew_leaf {te : TE} {me : ME} (h : EvE G W te me) : EvW G W te (mLf me) := fun B F H σ ρ Q g S q => by
  refine h B F H σ ρ Q g S ?_
  unfold mLf at q
  cases e : me ρ with
  | ok d ρ1 => rw [e] at q; exact fun v F' H' x S' r => q v F' H' [] B.X x (Ex.refl _) (S.lk.mono x) S' (.leaf (g ▸ r)) .nil fun a m => by cases m
  | err c fs ρ1 => rw [e] at q; exact q
  | bad => rw [e] at q; exact q
noncomputable def mWNil : MWs := fun ρ => .ok [] ρ
theorem ew_nil : EvWs G W tNil mWNil := fun B F H σ ρ Q g S q => q [] F H [] B.X (Ex.refl _) (Ex.refl _) S.lk S .nil .nil fun a m => by cases m
noncomputable def mWCons (ma : MW) (mr : MWs) : MWs := fun ρ => (ma ρ).bind fun t ρ1 => (mr ρ1).bind fun ts ρ2 => .ok (t :: ts) ρ2
theorem Errs.withX {B : Bg} {X F : Hp} {σ : L2.St} {c : Str} {fs : List (Str × D)} {ρ : Env} (L : LkOk B F) (hx : Ex B.X X) (h : Errs B W F σ c fs ρ) : Errs (B.with X) W F σ c fs ρ :=
  fun F' H' C dd vfs e S c1 c2 c3 => h F' H' C dd vfs e (S.lessX (L.mono e) hx) c1 c2 c3
theorem ew_cons {ta : TE} {tr : TA} {ma : MW} {mr : MWs} (ha : EvW G W ta ma) (hr : EvWs G W tr mr) : EvWs G W (tCons ta tr) (mWCons ma mr) := fun B F H σ ρ Q g S q => by
  refine ha B F H σ ρ _ g S ?_
  unfold mWCons at q
  cases e : ma ρ with
  | err c fs ρ1 => rw [e] at q; exact q
  | bad => rw [e] at q; exact q
  | ok t ρ1 =>
    rw [e] at q
    intro v F1 H1 A X x1 xX L S1 o1 nd1 hA1
    refine hr (B.with X) F1 H1 σ ρ1 _ g S1 ?_
    have q' : FitWs B W σ F Q ((mr ρ1).bind fun ts ρ2 => .ok (t :: ts) ρ2) := q
    cases e2 : mr ρ1 with
    | err c fs ρ2 =>
      rw [e2] at q'
      exact Errs.withX L xX (Errs.mono x1 q')
    | bad => rw [e2] at q'; exact q'
    | ok ts ρ2 =>
      rw [e2] at q'
      intro vs F2 H2 A2 X2 x2 xX2 L2' S2 o2 nd2 hA2
      have hX2 : Ex X X2 := xX2
      refine q' (v :: vs) F2 H2 (A ++ A2) X2 (x1.trans x2) (xX.trans hX2) (L.mono x2) S2 (.cons (o1.step x2 fun a _ u z => hX2 a u z) o2) ?_ fun a m => ?_
      · rw [List.nodup_append]
        refine ⟨nd1, nd2, fun a m b m' z => ?_⟩
        subst z
        obtain ⟨u, hu⟩ := o1.there a m
        have z : X a = none := (hA2 a m').1
        rw [hu] at z; cases z
      · rcases List.mem_append.mp m with m | m
        · exact hA1 a m
        · exact ⟨xX.free (hA2 a m).1, (hA2 a m).2⟩
/-- [..] -/
noncomputable def mWLst (ma : MWs) : MW := fun ρ => (ma ρ).bind fun ts ρ1 => if ts.length ≤ sizeLine then .ok (.lst ts) ρ1 else .bad
theorem Owns.length {G : Cg} {F H : Hp} : ∀ {vs : List V} {ts : List OT} {A : List Addr}, Owns G F H vs ts A → vs.length = ts.length
  | _, _, _, .nil => rfl
  | _, _, _, .cons _ r => congrArg (· + 1) (Owns.length r)
theorem Ownk.length {G : Cg} {F H : Hp} : ∀ {vs : List (Key × V)} {ts : List (Key × OT)} {A : List Addr}, Ownk G F H vs ts A → vs.length = ts.length
  | _, _, _, .nil => rfl
  | _, _, _, .cons _ r => congrArg (· + 1) (Ownk.length r)
theorem Ownf.length {G : Cg} {F H : Hp} : ∀ {vs : List (Str × V)} {ts : List (Str × OT)} {A : List Addr}, Ownf G F H vs ts A → vs.length = ts.length
  | _, _, _, .nil => rfl
  | _, _, _, .cons _ r => congrArg (· + 1) (Ownf.length r)
theorem ew_lst {ta : TA} {ma : MWs} (ha : EvWs G W ta ma) : EvW G W (tLst ta) (mWLst ma) := fun B F H σ ρ Q g S q => by
  refine ha B F H σ ρ _ g S ?_
  unfold mWLst at q
  cases e : ma ρ with
  | err c fs ρ1 => rw [e] at q; exact q
  | bad => rw [e] at q; exact q
  | ok ts ρ1 =>
    rw [e] at q
    intro vs F1 H1 A X x1 xX L S1 o1 nd1 hA1
    have q' : FitW B W σ F Q (if ts.length ≤ sizeLine then .ok (.lst ts) ρ1 else .bad) := q
    split at q'
    · rename_i hl
      refine ⟨by rw [o1.length]; exact hl, fun p hp => ?_⟩
      have xp : X p = none := S1.xfree hp
      have np : ∀ a ∈ A, a ≠ p := fun a m z => by
        obtain ⟨u, hu⟩ := o1.there a m
        rw [z, xp] at hu; cases hu
      refine q' (.ref p) F1 _ (p :: A) (upd X p (.lst vs)) x1 (xX.trans (Ex.new xp)) L (S1.also hp) (.lst upd_same (o1.step (Ex.refl F1) fun a m u hu => by rw [upd_ne (np a m)]; exact hu)) ?_ fun a m => ?_
      · rw [List.nodup_cons]
        exact ⟨fun m => np p m rfl, nd1⟩
      · rcases List.mem_cons.mp m with rfl | m
        · exact ⟨xX.free xp, S1.fresh hp⟩
        · exact hA1 a m
    · exact q'.elim
/-- the tree as data -/
noncomputable def mFz (mw : MW) : ME := fun ρ => (mw ρ).bind fun t ρ1 => .ok t.toD ρ1
/-- x = a tree -/
noncomputable def mSetW (i : Nat) (mw : MW) : MS := fun ρ => (mw ρ).then fun t ρ1 => .nx (ρ1.set i (.own t))
theorem es_setW {te : TE} {mw : MW} (i : Nat) (h : EvW G W te mw) : EvS G W (tAsg te (gName i)) (mSetW i mw) := fun B F H σ ρ D g S q => by
  refine h B F H σ ρ _ g S ?_
  unfold mSetW at q
  cases e : mw ρ with
  | err c fs ρ1 => rw [e] at q; exact q σ
  | bad => rw [e] at q; exact q
  | ok t ρ1 =>
    rw [e] at q
    intro v F1 H1 A X x1 xX L S1 o1 nd1 hA1
    exact q _ F1 H1 x1 (S1.take i L xX o1 nd1 hA1)
/-- return a tree -/
noncomputable def mRetW (mw : MW) : MS := fun ρ => (mw ρ).then fun t ρ1 => .ro t ρ1
theorem es_retW {te : TE} {mw : MW} (h : EvW G W te mw) : EvS G W (tRet te) (mRetW mw) := fun B F H σ ρ D g S q => by
  refine h B F H σ ρ _ g S ?_
  unfold mRetW at q
  cases e : mw ρ with
  | err c fs ρ1 => rw [e] at q; exact q σ
  | bad => rw [e] at q; exact q
  | ok t ρ1 =>
    rw [e] at q
    intro v F1 H1 A X x1 xX L S1 o1 nd1 hA1
    exact q v σ F1 H1 A X x1 xX L S1 o1 nd1 hA1
/-! ## places -/
noncomputable def subE (i : Nat) (p : Path) (ρ : Env) : Option OT := match ρ[i]? with
  | some s => match s.tree with
    | some t => t.sub p
    | none => none
  | none => none
theorem subE_inv {i : Nat} {p : Path} {ρ : Env} {s' : OT} (h : subE i p ρ = some s') : ∃ s t, ρ[i]? = some s ∧ s.tree = some t ∧ t.sub p = some s' := by
  unfold subE at h
  split at h
  · rename_i s hs
    split at h
    · rename_i t ht
      exact ⟨s, t, hs, ht, h⟩
    · cases h
  · cases h
noncomputable abbrev RP (i : Nat) : Rl V Path := fun σ _ H v p => ∃ r, σ[i]? = some (some r) ∧ walk H r p = some v
noncomputable abbrev MP := Env → R Path
noncomputable abbrev EvP (G : Cg) (W : Wx) (i : Nat) (t : TE) (m : MP) : Prop := Ev G W (RP i) t m
/-- what stands at a place -/
theorem Sta.read {B : Bg} {F H : Hp} {σ : L2.St} {ρ : Env} {i : Nat} {p : Path} {s' : OT} (S : Sta B F H σ ρ) (h : subE i p ρ = some s') : ∃ r v A, σ[i]? = some (some r) ∧ walk H r p = some v ∧ Own B.G F H v s' A := by
  obtain ⟨s, t, h1, h2, h3⟩ := subE_inv h
  obtain ⟨A, q⟩ := S.own
  have ok := q.ok i s h1
  obtain ⟨r, A', er, ho⟩ : ∃ r A', (σ[i]?).join = some r ∧ Own B.G F H r t A' := by
    cases s with
    | own t' => cases h2; obtain ⟨v, e, o, _⟩ := ok; exact ⟨v, _, e, o⟩
    | io t' => cases h2; obtain ⟨v, e, o, _⟩ := ok; exact ⟨v, _, e, o⟩
    | lck t' =>
      cases h2
      obtain ⟨_, v, e, m⟩ := ok
      obtain ⟨A', o⟩ := S.lk i v _ m
      exact ⟨v, A', e, o.step (Ex.refl F) fun a _ u z => (S.ext a u z).1⟩
    | emp => cases h2
    | dat => cases h2
  obtain ⟨u, L, A0, R, w1, w2, _⟩ := Own.sub p ho h3
  exact ⟨r, u, A0, join_some er, w1, w2⟩
theorem Sta.readAt {B : Bg} {F H : Hp} {σ : L2.St} {ρ : Env} {i : Nat} {p : Path} {s' : OT} {v : V} (S : Sta B F H σ ρ) (h : subE i p ρ = some s') (hv : ∃ r, σ[i]? = some (some r) ∧ walk H r p = some v) : ∃ A, Own B.G F H v s' A := by
  obtain ⟨r, u, A, h1, h2, h3⟩ := S.read h
  obtain ⟨r', h4, h5⟩ := hv
  rw [h1] at h4
  cases h4
  rw [h2] at h5
  cases h5
  exact ⟨A, h3⟩
noncomputable def mPV (i : Nat) : MP := fun ρ => match subE i [] ρ with
  | some _ => .ok [] ρ
  | none => .bad
theorem ep_var (i : Nat) : EvP G W i (tVar i) (mPV i) := fun B F H σ ρ Q g S q => by
  unfold mPV at q
  split at q
  · rename_i s h
    obtain ⟨r, v, A, h1, h2, _⟩ := S.read h
    exact ⟨r, h1, q r F H (Ex.refl F) S ⟨r, h1, rfl⟩⟩
  · exact q.elim
theorem walk_snoc {H : Hp} {e : PEl} : ∀ {p : Path} {r v u : V}, walk H r p = some v → stepH H v e = some u → walk H r (p ++ [e]) = some u
  | [], r, v, u, h, h' => by cases h; simp [walk, h']
  | x :: p, r, v, u, h, h' => by
    unfold walk at h
    rw [List.cons_append]
    unfold walk
    split at h
    · rename_i w hw
      exact walk_snoc h h'
    · cases h
noncomputable def R.mapE {α : Type} (f : Env → Env) : R α → R α
  | .ok a ρ => .ok a (f ρ)
  | .err c fs ρ => .err c fs (f ρ)
  | .bad => .bad
/-- .. while the slot i is read only -/
noncomputable def mLk {α : Type} (i : Nat) (m : Env → R α) : Env → R α := fun ρ => (m (lockE i ρ)).mapE (backE i ρ)
/-- the second part, under a lock: what it finds, what stands at a place then -/
theorem lock_snd {α β : Type} {rel : Rl β α} {t : L2.St → Hp → (β → Hp → Prop) → Prop} {m : Env → R α} {B : Bg} {F H : Hp} {σ : L2.St} {ρ : Env} {Q : β → Hp → Prop} (i : Nat) (h : Ev G W rel t m) (g : B.G = G) (S : Sta B F H σ ρ)
    (q : Fits B W (fun σ F' H' v a => rel σ F' H' v a ∧ ∀ (s : OT) (r : V) (p : Path), subE i p ρ = some s → σ[i]? = some (some r) → walk H' r p = walk H r p) σ F Q (mLk i m ρ)) : t σ H Q := by
  obtain ⟨B', hG, S', back⟩ := S.lock i
  refine h B' F H σ (lockE i ρ) Q (hG.trans g) S' ?_
  unfold mLk at q
  cases e : m (lockE i ρ) with
  | bad => rw [e] at q; exact q
  | err c fs ρ1 =>
    rw [e] at q
    intro F' H' C dd vfs x S1 c1 c2 c3
    have q' : Errs B W F σ c fs (backE i ρ ρ1) := q
    exact q' F' H' C dd vfs x (back F' H' ρ1 x S1).1 (hG ▸ c1) c2 (hG ▸ c3)
  | ok a ρ1 =>
    rw [e] at q
    intro v F' H' x S1 r
    have q' : ∀ v F' H', Ex F F' → Sta B F' H' σ (backE i ρ ρ1) → (rel σ F' H' v a ∧ ∀ (s : OT) (r : V) (p : Path), subE i p ρ = some s → σ[i]? = some (some r) → walk H' r p = walk H r p) → Q v H' := q
    obtain ⟨b1, b2⟩ := back F' H' ρ1 x S1
    refine q' v F' H' x b1 ⟨r, fun s w p hs hw => ?_⟩
    obtain ⟨s0, t0, z1, z2, z3⟩ := subE_inv hs
    exact b2 s0 t0 s w p z1 z2 z3 hw
/-- x[e] -/
noncomputable def mPIx (i : Nat) (mp : MP) (me : ME) : MP := fun ρ => (mp ρ).bind fun p ρ1 => match subE i p ρ1 with
  | some _ => (mLk i me ρ1).bind fun k ρ2 => match subE i p ρ2, k with
    | some (.lst ts), .int n => match ixN ts.length n with
      | some j => .ok (p ++ [.ix j]) ρ2
      | none => .bad
    | _, _ => .bad
  | none => .bad
theorem ixN_lt {n : Nat} {i : Int} {j : Nat} (h : ixN n i = some j) : j < n := by
  unfold ixN at h
  split at h
  · split at h
    · cases h; omega
    · cases h
  · split at h
    · cases h; omega
    · cases h
/-- the value at a place, behind a lock -/
theorem at2 {i : Nat} {p : Path} {B : Bg} {H1 F2 H2 : Hp} {σ : L2.St} {ρ1 ρ2 : Env} {s s2 : OT} {v : V} (S2 : Sta B F2 H2 σ ρ2) (r1 : ∃ r, σ[i]? = some (some r) ∧ walk H1 r p = some v) (hs : subE i p ρ1 = some s) (h2 : subE i p ρ2 = some s2)
    (same : ∀ (s : OT) (r : V) (p : Path), subE i p ρ1 = some s → σ[i]? = some (some r) → walk H2 r p = walk H1 r p) : (∃ r, σ[i]? = some (some r) ∧ walk H2 r p = some v) ∧ ∃ A, Own B.G F2 H2 v s2 A := by
  obtain ⟨r, w1, w2⟩ := r1
  have w3 : walk H2 r p = some v := by rw [same _ r p hs w1]; exact w2
  exact ⟨⟨r, w1, w3⟩, S2.readAt h2 ⟨r, w1, w3⟩⟩
theorem Own.lst_inv {F H : Hp} {v : V} {ts : List OT} {A : List Addr} (h : Own G F H v (.lst ts) A) : ∃ a vs A', v = .ref a ∧ H a = some (.lst vs) ∧ Owns G F H vs ts A' ∧ A = a :: A' := by cases h; exact ⟨_, _, _, rfl, by assumption, by assumption, rfl⟩
theorem Own.obj_inv {F H : Hp} {v : V} {c : Str} {ts : List (Str × OT)} {A : List Addr} (h : Own G F H v (.obj c ts) A) : ∃ a C dx vs A', v = .ref a ∧ H a = some (.ins C dx vs) ∧ OC G F c C vs ∧ Ownf G F H vs ts A' ∧ A = a :: A' := by cases h; exact ⟨_, _, _, _, _, rfl, by assumption, by assumption, by assumption, rfl⟩
/-- x[j], with a slot or a number for the index: no lock -/
noncomputable def mPIxV (i j : Nat) (mp : MP) : MP := fun ρ => (mp ρ).bind fun p ρ1 => match subE i p ρ1, ρ1[j]? with
  | some (.lst ts), some (.dat (.int n)) => match ixN ts.length n with
    | some k => .ok (p ++ [.ix k]) ρ1
    | none => .bad
  | _, _ => .bad
noncomputable def mPIxC (i : Nat) (n : Int) (mp : MP) : MP := fun ρ => (mp ρ).bind fun p ρ1 => match subE i p ρ1 with
  | some (.lst ts) => match ixN ts.length n with
    | some k => .ok (p ++ [.ix k]) ρ1
    | none => .bad
  | _ => .bad
theorem ep_ixC {tp : TE} {mp : MP} {i : Nat} (n : Int) (hp : EvP G W i tp mp) : EvP G W i (tOp (rIx G.K) tp (tC (.int n))) (mPIxC i n mp) := fun B F H σ ρ Q g S q =>
  hp B F H σ ρ _ g S (q.fst fun v p ρ1 F1 H1 e1 S1 r1 h1 => by
    split at h1
    · rename_i ts hs
      split at h1
      · rename_i k hk
        obtain ⟨A, o⟩ := S1.readAt hs r1
        obtain ⟨r, w1, w2⟩ := r1
        obtain ⟨a, vs, A', rfl, ha, ro, _⟩ := o.lst_inv
        have hv : k < vs.length := by rw [ro.length]; exact ixN_lt hk
        refine .inl ⟨a, vs, n, vs[k], rfl, rfl, SqL.of ha, ?_, h1 _ F1 H1 (Ex.refl F1) S1 ⟨r, w1, walk_snoc w2 ?_⟩⟩
        · unfold atI; rw [ro.length, hk, Option.bind_some]; exact List.getElem?_eq_getElem hv
        · simp only [stepH, ha]; exact List.getElem?_eq_getElem hv
      · exact h1.elim
    · exact h1.elim)
/-! reading at a place -/
noncomputable def leaves : List OT → Option (List D)
  | [] => some []
  | .leaf d :: ts => (leaves ts).map fun ds => d :: ds
  | _ => none
noncomputable def leavesK : List (Key × OT) → Option (List (Key × D))
  | [] => some []
  | (k, .leaf d) :: ts => (leavesK ts).map fun ds => (k, d) :: ds
  | _ => none
noncomputable def OT.flat : OT → Option D
  | .leaf d => some d
  | .lst ts => (leaves ts).map .lst
  | .dct ts => (leavesK ts).map .dct
  | .obj _ _ => none
theorem Owns.leaves {F H : Hp} : ∀ {vs : List V} {ts : List OT} {A : List Addr} {ds : List D}, Owns G F H vs ts A → leaves ts = some ds → Rps G F vs ds ∧ A = []
  | _, _, _, _, .nil, h => by cases h; exact ⟨.nil, rfl⟩
  | _, _, _, _, .cons (t := t) o r, h => by
    cases t with
    | leaf d =>
      simp only [Eo.leaves, Option.map_eq_some_iff] at h
      obtain ⟨ds, h, rfl⟩ := h
      cases o with
      | leaf q =>
        obtain ⟨h1, h2⟩ := Owns.leaves r h
        exact ⟨.cons q h1, by rw [h2]; rfl⟩
    | lst => cases h
    | dct => cases h
    | obj => cases h
theorem Ownk.leaves {F H : Hp} : ∀ {vs : List (Key × V)} {ts : List (Key × OT)} {A : List Addr} {ds : List (Key × D)}, Ownk G F H vs ts A → leavesK ts = some ds → Rpk G F vs ds ∧ A = []
  | _, _, _, _, .nil, h => by cases h; exact ⟨.nil, rfl⟩
  | _, _, _, _, .cons (t := t) o r, h => by
    cases t with
    | leaf d =>
      simp only [Eo.leavesK, Option.map_eq_some_iff] at h
      obtain ⟨ds, h, rfl⟩ := h
      cases o with
      | leaf q =>
        obtain ⟨h1, h2⟩ := Ownk.leaves r h
        exact ⟨.cons q h1, by rw [h2]; rfl⟩
    | lst => cases h
    | dct => cases h
    | obj => cases h
theorem Own.flat {F H : Hp} {v : V} {t : OT} {A : List Addr} {d : D} (o : Own G F H v t A) (h : t.flat = some d) : RpF G F H v d := by
  cases o with
  | leaf r => cases h; exact .inl r
  | lst ha r =>
    simp only [OT.flat, Option.map_eq_some_iff] at h
    obtain ⟨ds, h, rfl⟩ := h
    exact .inr (.inl ⟨_, _, ds, rfl, ha, (r.leaves h).1, rfl⟩)
  | dct ha r =>
    simp only [OT.flat, Option.map_eq_some_iff] at h
    obtain ⟨ds, h, rfl⟩ := h
    exact .inr (.inr ⟨_, _, ds, rfl, ha, (r.leaves h).1, rfl⟩)
  | obj => cases h
/-- a list or dict of one's own, to be read by an operation -/
noncomputable def mFlat (i : Nat) (mp : MP) : ME := fun ρ => (mp ρ).bind fun p ρ1 => match subE i p ρ1 with
  | some t => lift t.flat ρ1
  | none => .bad
/-- a leaf -/
noncomputable def mLeaf (i : Nat) (mp : MP) : ME := fun ρ => (mp ρ).bind fun p ρ1 => match subE i p ρ1 with
  | some (.leaf d) => .ok d ρ1
  | _ => .bad
theorem ev_leaf {tp : TE} {mp : MP} {i : Nat} (hp : EvP G W i tp mp) : EvE G W tp (mLeaf i mp) := fun B F H σ ρ Q g S q =>
  hp B F H σ ρ _ g S (q.fst fun v p ρ1 F1 H1 e1 S1 r1 h1 => by
    split at h1
    · rename_i d hs
      obtain ⟨A, o⟩ := S1.readAt hs r1
      cases o with
      | leaf r => exact h1 v F1 H1 (Ex.refl F1) S1 (g ▸ r)
    · exact h1.elim)
end
end Eo
namespace Eo
open PySem L2
/-! ## changes at a place -/
noncomputable def putE (i : Nat) (p : Path) (s : OT) (ρ : Env) : Env := match ρ[i]? with
  | some sl => match sl.tree with
    | some t => ρ.set i (sl.putT (t.put p s))
    | none => ρ
  | none => ρ
noncomputable def mutE (i : Nat) (ρ : Env) : Bool := match ρ[i]? with
  | some s => s.mut
  | none => false
/-- what stands at a place that may be changed, and what may stand there then -/
theorem Sta.at {B : Bg} {F H : Hp} {σ : L2.St} {ρ : Env} {i : Nat} {p : Path} {s : OT} {v : V} (S : Sta B F H σ ρ) (hs : subE i p ρ = some s) (hm : mutE i ρ = true) (hv : ∃ r, σ[i]? = some (some r) ∧ walk H r p = some v) :
    ∃ A0, Own B.G F H v s A0 ∧ A0.Nodup ∧ (∀ a ∈ A0, F a = none ∧ B.X a = none ∧ H a ≠ none) ∧
      ∀ F2 H2 s' A1 X2, Ex F F2 → Ex F2 H2 → (∀ a, H a ≠ none → F2 a = F a) → (∀ a o, a ∉ A0 → (∀ ps, o ≠ .tbl ps) → H a = some o → H2 a = some o) → (∀ a, H a ≠ none → H2 a ≠ none) → LamX.Tabs B.G.tb H2 → Own B.G F2 H2 v s' A1 → A1.Nodup → (∀ a ∈ A1, F2 a = none ∧ (a ∈ A0 ∨ H a = none)) →
        Ex B.X X2 → (∀ a o, X2 a = some o → B.X a = some o ∨ (H a = none ∧ a ∉ A1 ∧ H2 a = some o ∧ F2 a = none ∧ Nt o)) → Sta (B.with X2) F2 H2 σ (putE i p s' ρ) := by
  obtain ⟨sl, t, h1, h2, h3⟩ := subE_inv hs
  have hm' : sl.mut = true := by unfold mutE at hm; rw [h1] at hm; exact hm
  obtain ⟨r, u, A0, w1, w2, w3, w4, w5, w6⟩ := S.swap h1 h2 hm' h3
  obtain ⟨r', w7, w8⟩ := hv
  rw [w1] at w7
  cases w7
  rw [w2] at w8
  cases w8
  refine ⟨A0, w3, w4, w5, fun F2 H2 s' A1 X2 x1 x2 x3 x4 x5 x6 o nd hA eX hX => ?_⟩
  unfold putE
  rw [h1]
  simp only [h2]
  exact w6 F2 H2 s' A1 X2 x1 x2 x3 x4 x5 x6 o nd hA eX hX
/-- one thing at an address a of the tree changes -/
theorem Sta.atUpd {B : Bg} {F H : Hp} {σ : L2.St} {ρ : Env} {i : Nat} {p : Path} {s s' : OT} {a : Addr} {A A1 : List Addr} {o : HO} (S : Sta B F H σ ρ) (hs : subE i p ρ = some s) (hm : mutE i ρ = true) (hv : ∃ r, σ[i]? = some (some r) ∧ walk H r p = some (.ref a))
    (ho : ∀ A0, Own B.G F H (.ref a) s A0 → A0.Nodup → ∃ A', A0 = a :: A' ∧ ∃ A1, Own B.G F (upd H a o) (.ref a) s' A1 ∧ A1.Nodup ∧ ∀ x ∈ A1, x ∈ A0) : Sta B F (upd H a o) σ (putE i p s' ρ) := by
  obtain ⟨A0, w1, w2, w3, w4⟩ := S.at hs hm hv
  obtain ⟨A', e, A1, q1, q2, q3⟩ := ho A0 w1 w2
  have ma : a ∈ A0 := by rw [e]; exact List.mem_cons_self ..
  refine w4 F (upd H a o) s' A1 B.X (Ex.refl F) (fun b u hb => ?_) (fun _ _ => rfl) (fun b u nb _ hb => ?_) (fun b hb => ?_) (tabs_upd S.tab fun u hu => w1.nt a ma u hu) q1 q2 (fun x m => ⟨(w3 x (q3 x m)).1, .inl (q3 x m)⟩) (Ex.refl _) fun a o z => .inl z
  · rw [upd_ne (ne_of_none hb (w3 a ma).1)]; exact S.sub b u hb
  · have n : b ≠ a := fun z => nb (by rw [z]; exact ma)
    rw [upd_ne n]; exact hb
  · by_cases n : b = a
    · rw [n, upd_same]; exact fun z => nomatch z
    · rw [upd_ne n]; exact hb
section
variable {G : Cg} {W : Wx} {F H : Hp}
theorem Owns.snoc : ∀ {vs : List V} {ts : List OT} {A A' : List Addr} {v : V} {t : OT}, Owns G F H vs ts A → Own G F H v t A' → Owns G F H (vs ++ [v]) (ts ++ [t]) (A ++ A')
  | _, _, _, _, _, _, .nil, o => by
    have z : Owns G F H [_] [_] (_ ++ []) := .cons o .nil
    rw [List.append_nil] at z; exact z
  | _, _, _, _, _, _, .cons a r, o => by rw [List.append_assoc]; exact .cons a (Owns.snoc r o)
theorem Owns.setLeaf {v : V} {d : D} (h : Rp G F v d) : ∀ {vs : List V} {ts : List OT} {A : List Addr} (j : Nat), Owns G F H vs ts A → ∃ A', Owns G F H (vs.set j v) (ts.set j (.leaf d)) A' ∧ A'.Sublist A
  | _, _, _, _, .nil => ⟨[], .nil, .slnil⟩
  | _, _, _, 0, .cons (A := A) (A' := A') _ r => ⟨[] ++ A', .cons (.leaf h) r, by rw [List.nil_append]; exact List.sublist_append_right _ _⟩
  | _, _, _, j + 1, .cons (A := A) o r => by
    obtain ⟨A', q1, q2⟩ := Owns.setLeaf h j r
    exact ⟨A ++ A', .cons o q1, List.Sublist.append_left q2 A⟩
noncomputable def putKT (ts : List (Key × OT)) (k : Key) (t : OT) : List (Key × OT) :=
  if (ts.any fun kv => decide (kv.1 = k)) = true then ts.map (fun kv => if kv.1 = k then (kv.1, t) else kv) else ts ++ [(k, t)]
theorem Ownk.any {k : Key} : ∀ {vs : List (Key × V)} {ts : List (Key × OT)} {A : List Addr}, Ownk G F H vs ts A → (vs.any fun kv => decide (kv.1 = k)) = ts.any fun kv => decide (kv.1 = k)
  | _, _, _, .nil => rfl
  | _, _, _, .cons _ t => by rw [List.any_cons, List.any_cons, Ownk.any t]
theorem Ownk.setLeaf {v : V} {d : D} {k : Key} (h : Rp G F v d) : ∀ {vs : List (Key × V)} {ts : List (Key × OT)} {A : List Addr}, Ownk G F H vs ts A → ∃ A', Ownk G F H (vs.map fun kv => if kv.1 = k then (kv.1, v) else kv) (ts.map fun kv => if kv.1 = k then (kv.1, .leaf d) else kv) A' ∧ A'.Sublist A
  | _, _, _, .nil => ⟨[], .nil, .slnil⟩
  | _, _, _, .cons (k := j) (A := A) (A' := A') o r => by
    obtain ⟨A2, q1, q2⟩ := Ownk.setLeaf h r
    rw [List.map_cons, List.map_cons]
    by_cases e : j = k
    · simp only [e, if_true]
      exact ⟨[] ++ A2, .cons (.leaf h) q1, by rw [List.nil_append]; exact q2.trans (List.sublist_append_right _ _)⟩
    · simp only [e, if_false]
      exact ⟨A ++ A2, .cons o q1, List.Sublist.append_left q2 A⟩
theorem Ownk.snoc {v : V} {t : OT} {k : Key} {A' : List Addr} (h : Own G F H v t A') : ∀ {vs : List (Key × V)} {ts : List (Key × OT)} {A : List Addr}, Ownk G F H vs ts A → Ownk G F H (vs ++ [(k, v)]) (ts ++ [(k, t)]) (A ++ A')
  | _, _, _, .nil => by
    have z : Ownk G F H [(k, v)] [(k, t)] (A' ++ []) := .cons h .nil
    rw [List.append_nil] at z; exact z
  | _, _, _, .cons a r => by rw [List.append_assoc]; exact .cons a (Ownk.snoc h r)
/-- a field is set, the others stay where they are -/
noncomputable def putFT (f : Str) (t : OT) : List (Str × OT) → List (Str × OT)
  | [] => [(f, t)]
  | (g, x) :: r => if g = f then (g, t) :: r else (g, x) :: putFT f t r
theorem nodup_cons' {a : Addr} {A A' : List Addr} (h : (a :: A).Nodup) (s : A'.Sublist A) : (a :: A').Nodup ∧ (∀ x ∈ a :: A', x ∈ a :: A) ∧ ∀ x ∈ A', x ≠ a := by
  rw [List.nodup_cons] at h ⊢
  refine ⟨⟨fun m => h.1 (s.subset m), h.2.sublist s⟩, fun x m => ?_, fun x m z => h.1 (by rw [← z]; exact s.subset m)⟩
  rcases List.mem_cons.mp m with rfl | m
  · exact List.mem_cons_self ..
  · exact List.mem_cons_of_mem _ (s.subset m)
/-- a list at a place becomes another one -/
theorem Sta.lstAt {B : Bg} {σ : L2.St} {ρ : Env} {i : Nat} {p : Path} {ts : List OT} {v : V} (S : Sta B F H σ ρ) (hs : subE i p ρ = some (.lst ts)) (hm : mutE i ρ = true) (hv : ∃ r, σ[i]? = some (some r) ∧ walk H r p = some v) :
    ∃ a vs, v = .ref a ∧ H a = some (.lst vs) ∧ vs.length = ts.length ∧ (∀ (j : Nat) (t : OT), ts[j]? = some t → ∃ w A, vs[j]? = some w ∧ Own B.G F H w t A) ∧
      ∀ vs' ts', (∀ A, Owns B.G F H vs ts A → ∃ A', Owns B.G F H vs' ts' A' ∧ A'.Sublist A) → Sta B F (upd H a (.lst vs')) σ (putE i p (.lst ts') ρ) := by
  obtain ⟨A0, w1, _⟩ := S.at hs hm hv
  obtain ⟨a, vs, A', rfl, ha, ro, _⟩ := w1.lst_inv
  refine ⟨a, vs, rfl, ha, ro.length, fun j t hj => ?_, fun vs' ts' f => S.atUpd (A := []) (A1 := []) hs hm hv fun A0 o nd => ?_⟩
  · obtain ⟨w, L, A2, R, h1, h2, _⟩ := ro.kid hj
    exact ⟨w, A2, h1, h2⟩
  · obtain ⟨a', vs2, A2, e, ha2, ro2, rfl⟩ := o.lst_inv
    cases e
    rw [ha] at ha2
    cases ha2
    obtain ⟨A3, q1, q2⟩ := f A2 ro2
    obtain ⟨n1, n2, n3⟩ := nodup_cons' nd q2
    exact ⟨A2, rfl, a :: A3, .lst upd_same (q1.step (Ex.refl F) fun x m u hu => by rw [upd_ne (n3 x m)]; exact hu), n1, n2⟩
/-- x.append(e) -/
noncomputable def mAppP (i : Nat) (mp : MP) (me : ME) : MS := fun ρ => (mp ρ).then fun p ρ1 => match subE i p ρ1 with
  | some (.lst _) => (mLk i me ρ1).then fun d ρ2 => match subE i p ρ2 with
    | some (.lst ts) => if mutE i ρ2 = true ∧ ts.length < sizeLine then .nx (putE i p (.lst (ts ++ [.leaf d])) ρ2) else .bad
    | _ => .bad
  | _ => .bad
theorem es_appP {tp te : TE} {mp : MP} {me : ME} {i : Nat} (hp : EvP G W i tp mp) (he : EvE G W te me) : EvS G W (tDrop (tBM G.K "list" rAppend tp (tCons te tNil))) (mAppP i mp me) := fun B F H σ ρ D g S q =>
  hp B F H σ ρ _ g S (FitS.fst q fun v p ρ1 F1 H1 e1 S1 r1 h1 => by
    split at h1
    · rename_i ts0 hs
      obtain ⟨A, o⟩ := S1.readAt hs r1
      obtain ⟨a, vs, A', rfl, ha, ro, _⟩ := o.lst_inv
      refine ⟨Or.inl ⟨rfl, _, SqL.of ha⟩, lock_snd (t := te) i he g S1 (FitS.fst h1 fun u d ρ2 F2 H2 e2 S2 r2 h2 => ?_)⟩
      split at h2
      · rename_i ts hs2
        split at h2
        · rename_i hc
          obtain ⟨hv, _⟩ := at2 S2 r1 hs hs2 r2.2
          obtain ⟨a', ws, e, ha', hl, _, f⟩ := S2.lstAt hs2 hc.1 hv
          cases e
          refine ⟨a, ws, u, rfl, rfl, ha', by rw [hl]; exact hc.2, h2 σ F2 _ (Ex.refl F2) (f _ _ fun A o => ⟨A, ?_, List.Sublist.refl _⟩)⟩
          have z := o.snoc (.leaf (g ▸ r2.1))
          rw [List.append_nil] at z
          exact z
        · exact h2.elim
      · exact h2.elim
    · exact h1.elim)
/-- x[k] = e -/
noncomputable def mPutP (i : Nat) (mp : MP) (mi me : ME) : MS := fun ρ => (me ρ).then fun d ρ1 => (mp ρ1).then fun p ρ2 => match subE i p ρ2 with
  | some (.lst _) => (mLk i mi ρ2).then fun k ρ3 => match subE i p ρ3, k with
    | some (.lst ts), .int n => match ixN ts.length n with
      | some j => if mutE i ρ3 = true then .nx (putE i p (.lst (ts.set j (.leaf d))) ρ3) else .bad
      | none => .bad
    | _, _ => .bad
  | _ => .bad
theorem es_putP {tp te ti : TE} {mp : MP} {me mi : ME} {i : Nat} (hp : EvP G W i tp mp) (he : EvE G W te me) (hi : EvE G W ti mi) : EvS G W (tAsg te (gSub tp ti rSetL)) (mPutP i mp mi me) := fun B F H σ ρ D g S q =>
  he B F H σ ρ _ g S (FitS.fst q fun u d ρ1 F1 H1 e1 S1 r1 h1 => hp B F1 H1 σ ρ1 _ g S1 (FitS.fst h1 fun v p ρ2 F2 H2 e2 S2 r2 h2 => by
    split at h2
    · rename_i ts0 hs
      refine lock_snd i hi g S2 (FitS.fst h2 fun w k ρ3 F3 H3 e3 S3 r3 h3 => ?_)
      split at h3
      · rename_i ts n hs3
        split at h3
        · rename_i j hj
          split at h3
          · rename_i hm
            obtain ⟨hv, _⟩ := at2 S3 r2 hs hs3 r3.2
            obtain ⟨a, ws, rfl, ha, hl, _, f⟩ := S3.lstAt hs3 hm hv
            exact ⟨a, ws, n, j, rfl, r3.1.int_inv, ha, by rw [hl]; exact hj, h3 σ F3 _ (Ex.refl F3) (f _ _ fun A o => o.setLeaf (g ▸ ((r1.mono e2).mono e3)) j)⟩
          · exact h3.elim
        · exact h3.elim
      · exact h3.elim
    · exact h2.elim))
noncomputable def keyD : D → Option Key
  | .int i => some (.inl i)
  | .str x => some (.inr x)
  | _ => none
theorem Rp.key {v : V} {d : D} {k : Key} (h : Rp G F v d) (hk : keyD d = some k) : v = kV k := by
  cases h <;> cases hk <;> rfl
/-- x[k] = e, a dict -/
noncomputable def mDPutP (i : Nat) (mp : MP) (mk me : ME) : MS := fun ρ => (me ρ).then fun d ρ1 => (mp ρ1).then fun p ρ2 => match subE i p ρ2 with
  | some (.dct _) => (mLk i mk ρ2).then fun b ρ3 => match subE i p ρ3, keyD b with
    | some (.dct ts), some k => if mutE i ρ3 = true ∧ ts.length < sizeLine then .nx (putE i p (.dct (putKT ts k (.leaf d))) ρ3) else .bad
    | _, _ => .bad
  | _ => .bad
/-- x.pop(k), the item a leaf -/
noncomputable def mPopP (i : Nat) (mp : MP) (me : ME) : ME := fun ρ => (mp ρ).bind fun p ρ1 => match subE i p ρ1 with
  | some (.lst _) => (mLk i me ρ1).bind fun d ρ2 => match subE i p ρ2, d with
    | some (.lst ts), .int n => if mutE i ρ2 = true ∧ -(2 ^ 63) ≤ n ∧ n < 2 ^ 63 then (match seqIndex? n ts.length with
      | some k => match ts[k]? with
        | some (.leaf y) => .ok y (putE i p (.lst (ts.eraseIdx k)) ρ2)
        | _ => .bad
      | none => .bad) else .bad
    | _, _ => .bad
  | _ => .bad
theorem OC.put {F : Hp} {c f : Str} {C : Addr} {fs : List (Str × V)} {v : V} (h : OC G F c C fs) (np : G.pl c f = true → PlT G.K F v) : OC G F c C (putF f v fs) := ⟨h.1, fun g w p e => by
  rw [← lookup_getK, lookup_putF] at e
  split at e
  · rename_i z; subst z; cases e; exact np p
  · rw [lookup_getK] at e; exact h.2 g w p e⟩
/-- x.f = e -/
noncomputable def mSetFP (i : Nat) (c f : Str) (mp : MP) (me : ME) : MS := fun ρ => (me ρ).then fun d ρ1 => (mp ρ1).then fun p ρ2 => match subE i p ρ2 with
  | some (.obj c' ts) => if c' = c ∧ mutE i ρ2 = true ∧ ts.length < 1000 then .nx (putE i p (.obj c' (putFT f (.leaf d) ts)) ρ2) else .bad
  | _ => .bad
end
end Eo
namespace Eo
open PySem L2 PySem.Spec PyProof.Rows
/-! ## defs: a promise that holds where no repr is under way -/
structure FnG (P : Program) (w : World) (K : PySem.W.Frag) (mg : Str → Option Value) (base : Heap) (CX : CXT) (k : Nat) (f : Addr) (fd : FuncData) (ps : List Str) (sp : Sp) : Prop where
  len : ∀ vs H Q E, sp vs H Q E → vs.length = ps.length
  run : ∀ (A : Around) (outer : List PySem.Env) (s : Shared) (H : Hp) (args : Args) (us : List Value) (vs : List V) (Q : VK) (E : XK), A.guards = some [] → Room k A → Env0 P w K mg base A outer s H →
    BindsTo s fd args (ps.zip us) → Vals vs us → sp vs H Q E → codeAny (model P w) A (.call (.ref f) args) (CR CX outer P w H s Q E) s
section
variable {P : Program} {w : World} {K : PySem.W.Frag} {mg : Str → Option Value} {base : Heap} {CX : CXT}
theorem FnG.up {j k : Nat} {f : Addr} {fd : FuncData} {ps : List Str} {sp : Sp} (F : FnG P w K mg base CX j f fd ps sp) (h : j ≤ k) : FnG P w K mg base CX k f fd ps sp :=
  ⟨F.len, fun A outer s H args us vs Q E hg hr => F.run A outer s H args us vs Q E hg (hr.mono h)⟩
/-- the context of a body -/
noncomputable abbrev bodyX (CX : CXT) (P : Program) (w : World) (K : PySem.W.Frag) (mg : Str → Option Value) (base : Heap) (N : List Str) (qual : Str) (st : Stmt) (f : Addr) (cdv : Value) (A : Around) (outer : List PySem.Env) (s : Shared) (H : Hp) (E : XK) : Cx :=
  cxOf CX P w K mg base N qual (defScope st) f cdv A outer s H E
theorem fnG_of {x qual : Str} {st : Stmt} {f : Addr} {fd : FuncData} {N ps : List Str} {k : Nat} {sp : Sp} (F : Fun K x qual st f fd) (S : FnScope N ps (defScope st)) (len : ∀ vs H Q E, sp vs H Q E → vs.length = ps.length)
    (hb : ∀ (cdv : Value) (A : Around) (outer : List PySem.Env) (s : Shared) (H : Hp) (vs : List V) (Q : VK) (E : XK), A.guards = some [] → Room k (A.deeper (envOfC qual (defScope st) s.heap.objs.size f cdv)) → sp vs H Q E →
      ∃ t, PSs (bodyX CX P w K mg base N qual st f cdv A outer s H E) (defBody st) t ∧ t { nx := fun _ H' => Q .non H', rt := Q } (L2.start N vs) H) : FnG P w K mg base CX (k + 1) f fd ps sp := by
  obtain ⟨oc, od, kV, doc, pm, an, cdv, ct, osl, rfl, lk, cd⟩ := F.ex
  constructor
  · exact len
  intro A outer s H args us vs Q E gd room e0 bd rel want
  have inK : K.In s.heap := e0.mod.kin.keeps (fun b o q => And.left (e0.bs b o q))
  have free : s.heap.NoLimit := e0.mod.nolimit.keeps (fun b o q => And.left (e0.bs b o q))
  have kinds : ∀ y ∈ ps.zip us, (defScope st).names.lookup y.1 = some .local ∨
      ((defScope st).names.lookup y.1 = some .cell ∧ ((cellsFrom (s.heap.objs.size + 1) (defScope st).names []).lookup y.1).isSome = true) := by
    intro y hy
    have z := S.par y.1 (List.of_mem_zip (a := y.1) (b := y.2) hy).1
    exact z.imp id fun q => ⟨q, PySem.W.cellsFrom_some _ _ _ (.inl q)⟩
  obtain ⟨t, dt, rd⟩ := hb cdv A outer s H vs Q E gd (room.deeper _) want
  refine codeAny_call_function room.depth (inK _ _ lk) rfl S.co S.gen rfl (PySem.W.codeRec_of inK cd) (bd _ _ _ _ (wpAny_newFunctionEnv_cells S.kind kinds ?_))
  rintro env rfl s1 x
  refine ⟨free.keeps x.toInCall.keep, codeAny_func ?_⟩
  have I : Inv (bodyX CX P w K mg base N qual st f cdv A outer s H E) [] (L2.start N vs) H s1 := inv_start S room.hd e0 (len _ _ _ _ want) rel x
  refine wpAny_mono (dt.run [] s1 _ H _ I rd) ?_ (fun e s' q => q)
  intro fl s' hs
  match fl, hs with
  | .ret u, ⟨v, _, H', J, rv, q⟩ => exact ⟨v, H', J.os, J.bare, J.base, J.hok, rv, q⟩
  | .next, ⟨_, H', J, q⟩ => exact ⟨V.non, H', J.os, J.bare, J.base, J.hok, rfl, q⟩
  | .brk, ⟨_, _, _, q⟩ => exact q.elim
  | .cont, ⟨_, _, _, q⟩ => exact q.elim
end
section
variable {X : Cx} {CX : CXT} {k : Nat} {f C : Addr} {fd : FuncData} {ps : List Str} {sp : Sp} {dvs : List V} {ds : List Value} {E : XK} {x m : Str} {p pos apos : Pos} {e o : Expr} {es : List Expr} {ta : TE} {t : TA}
end
/-! ## promises on data -/
/-- what is handed back: data, or a new tree -/
noncomputable def RetOk (G : Cg) (H F' H' : Hp) (A1 : List Addr) (v : V) : AV → Prop
  | .dat d => Rp G F' v d
  | .own t => ∃ A, Own G F' H' v t A ∧ A.Nodup ∧ ∀ a ∈ A, F' a = none ∧ H a = none ∧ a ∉ A1
/-- a def that only reads: its value by its arguments -/
noncomputable def SpP (G : Cg) (f : List D → Option AV) : Sp := fun vs H Q _ => ∃ F ds r, Ex F H ∧ LamX.Tabs G.tb H ∧ Rps G F vs ds ∧ f ds = some r ∧
  ∀ v F' H', Ex F F' → Ex F' H' → (∀ a, H a ≠ none → F' a = F a) → Gw G.tb H H' → RetOk G H F' H' [] v r → Q v H'
/-- a def that changes the tree that is its first argument -/
noncomputable def SpI (G : Cg) (f : OT → List D → Option (AV × OT)) : Sp := fun vs H Q _ => ∃ F v0 A0 t ws ds r t', vs = v0 :: ws ∧ Ex F H ∧ LamX.Tabs G.tb H ∧ Own G F H v0 t A0 ∧ A0.Nodup ∧ (∀ a ∈ A0, F a = none) ∧ Rps G F ws ds ∧ f t ds = some (r, t') ∧
  ∀ v F' H' A1, Ex F F' → Ex F' H' → (∀ b, H b ≠ none → F' b = F b) → (∀ b o, b ∉ A0 → (∀ ps, o ≠ .tbl ps) → H b = some o → H' b = some o) → (∀ b, H b ≠ none → H' b ≠ none) → LamX.Tabs G.tb H' → Own G F' H' v0 t' A1 → A1.Nodup → (∀ a ∈ A1, F' a = none ∧ (a ∈ A0 ∨ H a = none)) → RetOk G H F' H' A1 v r → Q v H'
noncomputable def entry (N : List Str) (ds : List D) : Env := ds.map .dat ++ List.replicate (N.length - ds.length) .emp
noncomputable def entryI (N : List Str) (t : OT) (ds : List D) : Env := .io t :: (ds.map .dat ++ List.replicate (N.length - 1 - ds.length) .emp)
noncomputable def O.val : O → Option AV
  | .rt d _ => some (.dat d)
  | .ro t _ => some (.own t)
  | .nx _ => some (.dat .non)
  | _ => none
noncomputable def io0 (ρ : Eo.Env) : Option OT := match (ρ[0]? : Option Sl) with
  | some (Sl.io t) => some t
  | _ => none
noncomputable def O.valI : O → Option (AV × OT)
  | .rt d ρ => (io0 ρ).map fun t => (.dat d, t)
  | .ro t' ρ => (io0 ρ).map fun t => (.own t', t)
  | .nx ρ => (io0 ρ).map fun t => (.dat .non, t)
  | _ => none
theorem get_dats {G : Cg} {F : Hp} {vs : List V} {ds : List D} {i n m : Nat} {s : Sl} (r : Rps G F vs ds) (h : (ds.map Sl.dat ++ List.replicate n Sl.emp)[i]? = some s) : s = .emp ∨ ∃ d v, s = .dat d ∧ vs[i]? = some v ∧ Rp G F v d ∧ (vs.map some ++ List.replicate m none)[i]? = some (some v) := by
  by_cases hi : i < ds.length
  · rw [List.getElem?_append_left (by simpa using hi), List.getElem?_map, Option.map_eq_some_iff] at h
    obtain ⟨d, hd, rfl⟩ := h
    obtain ⟨v, h1, h2⟩ := r.get hd
    refine .inr ⟨d, v, rfl, h1, h2, ?_⟩
    rw [List.getElem?_append_left (by rw [List.length_map, r.length]; exact hi), List.getElem?_map, h1]
    rfl
  · rw [List.getElem?_append_right (by simpa using hi), List.getElem?_replicate] at h
    split at h
    · cases h; exact .inl rfl
    · cases h
theorem Sta.entry {G : Cg} {F H : Hp} {N : List Str} {vs : List V} {ds : List D} (e : Ex F H) (tb : LamX.Tabs G.tb H) (r : Rps G F vs ds) : Sta ⟨G, F, H, fun _ => none, [], [], []⟩ F H (L2.start N vs) (entry N ds) where
  sub := e
  old := fun _ _ => rfl
  keep := fun a o _ _ h => h
  tab := tb
  xnt := fun a o h => by cases h
  pin := fun a m => m
  ext := fun a o h => by cases h
  lk := fun i v t m => by cases m
  len := by unfold L2.start Eo.entry; rw [List.length_append, List.length_append, List.length_map, List.length_map, r.length, List.length_replicate, List.length_replicate]
  own := by
    refine ⟨fun _ => [], fun i s h => ?_, fun _ => .nil, (fun i j a _ m => by cases m), (fun i a m => by cases m)⟩
    rcases get_dats (m := N.length - vs.length) r h with rfl | ⟨d, v, rfl, h1, h2, h3⟩
    · rfl
    · exact ⟨rfl, v, by unfold L2.start; rw [h3]; rfl, h2⟩
theorem Sta.entryI {G : Cg} {F H : Hp} {N : List Str} {v0 : V} {t : OT} {A0 : List Addr} {vs : List V} {ds : List D} (e : Ex F H) (tb : LamX.Tabs G.tb H) (o : Own G F H v0 t A0) (nd : A0.Nodup) (hF : ∀ a ∈ A0, F a = none) (r : Rps G F vs ds) (hN : 1 ≤ N.length) :
    Sta ⟨G, F, H, fun _ => none, [(0, v0)], A0, []⟩ F H (L2.start N (v0 :: vs)) (entryI N t ds) where
  sub := e
  old := fun _ _ => rfl
  keep := fun a o _ _ h => h
  tab := tb
  xnt := fun a o h => by cases h
  pin := fun a m => m
  ext := fun a o h => by cases h
  lk := fun i v t m => by cases m
  len := by
    unfold L2.start Eo.entryI
    simp only [List.map_cons, List.length_append, List.length_cons, List.length_map, List.length_replicate, r.length, List.cons_append]
    omega
  own := by
    refine ⟨fun i => if i = 0 then A0 else [], fun i s h => ?_, fun i => ?_, fun i j a n hi hj => ?_, fun i a m => ?_⟩
    · cases i with
      | zero =>
        unfold Eo.entryI at h
        simp only [List.getElem?_cons_zero, Option.some.injEq] at h
        subst h
        exact ⟨v0, rfl, o, List.mem_singleton.mpr rfl⟩
      | succ i =>
        unfold Eo.entryI at h
        unfold L2.start
        simp only [List.getElem?_cons_succ, List.map_cons, List.cons_append] at h ⊢
        rcases get_dats (m := N.length - (vs.length + 1)) r h with rfl | ⟨d, v, rfl, h1, h2, h3⟩
        · rfl
        · exact ⟨rfl, v, by rw [List.length_cons, h3]; rfl, h2⟩
    · split
      · exact nd
      · exact .nil
    · split at hi
      · split at hj
        · rename_i z1 z2; exact absurd (z1.trans z2.symm) n
        · cases hj
      · cases hi
    · split at m
      · obtain ⟨u, hu⟩ := o.there a m
        exact ⟨hF a m, rfl, (by rw [hu]; exact fun z => nomatch z), .inr m⟩
      · cases m
/-- the end of a body that only reads -/
theorem endP {G : Cg} {N : List Str} {m : MS} {t : TS} {vs : List V} {ds : List D} {r : AV} {H F0 : Hp} {Q : VK} (ev : EvS G Wn t m) (e0 : Ex F0 H) (tb : LamX.Tabs G.tb H) (rr : Rps G F0 vs ds) (z : (m (entry N ds)).val = some r)
    (q : ∀ v F' H', Ex F0 F' → Ex F' H' → (∀ a, H a ≠ none → F' a = F0 a) → Gw G.tb H H' → RetOk G H F' H' [] v r → Q v H') : t { nx := fun _ H' => Q .non H', rt := Q } (L2.start N vs) H := by
  refine ev ⟨G, F0, H, fun _ => none, [], [], []⟩ F0 H (L2.start N vs) (entry N ds) _ rfl (Sta.entry e0 tb rr) ?_
  cases eo : m (entry N ds) with
  | nx ρ =>
    rw [eo] at z
    cases z
    exact fun σ' F' H' x1 S' => q .non F' H' x1 S'.sub S'.old ⟨fun a o n h => S'.keep a o (by simp) n h, S'.pin, S'.tab⟩ .non
  | rt d' ρ =>
    rw [eo] at z
    cases z
    exact fun v σ' F' H' x1 S' rv => q v F' H' x1 S'.sub S'.old ⟨fun a o n h => S'.keep a o (by simp) n h, S'.pin, S'.tab⟩ rv
  | ro t' ρ =>
    rw [eo] at z
    cases z
    exact fun v σ' F' H' A X x1 xX L S' o nd hA => q v F' H' x1 S'.sub S'.old ⟨fun a o n h => S'.keep a o List.not_mem_nil n h, S'.pin, S'.tab⟩ ⟨A, o.step (Ex.refl F') (fun a _ u hu => (S'.ext a u hu).1), nd, fun a m => ⟨(by
      obtain ⟨u, hu⟩ := o.there a m
      exact (S'.ext a u hu).2), (hA a m).2, by simp⟩⟩
  | bk => rw [eo] at z; cases z
  | ct => rw [eo] at z; cases z
  | err => rw [eo] at z; cases z
  | bad => rw [eo] at z; cases z
theorem Sta.io0 {B : Bg} {F H : Hp} {σ : L2.St} {ρ : Env} {v0 : V} {t : OT} (S : Sta B F H σ ρ) (hp : B.par = [(0, v0)]) (h : io0 ρ = some t) : ∃ A1, Own B.G F H v0 t A1 ∧ A1.Nodup ∧ ∀ a ∈ A1, F a = none ∧ B.X a = none ∧ (a ∈ B.lent ∨ B.H0 a = none) := by
  unfold Eo.io0 at h
  split at h
  · rename_i t' e
    cases h
    obtain ⟨A, q⟩ := S.own
    obtain ⟨v, _, o, m⟩ := q.ok 0 _ e
    rw [hp, List.mem_singleton] at m
    cases m
    exact ⟨A 0, o, q.nd 0, fun a m => ⟨(q.free 0 a m).1, (q.free 0 a m).2.1, (q.free 0 a m).2.2.2.symm⟩⟩
  · cases h
theorem endI {G : Cg} {N : List Str} {m : MS} {t : TS} {ws : List V} {ds : List D} {t0 t1 : OT} {r : AV} {H F0 : Hp} {v0 : V} {A0 : List Addr} {Q : VK} (hN : 1 ≤ N.length) (ev : EvS G Wn t m) (e0 : Ex F0 H) (tb : LamX.Tabs G.tb H) (o : Own G F0 H v0 t0 A0) (nd : A0.Nodup) (hF : ∀ a ∈ A0, F0 a = none) (rr : Rps G F0 ws ds)
    (z : (m (entryI N t0 ds)).valI = some (r, t1))
    (q : ∀ v F' H' A1, Ex F0 F' → Ex F' H' → (∀ b, H b ≠ none → F' b = F0 b) → (∀ b o, b ∉ A0 → (∀ ps, o ≠ .tbl ps) → H b = some o → H' b = some o) → (∀ b, H b ≠ none → H' b ≠ none) → LamX.Tabs G.tb H' → Own G F' H' v0 t1 A1 → A1.Nodup → (∀ a ∈ A1, F' a = none ∧ (a ∈ A0 ∨ H a = none)) → RetOk G H F' H' A1 v r → Q v H') :
    t { nx := fun _ H' => Q .non H', rt := Q } (L2.start N (v0 :: ws)) H := by
  refine ev ⟨G, F0, H, fun _ => none, [(0, v0)], A0, []⟩ F0 H (L2.start N (v0 :: ws)) (entryI N t0 ds) _ rfl (Sta.entryI e0 tb o nd hF rr hN) ?_
  cases eo : m (entryI N t0 ds) with
  | nx ρ =>
    rw [eo] at z
    simp only [O.valI, Option.map_eq_some_iff] at z
    obtain ⟨t2, z1, z2⟩ := z
    cases z2
    intro σ' F' H' x1 S'
    obtain ⟨A1, h1, h2, h3⟩ := S'.io0 rfl z1
    exact q .non F' H' A1 x1 S'.sub S'.old S'.keep S'.pin S'.tab h1 h2 (fun a m => ⟨(h3 a m).1, (h3 a m).2.2⟩) .non
  | rt d' ρ =>
    rw [eo] at z
    simp only [O.valI, Option.map_eq_some_iff] at z
    obtain ⟨t2, z1, z2⟩ := z
    cases z2
    intro v σ' F' H' x1 S' rv
    obtain ⟨A1, h1, h2, h3⟩ := S'.io0 rfl z1
    exact q v F' H' A1 x1 S'.sub S'.old S'.keep S'.pin S'.tab h1 h2 (fun a m => ⟨(h3 a m).1, (h3 a m).2.2⟩) rv
  | ro t' ρ =>
    rw [eo] at z
    simp only [O.valI, Option.map_eq_some_iff] at z
    obtain ⟨t2, z1, z2⟩ := z
    cases z2
    intro v σ' F' H' A X x1 xX L S' oo nd' hA
    obtain ⟨A1, h1, h2, h3⟩ := S'.io0 rfl z1
    refine q v F' H' A1 x1 S'.sub S'.old S'.keep S'.pin S'.tab h1 h2 (fun a m => ⟨(h3 a m).1, (h3 a m).2.2⟩) ⟨A, oo.step (Ex.refl F') (fun a _ u hu => (S'.ext a u hu).1), nd', fun a m => ?_⟩
    obtain ⟨u, hu⟩ := oo.there a m
    refine ⟨(S'.ext a u hu).2, (hA a m).2, fun m' => ?_⟩
    have z : X a = none := (h3 a m').2.1
    rw [hu] at z; cases z
  | bk => rw [eo] at z; cases z
  | ct => rw [eo] at z; cases z
  | err => rw [eo] at z; cases z
  | bad => rw [eo] at z; cases z
/-! functions of mirrors -/
noncomputable def fnP (N : List Str) (n : Nat) (m : MS) : List D → Option AV := fun ds => if ds.length = n then (m (entry N ds)).val else none
noncomputable def fnI (N : List Str) (n : Nat) (m : MS) : OT → List D → Option (AV × OT) := fun t ds => if ds.length + 1 = n then (m (entryI N t ds)).valI else none
theorem fnP_inv {N : List Str} {n : Nat} {m : MS} {ds : List D} {r : AV} (h : fnP N n m ds = some r) : ds.length = n ∧ (m (entry N ds)).val = some r := by
  unfold fnP at h
  split at h
  · exact ⟨by assumption, h⟩
  · cases h
theorem fnI_inv {N : List Str} {n : Nat} {m : MS} {t : OT} {ds : List D} {r : AV × OT} (h : fnI N n m t ds = some r) : ds.length + 1 = n ∧ (m (entryI N t ds)).valI = some r := by
  unfold fnI at h
  split at h
  · exact ⟨by assumption, h⟩
  · cases h
section
variable {P : Program} {w : World} {K : PySem.W.Frag} {mg : Str → Option Value} {base : Heap} {CX : CXT}
theorem fnO_of {x qual : Str} {st : Stmt} {f : Addr} {fd : FuncData} {N ps : List Str} {k : Nat} {sp : Sp} (F : Fun K x qual st f fd) (S : FnScope N ps (defScope st)) (len : ∀ vs H Q E, sp vs H Q E → vs.length = ps.length)
    (hb : ∀ (cdv : Value) (A : Around) (outer : List PySem.Env) (s : Shared) (H : Hp) (vs : List V) (Q : VK) (E : XK), Room k (A.deeper (envOfC qual (defScope st) s.heap.objs.size f cdv)) → sp vs H Q E →
      ∃ t, PSs (bodyX CX P w K mg base N qual st f cdv A outer s H E) (defBody st) t ∧ t { nx := fun _ H' => Q .non H', rt := Q } (L2.start N vs) H) : FnOk P w K mg base CX (k + 1) f fd ps sp := by
  obtain ⟨oc, od, kV, doc, pm, an, cdv, ct, osl, rfl, lk, cd⟩ := F.ex
  exact fn_of lk cd S len (hb cdv)
theorem spP_len {G : Cg} {N ps : List Str} {m : MS} : ∀ vs H Q E, SpP G (fnP N ps.length m) vs H Q E → vs.length = ps.length := fun vs H Q E h => by
  obtain ⟨F0, ds, d, _, _, r, e, _⟩ := h
  rw [r.length]; exact (fnP_inv e).1
theorem spI_len {G : Cg} {N ps : List Str} {m : MS} : ∀ vs H Q E, SpI G (fnI N ps.length m) vs H Q E → vs.length = ps.length := fun vs H Q E h => by
  obtain ⟨F0, v0, A0, t, ws, ds, r, t', rfl, _, _, _, _, _, rr, e, _⟩ := h
  rw [List.length_cons, rr.length]; exact (fnI_inv e).1
/-- defs by their bodies' mirrors: with repr or without -/
theorem defPG {G : Cg} {x qual : Str} {st : Stmt} {f : Addr} {fd : FuncData} {N ps : List Str} {k : Nat} {m : MS} (F : Fun K x qual st f fd) (S : FnScope N ps (defScope st))
    (hb : ∀ (cdv : Value) (A : Around) (outer : List PySem.Env) (s : Shared) (H : Hp) (E : XK), A.guards = some [] → Room k (A.deeper (envOfC qual (defScope st) s.heap.objs.size f cdv)) →
      ∃ t, PSs (bodyX CX0 P w K mg base N qual st f cdv A outer s H E).nox (defBody st) t ∧ EvS G Wn t m) : FnG P w K mg base CX0 (k + 1) f fd ps (SpP G (fnP N ps.length m)) := by
  refine fnG_of F S spP_len fun cdv A outer s H vs Q E gd hr h => ?_
  obtain ⟨t, dt, ev⟩ := hb cdv A outer s H E gd hr
  obtain ⟨F0, ds, r, e0, tb, rr, e, q⟩ := h
  exact ⟨t, dt.nox, endP ev e0 tb rr (fnP_inv e).2 q⟩
theorem defPO {G : Cg} {x qual : Str} {st : Stmt} {f : Addr} {fd : FuncData} {N ps : List Str} {k : Nat} {m : MS} (F : Fun K x qual st f fd) (S : FnScope N ps (defScope st))
    (hb : ∀ (cdv : Value) (A : Around) (outer : List PySem.Env) (s : Shared) (H : Hp) (E : XK), Room k (A.deeper (envOfC qual (defScope st) s.heap.objs.size f cdv)) →
      ∃ t, PSs (bodyX CX0 P w K mg base N qual st f cdv A outer s H E).nox (defBody st) t ∧ EvS G Wn t m) : FnOk P w K mg base CX0 (k + 1) f fd ps (SpP G (fnP N ps.length m)) := by
  refine fnO_of F S spP_len fun cdv A outer s H vs Q E hr h => ?_
  obtain ⟨t, dt, ev⟩ := hb cdv A outer s H E hr
  obtain ⟨F0, ds, r, e0, tb, rr, e, q⟩ := h
  exact ⟨t, dt.nox, endP ev e0 tb rr (fnP_inv e).2 q⟩
theorem defIO {G : Cg} {x qual : Str} {st : Stmt} {f : Addr} {fd : FuncData} {N ps : List Str} {k : Nat} {m : MS} (F : Fun K x qual st f fd) (S : FnScope N ps (defScope st)) (hN : 1 ≤ N.length)
    (hb : ∀ (cdv : Value) (A : Around) (outer : List PySem.Env) (s : Shared) (H : Hp) (E : XK), Room k (A.deeper (envOfC qual (defScope st) s.heap.objs.size f cdv)) →
      ∃ t, PSs (bodyX CX0 P w K mg base N qual st f cdv A outer s H E).nox (defBody st) t ∧ EvS G Wn t m) : FnOk P w K mg base CX0 (k + 1) f fd ps (SpI G (fnI N ps.length m)) := by
  refine fnO_of F S spI_len fun cdv A outer s H vs Q E hr h => ?_
  obtain ⟨t, dt, ev⟩ := hb cdv A outer s H E hr
  obtain ⟨F0, v0, A0, t0, ws, ds, r, t', rfl, e0, tb, o, nd, hF, rr, e, q⟩ := h
  exact ⟨t, dt.nox, endI hN ev e0 tb o nd hF rr (fnI_inv e).2 q⟩
end
end Eo
namespace Eo
open PySem L2 PySem.Spec PyProof.Rows
/-! ## calls on data -/
/-- a new tree that must stay for a while -/
theorem Sta.pend {B : Bg} {F H F' H' : Hp} {σ : L2.St} {ρ : Env} {A : List Addr} (S : Sta B F H σ ρ) (x1 : Ex F F') (x2 : Ex F' H') (x3 : ∀ a, H a ≠ none → F' a = F a) (x4 : Gw B.G.tb H H') (hA : ∀ a ∈ A, F' a = none ∧ H a = none ∧ H' a ≠ none) (hnt : ∀ a ∈ A, ∀ o, H' a = some o → Nt o) :
    Ex B.X (join B.X H' A) ∧ Sta (B.with (join B.X H' A)) F' H' σ ρ ∧ ∀ a ∈ A, B.X a = none ∧ B.H0 a = none := by
  have eX : Ex B.X (join B.X H' A) := join_ex fun a m => S.xfree (hA a m).2.1
  have S' := S.grown x1 x2 x3 x4
  refine ⟨eX, ⟨⟨S'.sub, S'.old, S'.keep, S'.pin, fun a o h => ?_, S'.lk.withX eX, S'.tab, fun a o h => ?_⟩, ?_, S'.len⟩, fun a m => ⟨S.xfree (hA a m).2.1, S.fresh (hA a m).2.1⟩⟩
  · have h' : join B.X H' A a = some o := h
    by_cases m : a ∈ A
    · rw [join_in m] at h'; exact ⟨h', (hA a m).1⟩
    · rw [join_out m] at h'; exact S'.ext a o h'
  · have h' : join B.X H' A a = some o := h
    by_cases m : a ∈ A
    · rw [join_in m] at h'; exact hnt a m o h'
    · rw [join_out m] at h'; exact S'.xnt a o h'
  · obtain ⟨A', q⟩ := S.own
    have q' := q.stepN (F' := F') (H' := H') x1 (fun a f _ u n hu => x4.keep a u n.1 hu) fun a f _ m => ⟨by rw [x3 a m]; exact f, x4.pin a m⟩
    exact ⟨A', fun i s k => (q'.ok i s k).withX, q'.nd, q'.apart, fun i a m => by
      obtain ⟨h1, h2, h3, h4⟩ := q'.free i a m
      refine ⟨h1, ?_, h3, h4⟩
      show join B.X H' A a = none
      rw [join_out (fun m' => (q.free i a m).2.2.1 (hA a m').2.1)]; exact h2⟩
section
variable {G : Cg} {W : Wx}
noncomputable def mCallP (f : List D → Option AV) (ma : MA) : ME := fun ρ => (ma ρ).bind fun ds ρ1 => match f ds with
  | some (.dat d) => .ok d ρ1
  | _ => .bad
theorem spP_dat {f : List D → Option AV} {B : Bg} {F H : Hp} {σ : L2.St} {ρ : Env} {vs : List V} {ds : List D} {d : D} {Q : VK} {E : XK} (g : B.G = G) (S : Sta B F H σ ρ) (r : Rps G F vs ds) (e : f ds = some (.dat d)) (h : ∀ v F' H', Ex F F' → Sta B F' H' σ ρ → Rp G F' v d → Q v H') : SpP G f vs H Q E :=
  ⟨F, ds, _, S.sub, g ▸ S.tab, r, e, fun v F' H' x1 x2 x3 x4 rv => h v F' H' x1 (S.grown x1 x2 x3 (g ▸ x4)) rv⟩
theorem ev_callP {f : List D → Option AV} {E : XK} {ta : TA} {ma : MA} (ha : EvA G W ta ma) : EvE G W (tCall (SpP G f) [] E ta) (mCallP f ma) := fun B F H σ ρ Q g S h =>
  ha B F H σ ρ _ g S (h.fst fun vs ds ρ1 F1 H1 e1 S1 r1 h1 => by
    split at h1
    · rename_i d e
      exact spP_dat (by assumption) S1 (by rw [List.append_nil]; exact r1) e h1
    · exact h1.elim)
noncomputable def mCallPW (f : List D → Option AV) (ma : MA) : MW := fun ρ => (ma ρ).bind fun ds ρ1 => match f ds with
  | some (.own t) => .ok t ρ1
  | _ => .bad
theorem FitW.fst {α1 β1 : Type} {B : Bg} {rel1 : Rl β1 α1} {σ : L2.St} {F : Hp} {Q : V → Hp → Prop} {Q1 : β1 → Hp → Prop} {k : α1 → Env → R OT} (L : LkOk B F) :
    ∀ {r : R α1}, FitW B W σ F Q (r.bind k) → (∀ v a ρ' F' H', Ex F F' → Sta B F' H' σ ρ' → rel1 σ F' H' v a → FitW B W σ F' Q (k a ρ') → Q1 v H') → Fits B W rel1 σ F Q1 r
  | .ok a ρ', h, q => fun v F' H' e S r => q v a ρ' F' H' e S r (by
    have h' : FitW B W σ F Q (k a ρ') := h
    cases z : k a ρ' with
    | ok t ρ2 => rw [z] at h'; exact fun v2 F2 H2 A X x => h' v2 F2 H2 A X (e.trans x)
    | err c fs ρ2 => rw [z] at h'; exact Errs.mono e h'
    | bad => rw [z] at h'; exact h')
  | .err _ _ _, h, _ => h
  | .bad, h, _ => h
theorem ew_callP {f : List D → Option AV} {E : XK} {ta : TA} {ma : MA} (ha : EvA G W ta ma) : EvW G W (tCall (SpP G f) [] E ta) (mCallPW f ma) := fun B F H σ ρ Q g S h =>
  ha B F H σ ρ _ g S (h.fst S.lk fun vs ds ρ1 F1 H1 e1 S1 r1 h1 => by
    split at h1
    · rename_i t e
      refine ⟨F1, ds, _, S1.sub, g ▸ S1.tab, by rw [List.append_nil]; exact r1, e, fun v F' H' x1 x2 x3 x4 rv => ?_⟩
      obtain ⟨A, o, nd, hA⟩ := rv
      obtain ⟨eX, S2, h2⟩ := S1.pend (A := A) x1 x2 x3 (g ▸ x4) (fun a m => ⟨(hA a m).1, (hA a m).2.1, by
        obtain ⟨u, hu⟩ := o.there a m
        rw [hu]; exact fun z => nomatch z⟩) o.nt
      exact h1 v F' H' A _ x1 eX (S1.lk.mono x1) S2 (g ▸ o.step (Ex.refl F') fun a m u hu => by rw [join_in m]; exact hu) nd h2
    · exact h1.elim)
/-- a call that changes its first argument, a place -/
noncomputable def mCallI (f : OT → List D → Option (AV × OT)) (i : Nat) (mp : MP) (ma : MA) : ME := fun ρ => (mp ρ).bind fun p ρ1 => match subE i p ρ1 with
  | some _ => (mLk i ma ρ1).bind fun ds ρ2 => match subE i p ρ2 with
    | some t => if mutE i ρ2 = true then (match f t ds with
      | some (.dat d, t') => .ok d (putE i p t' ρ2)
      | _ => .bad) else .bad
    | none => .bad
  | none => .bad
theorem spI_dat {f : OT → List D → Option (AV × OT)} {B : Bg} {F H : Hp} {σ : L2.St} {ρ : Env} {i : Nat} {p : Path} {t t' : OT} {v0 : V} {vs : List V} {ds : List D} {d : D} {Q : VK} {E : XK} (g : B.G = G) (S : Sta B F H σ ρ) (hs : subE i p ρ = some t) (hm : mutE i ρ = true) (hv : ∃ r, σ[i]? = some (some r) ∧ walk H r p = some v0) (r : Rps G F vs ds)
    (e : f t ds = some (.dat d, t')) (h : ∀ v F' H', Ex F F' → Sta B F' H' σ (putE i p t' ρ) → Rp G F' v d → Q v H') : SpI G f (v0 :: vs) H Q E := by
  obtain ⟨A0, o, nd, hA, sw⟩ := S.at hs hm hv
  exact ⟨F, v0, A0, t, vs, ds, _, t', rfl, S.sub, g ▸ S.tab, g ▸ o, nd, fun a m => (hA a m).1, r, e, fun v F' H' A1 x1 x2 x3 x4 x5 x6 o1 nd1 h1 rv => h v F' H' x1 (sw F' H' t' A1 B.X x1 x2 x3 x4 x5 (g ▸ x6) (g ▸ o1) nd1 h1 (Ex.refl _) fun a o z => .inl z) rv⟩
theorem ev_callI {f : OT → List D → Option (AV × OT)} {E : XK} {tp : TE} {ta : TA} {mp : MP} {ma : MA} {i : Nat} (hp : EvP G W i tp mp) (ha : EvA G W ta ma) : EvE G W (tCall (SpI G f) [] E (tCons tp ta)) (mCallI f i mp ma) := fun B F H σ ρ Q g S q =>
  hp B F H σ ρ _ g S (q.fst fun v p ρ1 F1 H1 e1 S1 r1 h1 => by
    split at h1
    · rename_i s hs
      refine lock_snd (t := ta) i ha g S1 (h1.fst fun us ds ρ2 F2 H2 e2 S2 r2 h2 => ?_)
      split at h2
      · rename_i t hs2
        split at h2
        · rename_i hm
          split at h2
          · rename_i d t' e
            obtain ⟨hv, _⟩ := at2 S2 r1 hs hs2 r2.2
            show SpI G f (v :: (us ++ [])) H2 Q E
            rw [List.append_nil]
            exact spI_dat g S2 hs2 hm hv r2.1 e h2
          · exact h2.elim
        · exact h2.elim
      · exact h2.elim
    · exact h1.elim)
/-! ## objects -/
theorem Rpf.look {F : Hp} {f : Str} : ∀ {vs : List (Str × V)} {ds : List (Str × D)} {d : D}, Rpf G F vs ds → getK ds f = some d → ∃ v, getK vs f = some v ∧ Rp G F v d
  | _, _, _, .nil, h => by cases h
  | _, _, d, .cons (k := k) (v := v) r t, h => by
    unfold getK at h ⊢
    by_cases e : k = f
    · simp only [e, if_true] at h ⊢; cases h; exact ⟨v, rfl, r⟩
    · simp only [e, if_false] at h ⊢; exact Rpf.look t h
theorem Rp.obj_inv {F : Hp} {v : V} {c : Str} {ds : List (Str × D)} (h : Rp G F v (.obj c ds)) : ∃ a C dx fs, v = .ref a ∧ F a = some (.ins C dx fs) ∧ OC G F c C fs ∧ Rpf G F fs ds := by
  cases h; exact ⟨_, _, _, _, rfl, by assumption, by assumption, by assumption⟩
/-- the object's fields, if it is of the class -/
noncomputable def D.ofC (c : Str) : D → Option (List (Str × D))
  | .obj c' fs => if c' = c then some fs else none
  | _ => none
theorem ofC_inv {c : Str} {d : D} {fs : List (Str × D)} (h : d.ofC c = some fs) : d = .obj c fs := by
  unfold D.ofC at h
  split at h
  · split at h
    · rename_i z; subst z; cases h; rfl
    · cases h
  · cases h
theorem Rp.ofC {F : Hp} {v : V} {c : Str} {d : D} {C : Addr} {ds : List (Str × D)} (h : Rp G F v d) (hd : d.ofC c = some ds) (hc : G.cls c = some C) : ∃ a dx fs, v = .ref a ∧ F a = some (.ins C dx fs) ∧ Rpf G F fs ds := by
  rw [ofC_inv hd] at h
  obtain ⟨a, C', dx, fs, h1, h2, h3, h4⟩ := h.obj_inv
  have h3' := h3.1
  rw [hc] at h3'
  cases h3'
  exact ⟨a, dx, fs, h1, h2, h4⟩
/-- o.m(..) -/
noncomputable def mMeth (c m : Str) (g : List D → Option AV) (me : ME) (ma : MA) : ME := fun ρ => (me ρ).bind fun d ρ1 => match (d.ofC c).map fun fs => getK fs m with
  | some none => (ma ρ1).bind fun ds ρ2 => match g (d :: ds) with
    | some (.dat r) => .ok r ρ2
    | _ => .bad
  | _ => .bad
end
end Eo
namespace Eo
open PySem L2 PySem.Spec PyProof.Rows
/-! ## isinstance of built-in classes -/
inductive Ty where
  | int | bool | str | tup | lst | dct
noncomputable def Ty.nm : Ty → String
  | .int => "int"
  | .bool => "bool"
  | .str => "str"
  | .tup => "tuple"
  | .lst => "list"
  | .dct => "dict"
noncomputable def D.isT (d : D) (T : Ty) : Option Bool := match d with
  | .non => some false
  | .bl _ => some (match T with | .int => true | .bool => true | _ => false)
  | .int _ => some (match T with | .int => true | _ => false)
  | .str _ => some (match T with | .str => true | _ => false)
  | .lst _ => some (match T with | .lst => true | _ => false)
  | .tup _ => some (match T with | .tup => true | _ => false)
  | .dct _ => some (match T with | .dct => true | _ => false)
  | .obj _ _ => none
  | .scr _ => none
  | .cls _ => none
  | .exc _ _ => none
theorem ty_dct {K : PySem.W.Frag} {H : Hp} {a : Addr} {kvs : List (Key × V)} (h : Rd H a (.dK kvs)) : TyX K H (.ref a) (.type "dict") := by
  rcases h with h | ⟨o, h⟩
  · exact .base (.dK h)
  · exact .fDict h
section
variable {G : Cg} {W : Wx}
theorem Rp.ty {F H : Hp} {v : V} {d : D} {T : Ty} {b : Bool} (e : Ex F H) (h : Rp G F v d) (hb : d.isT T = some b) : ∃ t, TyX G.K H v t ∧ PySem.W.kitOne G.K t (.type T.nm) = some b := by
  cases h with
  | non => cases hb; exact ⟨_, .base .non, kit_ty (by cases T <;> decide +kernel)⟩
  | bl x => cases T <;> (cases hb; exact ⟨_, .base (.bl x), kit_ty (by decide +kernel)⟩)
  | int x => cases T <;> (cases hb; exact ⟨_, .base (.int x), kit_ty (by decide +kernel)⟩)
  | str x => cases T <;> (cases hb; exact ⟨_, .base (.str x), kit_ty (by decide +kernel)⟩)
  | lst h1 r => cases T <;> (cases hb; exact ⟨_, .base (.lst (e _ _ h1)), kit_ty (by decide +kernel)⟩)
  | dct h1 r => cases T <;> (cases hb; exact ⟨_, ty_dct (ex_rd e h1), kit_ty (by decide +kernel)⟩)
  | @tup a vs ds h1 r =>
    have ty : TyX G.K H (.ref a) (.type "tuple") := by
      rcases h1 with (h1 | ⟨o, h1⟩) | ⟨o, its, n, k, c, _⟩
      · exact .base (.tup (e _ _ h1))
      · exact .fTuple (e _ _ h1)
      · exact .kTuple k c
    cases T <;> (cases hb; exact ⟨_, ty, kit_ty (by decide +kernel)⟩)
  | obj => cases hb
  | scr => cases hb
  | cls => cases hb
  | exc => cases hb
end
/-! ## repr -/
mutual
noncomputable def toPyd : D → Option PyData
  | .non => some .none
  | .bl b => some (.bool b)
  | .int i => some (.int i)
  | .str x => some (.str x)
  | .lst ds => (toPyds ds).map .list
  | .tup ds => (toPyds ds).map .tuple
  | .dct ds => (toPydk ds).map .dict
  | .obj _ _ => none
  | .scr _ => none
  | .cls _ => none
  | .exc _ _ => none
noncomputable def toPyds : List D → Option (List PyData)
  | [] => some []
  | d :: ds => match toPyd d, toPyds ds with
    | some p, some ps => some (p :: ps)
    | _, _ => none
noncomputable def toPydk : List (Key × D) → Option (List (PyData × PyData))
  | [] => some []
  | (k, d) :: ds => match toPyd d, toPydk ds with
    | some p, some ps => some ((match k with | .inl i => .int i | .inr x => .str x, p) :: ps)
    | _, _ => none
end
section
variable {X : Cx} {pins : List (Addr × Obj)} {σ : L2.St} {H : Hp} {s : Shared} {G : Cg}
noncomputable def kPy : Key → PyData
  | .inl i => .int i
  | .inr x => .str x
theorem pairs_reads {P : Program} {w : World} {h : Heap} : ∀ {es : List DictEntry} {vs : List (Key × Value)}, Pairs (mixKind P w) es vs → es.map (·.val) = vs.map (·.2) ∧ ReadsAll h (es.map (·.key)) (vs.map fun p => kPy p.1) []
  | _, _, .nil => ⟨rfl, .nil⟩
  | _, _, .cons (e := e) (kv := kv) hk hv r => by
    obtain ⟨q1, q2⟩ := pairs_reads (h := h) r
    refine ⟨by rw [List.map_cons, List.map_cons, hv, q1], ?_⟩
    obtain ⟨k, v⟩ := kv
    rcases keyIs_shape (show keyIs k e.key = true from hk) with ⟨i, t, rfl, ek⟩ | ⟨x, t, rfl, ek⟩
    · rw [List.map_cons, List.map_cons, ek]
      exact ReadsAll.cons (as := []) (bs := []) (.int i t) q2
    · rw [List.map_cons, List.map_cons, ek]
      exact ReadsAll.cons (as := []) (bs := []) (.str x t) q2
theorem toPydk_keys : ∀ {ds : List (Key × D)} {ps : List (PyData × PyData)}, toPydk ds = some ps → ps.map (·.1) = ds.map fun p => kPy p.1
  | [], _, h => by simp only [toPydk, Option.some.injEq] at h; subst h; rfl
  | (k, d) :: ds, _, h => by
    simp only [toPydk] at h
    split at h
    · rename_i p ps h1 h2
      cases h
      rw [List.map_cons, List.map_cons, toPydk_keys h2]
      cases k <;> rfl
    · cases h
theorem Rpk.keys {F : Hp} : ∀ {kvs : List (Key × V)} {ds : List (Key × D)}, Rpk G F kvs ds → kvs.map (·.1) = ds.map (·.1)
  | _, _, .nil => rfl
  | _, _, .cons _ r => by rw [List.map_cons, List.map_cons, Rpk.keys r]
theorem kv_fst {κ : Type} {ks : List (κ × V)} {vs : List (κ × Value)} (r : KV ks vs) : vs.map (·.1) = ks.map (·.1) := by
  induction r with
  | nil => rfl
  | cons h _ ih => rw [List.map_cons, List.map_cons, ih, h.1]
theorem not_sys (I : Inv X pins σ H s) (hs : ∃ o, X.base.get? sysModules = some o) {a : Addr} {u : HO} (h : H a = some u) : sysModules ≠ a := fun e => by
  obtain ⟨o, ho⟩ := hs
  have z := (I.bs _ _ ho).2
  rw [e, h] at z; cases z
mutual
theorem Rp.reads {F : Hp} (I : Inv X pins σ H s) (hs : ∃ o, X.base.get? sysModules = some o) (hG : G.K = X.K) (e : Ex F H) : ∀ {v : V} {d : D} {p : PyData} {u : Value}, Rp G F v d → toPyd d = some p → RelV v u → ∃ as, Reads s.heap u p as ∧ sysModules ∉ as
  | _, _, _, _, .non, h, r => by simp only [toPyd, Option.some.injEq] at h; subst h; cases r; exact ⟨_, .none, by simp⟩
  | _, _, _, _, .bl b, h, r => by simp only [toPyd, Option.some.injEq] at h; subst h; cases r; exact ⟨_, .bool b, by simp⟩
  | _, _, _, _, .int b, h, r => by simp only [toPyd, Option.some.injEq] at h; subst h; obtain ⟨t, rfl⟩ := r; exact ⟨_, .int b t, by simp⟩
  | _, _, _, _, .str b, h, r => by simp only [toPyd, Option.some.injEq] at h; subst h; obtain ⟨t, rfl⟩ := r; exact ⟨_, .str b t, by simp⟩
  | _, _, _, _, .lst h1 rr, h, r => by
    simp only [toPyd, Option.map_eq_some_iff] at h
    obtain ⟨ps, h2, rfl⟩ := h
    cases r
    obtain ⟨its, rv, ⟨o, n, ho, hc, _, hd⟩, _⟩ := I.list (SqL.of (e _ _ h1))
    obtain ⟨as, hr, hn⟩ := Rps.reads I hs hG e rr h2 rv
    exact ⟨_, .list ho hc hd hr, by
      simp only [List.mem_cons, not_or]
      exact ⟨not_sys I hs (e _ _ h1), hn⟩⟩
  | _, _, _, _, .tup h1 rr, h, r => by
    simp only [toPyd, Option.map_eq_some_iff] at h
    obtain ⟨ps, h2, rfl⟩ := h
    cases r
    obtain ⟨its, rv, ⟨o, ho, hc, n, hd⟩, _⟩ := I.tuple (hG ▸ ex_t e h1)
    obtain ⟨as, hr, hn⟩ := Rps.reads I hs hG e rr h2 rv
    exact ⟨_, .tuple ho hc hd hr, hn⟩
  | _, _, _, _, .dct (ds := ds) h1 rr, h, r => by
    simp only [toPyd, Option.map_eq_some_iff] at h
    obtain ⟨ps, h2, rfl⟩ := h
    cases r
    obtain ⟨_, hm, vs, kv, o, es, ep, ho, hx, hd, _, hp, _⟩ := dk_rd I.hok (ex_rd e h1)
    obtain ⟨q1, q2⟩ := pairs_reads (h := s.heap) hp
    obtain ⟨bs, hr, hn⟩ := Rpk.reads I hs hG e rr h2 kv
    have ek : (vs.map fun p => kPy p.1) = ps.map (·.1) := by
      rw [toPydk_keys h2]
      have z : vs.map (·.1) = ds.map (·.1) := (kv_fst kv).trans rr.keys
      have z' := congrArg (List.map kPy) z
      rw [List.map_map, List.map_map] at z'
      exact z'
    rw [ek] at q2
    refine ⟨_, Reads.dict (bs := bs) ho hx.1 hd q2 (by rw [q1]; exact hr), ?_⟩
    simp only [List.cons_append, List.nil_append, List.mem_cons, not_or]
    exact ⟨fun z => by rw [← z] at hm; simp at hm, hn⟩
  | _, _, _, _, .obj _ _ _, h, _ => by simp [toPyd] at h
  | _, _, _, _, .scr _, h, _ => by simp [toPyd] at h
  | _, _, _, _, .cls _, h, _ => by simp [toPyd] at h
  | _, _, _, _, .exc _ _ _ _, h, _ => by simp [toPyd] at h
theorem Rps.reads {F : Hp} (I : Inv X pins σ H s) (hs : ∃ o, X.base.get? sysModules = some o) (hG : G.K = X.K) (e : Ex F H) : ∀ {v : List V} {d : List D} {p : List PyData} {u : List Value}, Rps G F v d → toPyds d = some p → Vals v u → ∃ as, ReadsAll s.heap u p as ∧ sysModules ∉ as
  | _, _, _, _, .nil, h, r => by simp only [toPyds, Option.some.injEq] at h; subst h; cases r; exact ⟨_, .nil, by simp⟩
  | _, _, _, _, .cons a b, h, r => by
    simp only [toPyds] at h
    split at h
    · rename_i p ps h1 h2
      cases h
      cases r with
      | cons ra rb =>
        obtain ⟨as, q1, q2⟩ := Rp.reads I hs hG e a h1 ra
        obtain ⟨bs, q3, q4⟩ := Rps.reads I hs hG e b h2 rb
        exact ⟨_, .cons q1 q3, by rw [List.mem_append, not_or]; exact ⟨q2, q4⟩⟩
    · cases h
theorem Rpk.reads {F : Hp} (I : Inv X pins σ H s) (hs : ∃ o, X.base.get? sysModules = some o) (hG : G.K = X.K) (e : Ex F H) : ∀ {v : List (Key × V)} {d : List (Key × D)} {p : List (PyData × PyData)} {u : List (Key × Value)}, Rpk G F v d → toPydk d = some p → KV v u →
    ∃ as, ReadsAll s.heap (u.map (·.2)) (p.map (·.2)) as ∧ sysModules ∉ as
  | _, _, _, _, .nil, h, r => by simp only [toPydk, Option.some.injEq] at h; subst h; cases r; exact ⟨_, .nil, by simp⟩
  | _, _, _, _, .cons a b, h, r => by
    simp only [toPydk] at h
    split at h
    · rename_i p ps h1 h2
      cases h
      cases r with
      | cons ra rb =>
        obtain ⟨as, q1, q2⟩ := Rp.reads I hs hG e a h1 ra.2
        obtain ⟨bs, q3, q4⟩ := Rpk.reads I hs hG e b h2 rb
        exact ⟨_, .cons q1 q3, by rw [List.mem_append, not_or]; exact ⟨q2, q4⟩⟩
    · cases h
end
/-- what repr says of data -/
noncomputable def shownD (d : D) : Option Str := (toPyd d).bind fun p => if p.showable && decide (p.depth ≤ 64) && decide (p.shown.length ≤ sizeLine) then some p.shown else none
noncomputable def rRepr (G : Cg) : List V → Hp → VK → Prop := fun xs H Q => ∃ x d z, xs = [x] ∧ Rp G H x d ∧ shownD d = some z ∧ Q (.str z) H
theorem call_repr (gd : X.A.guards = some []) (hs : ∃ o, X.base.get? sysModules = some o) (hu : X.A.units + 66 < cLine) (hG : G.K = X.K) : CallR X (.builtin "repr") (rRepr G) := by
  intro pins s σ H xs us Q I r h
  obtain ⟨x, d, z, rfl, rp, hz, q⟩ := h
  have ex : Ex H H := Ex.refl H
  obtain ⟨u, rfl, ru⟩ := vals1 r
  unfold shownD at hz
  rw [Option.bind_eq_some_iff] at hz
  obtain ⟨p, hp, hz⟩ := hz
  split at hz
  · rename_i hc
    simp only [Bool.and_eq_true, decide_eq_true_eq] at hc
    obtain ⟨⟨h1, h2⟩, h3⟩ := hc
    cases hz
    obtain ⟨as, rd, ns⟩ := rp.reads I hs hG ex hp ru
    cases rd with
    | none => exact PySem.P.repr_of_none ⟨.str _, H, I.tok _, ⟨_, rfl⟩, q⟩
    | bool b =>
      refine PySem.P.repr_of_bool ⟨.str _, H, I.tok _, ⟨_, rfl⟩, ?_⟩
      simp only [PyData.shown] at q
      cases b <;> exact q
    | int i t =>
      refine PySem.P.repr_of_int (by simpa [PyData.showable] using h1) ⟨.str _, H, I.tok _, ⟨_, rfl⟩, ?_⟩
      simpa only [PyData.shown] using q
    | str i t =>
      refine PySem.P.repr_of_str ⟨.str _, H, I.tok _, ⟨_, rfl⟩, ?_⟩ (by simpa only [PyData.shown] using h3)
      simpa only [PyData.shown] using q
    | list a b c d => exact PySem.repr_of_reads' (.list a b c d) h1 (fun _ => ns) gd (by omega) (fun _ _ q => q) (fun h' u tk kp => ⟨.str _, H, I.kept kp, ⟨_, rfl⟩, q⟩) h3
    | tuple a b c d => exact PySem.repr_of_reads' (.tuple a b c d) h1 (fun _ => ns) gd (by omega) (fun _ _ q => q) (fun h' u tk kp => ⟨.str _, H, I.kept kp, ⟨_, rfl⟩, q⟩) h3
    | dict a b c d e => exact PySem.repr_of_reads' (.dict a b c d e) h1 (fun _ => ns) gd (by omega) (fun _ _ q => q) (fun h' u tk kp => ⟨.str _, H, I.kept kp, ⟨_, rfl⟩, q⟩) h3
  · cases hz
end
section
variable {G : Cg} {W : Wx}
noncomputable def dRepr : List D → Option D
  | [d] => (shownD d).map .str
  | _ => none
theorem cd_repr : Cad G W (rRepr G) dRepr := fun B F H σ ρ xs ds Q g S r h => by
  obtain ⟨d, e, q, qn⟩ := lift_fits S h
  unfold dRepr at e
  split at e
  · rw [Option.map_eq_some_iff] at e
    obtain ⟨z, hz, rfl⟩ := e
    obtain ⟨v, rfl, rv⟩ := r.one
    exact ⟨v, _, z, rfl, rv.full S.sub, hz, q _ (.str _)⟩
  · cases e
end
end Eo
namespace Eo
open PySem L2 PySem.Spec PyProof.Rows
/-! ## the law's own call -/
theorem sys_in {q : Program} {loose : List Str} {XP : (Str → Option Value) → Heap → Prop} {w : World} {s₀ : Shared} {mg mb : Str → Option Value} {h : Heap} (G : PySem.W.Ground q loose [] XP w s₀ mg mb h) (him : importsNone q = true) :
    ∃ o es ep, h.get? sysModules = some o ∧ o.data = .dict es ep := by
  obtain ⟨mm, ⟨o, es, ep, h1, h2, _⟩, _⟩ := (G.T.seer him).mods
  exact ⟨o, es, ep, h1, h2⟩
theorem goG {P : Program} {w : World} {K : PySem.W.Frag} {mg mb : Str → Option Value} {k : Nat} {fa a : Addr} {x : Str} {sp : Sp} {s : Shared} {vs : List Value} {H : Hp}
    (inK : K.In s.heap) (hm : s.heap.Ns mainGlobals mg) (hb : s.heap.Ns builtinsNs mb) (hbb : ∀ x : Str, x ≠ "__name__" → mb x = bootBuiltins x) (lim : s.heap.NoLimit) (gens : s.gens = #[]) (hsys : ∃ o es ep, s.heap.get? sysModules = some o ∧ o.data = .dict es ep)
    (ha : s.heap.get? a = some { cls := .type "list", data := .seq vs.toArray }) (hr : Room k callerA)
    (F : ∀ base : Heap, K.In base → base.Ns mainGlobals mg → (∃ o, base.get? sysModules = some o) → ∃ fd : FuncData, (∀ (s : Shared) (u : Value), K.In s.heap → BindsTo s fd ⟨[u], []⟩ [(x, u)]) ∧ FnG P w K mg base CX0 k fa fd [x] sp)
    (hsp : sp [.ref a] H (fun v _ => v = .bl true) fun _ _ _ => False) (ok : HOk P w H s.heap) (only : ∀ b u, H b = some u → b = a ∧ (∃ o z, u = .frz o z) ∧ K.lookup a = none) :
    codeAny (model P w) callerA (.call (.ref fa) ⟨[.ref a], []⟩) (fun r s' => r = .ok (.ret (.bool true)) ∧ OldK s.heap s'.heap ∧ s'.os = s.os ∧ AllBare s'.gens) s := by
  have not_a : ∀ {b : Addr} {o : Obj}, s.heap.get? b = some o → (∀ z n, o.data ≠ .seq z n) → H b = none := fun {b o} e ne => by
    cases q : H b with
    | none => rfl
    | some u =>
      have z := (only b u q).1
      subst z
      rw [ha] at e
      cases e
      exact absurd rfl (ne _ _)
  have up : ∀ {b : Addr} {o : Obj}, s.heap.get? b = some o → H b = none → (hidT s.heap H).get? b = some o := fun e n => hidT_get e n
  have upNs : ∀ {b : Addr} {m : Str → Option Value}, s.heap.Ns b m → (hidT s.heap H).Ns b m := fun ⟨o, es, ep, e, d, r⟩ => ⟨o, es, ep, up e (not_a e fun z n y => by rw [d] at y; cases y), d, r⟩
  have upK : K.In (hidT s.heap H) := fun b o e => up (inK b o e) (by
    cases q : H b with
    | none => rfl
    | some u =>
      obtain ⟨z, _, y⟩ := only b u q
      rw [z, y] at e; cases e)
  obtain ⟨os, es, ep, g1, g2⟩ := hsys
  have lm : (hidT s.heap H).NoLimit := by
    obtain ⟨mc, y1, y2⟩ := lim
    exact ⟨mc, upNs y1, y2⟩
  have md : L2.Mod K mg (hidT s.heap H) := { kin := upK, glob := upNs hm, blt := ⟨mb, upNs hb, hbb⟩, nolimit := lm }
  have e0 : Env0 P w K mg (hidT s.heap H) callerA [] s H := { frames := rfl, mod := md, bs := fun b o e => of_hidT e, bsz := Nat.le_of_eq (hidT_size _ _), funs := trivial, frf := fun b z => (List.not_mem_nil z).elim, hok := ok, bare := .of_eq gens }
  obtain ⟨fd, bd, FF⟩ := F _ upK (upNs hm) ⟨os, up g1 (not_a g1 fun z n y => by rw [g2] at y; cases y)⟩
  refine codeAny_mono (FF.run callerA [] s H ⟨[.ref a], []⟩ [.ref a] [.ref a] _ _ rfl hr e0 (bd s (.ref a) inK) (.cons rfl .nil) hsp) ?_
  intro r s' q
  match r, q with
  | .error e, q => exact q.elim
  | .ok (.ret u), ⟨v, H', q1, q2, q3, q4, q5, q6⟩ =>
    have z : v = .bl true := q6
    subst z
    have z : u = Value.bool true := q5
    subst z
    refine ⟨rfl, OldK.of_keep ?_, q1, q2⟩
    intro b o e
    cases hb : H b with
    | none => exact q3.keep b o e hb (List.not_mem_nil) List.not_mem_nil
    | some u =>
      obtain ⟨_, ⟨ob, y, rfl⟩, _⟩ := only b u hb
      have y1 := (ok b _ hb).1
      have y2 := (q4 b _ (q3.frzs b ob _ hb)).1
      rw [e] at y1
      cases y1
      exact y2
theorem walkG {l : PySem.W.OpenLaw} {n k : Nat} {q : Program} {loose : List Str} {XP : (Str → Option Value) → Heap → Prop} {YP : World → Heap → Prop} {d : DefRec} {K : Params → PySem.W.Frag} {sp : PySem.W.Frag → Sp} {x : Str}
    (hn : l.most = some n) (hn2 : n ≤ sizeLine) (hdf : d.params.defaults = []) (hr : Room k callerA) (him : importsNone q = true) (hY : ∀ (w : World) (h : Heap), YP w h → (K w.params).In h)
    (F : ∀ (w : World) (mg : Str → Option Value) (fa : Addr) (h : Heap), (K w.params).In h → h.Ns mainGlobals mg → mg d.name = some (.ref fa) →
      ∀ base : Heap, (K w.params).In base → base.Ns mainGlobals mg → (∃ o, base.get? sysModules = some o) → ∃ fd : FuncData, (∀ (s : Shared) (u : Value), (K w.params).In s.heap → BindsTo s fd ⟨[u], []⟩ [(x, u)]) ∧ FnG l.prog w (K w.params) mg base CX0 k fa fd [x] (sp (K w.params)))
    (hsp : ∀ (K : PySem.W.Frag) (H : Hp) (a : Addr) (ns : List Int), ns.length ≤ n → SqL K H a (ns.map V.int) → sp K [.ref a] H (fun v _ => v = .bl true) fun _ _ _ => False) :
    PySem.W.WalkO q loose XP YP l.row.toRowW d [] (fun f vs => PySem.call f vs) := by
  refine Att.attach_call hn hdf ?_
  intro w s₀ s₁ mg mb fa o pm cd doc a vs ns G Y ho hd hcd hmg hobj hints hlen hg
  have KX := hY w _ Y
  have FF := F w mg fa _ KX G.T.g hmg
  have rv := vals_ints hints
  have hl : (ns.map V.int).length ≤ sizeLine := by rw [List.length_map]; exact Nat.le_trans hlen hn2
  cases hk : (K w.params).lookup a with
  | some oa =>
    have e := KX a oa hk
    rw [hobj] at e
    cases e
    refine goG (H := fun _ => none) KX G.T.g G.T.b G.T.builtins G.T.nolimit hg (sys_in G him) hobj hr FF (hsp _ _ a ns hlen (.inr ⟨_, vs.toArray, _, hk, rfl, rfl, rfl, ?_, by simpa using rv⟩)) (fun b u z => by cases z) (fun b u z => by cases z)
    have z := rv.length
    rw [List.size_toArray]; omega
  | none =>
    refine goG (H := upd (fun _ => none) a (.frz { cls := .type "list", data := .seq vs.toArray } (.lst (ns.map V.int)))) KX G.T.g G.T.b G.T.builtins G.T.nolimit hg (sys_in G him) hobj hr FF
      (hsp _ _ a ns hlen (.inl (.inr ⟨_, upd_same⟩))) (fun b u z => ?_) (fun b u z => ?_)
    · by_cases hb : b = a
      · subst hb; rw [upd_same] at z; cases z
        exact ⟨hobj, hl, vs, _, rv, hobj⟩
      · rw [upd_ne hb] at z; cases z
    · by_cases hb : b = a
      · subst hb; rw [upd_same] at z; cases z
        exact ⟨rfl, ⟨_, _, rfl⟩, hk⟩
      · rw [upd_ne hb] at z; cases z
end Eo
namespace Eo
open PySem L2 PySem.Spec PyProof.Rows
/-! ## x, *rest = a tuple -/
section
variable {G : Cg} {W : Wx}
end
/-! ## == with an empty tuple or list, whatever the other one holds -/
section
variable {X : Cx}
noncomputable def rEqT0 (K : PySem.W.Frag) (neg : Bool) : R2 := fun x y H Q => ∃ a b xs, x = .ref a ∧ y = .ref b ∧ ((SqT K H a xs ∧ SqT K H b []) ∨ (SqL K H a xs ∧ SqL K H b [])) ∧ Q (.bl (if neg then !xs.isEmpty else xs.isEmpty)) H
theorem empt {xs : List V} {its : List Value} (r : Vals xs its) : ((List.range (min its.toArray.size ([] : List Value).toArray.size)).all (fun _ => true) && its.toArray.size == ([] : List Value).toArray.size) = xs.isEmpty := by
  cases r <;> simp
theorem op_eq0 (hu : X.A.units < cLine) : OpR X (compareOp .Eq) (rEqT0 X.K false) := by
  intro pins s σ H x y v u Q I rx ry h
  obtain ⟨a, b, xs, rfl, rfl, hq, q⟩ := h
  cases rx
  cases ry
  rcases hq with ⟨h1, h2⟩ | ⟨h1, h2⟩
  · obtain ⟨i1, r1, t1, _⟩ := I.tuple h1
    obtain ⟨i2, r2, t2, _⟩ := I.tuple h2
    cases r2
    refine SeqAt.eq_tupleAt (e := fun _ => true) t1 t2 hu (fun j _ z => absurd z (by simp)) ⟨.bl _, H, I, ?_, q⟩
    rw [empt r1]; rfl
  · obtain ⟨i1, r1, t1, _⟩ := I.list h1
    obtain ⟨i2, r2, t2, _⟩ := I.list h2
    cases r2
    cases r1 with
    | nil => exact SeqAt.eq_listAt (e := fun _ => true) t1.isList t2.isList rfl hu (fun j _ z => absurd z (by simp)) ⟨.bl _, H, I, rfl, q⟩
    | cons _ _ => exact SeqAt.eq_list_lengthsAt t1.isList t2.isList (by simp) hu ⟨.bl _, H, I, rfl, q⟩
theorem op_ne0 (hu : X.A.units < cLine) : OpR X (compareOp .NotEq) (rEqT0 X.K true) := by
  intro pins s σ H x y v u Q I rx ry h
  obtain ⟨a, b, xs, rfl, rfl, hq, q⟩ := h
  cases rx
  cases ry
  rcases hq with ⟨h1, h2⟩ | ⟨h1, h2⟩
  · obtain ⟨i1, r1, t1, _⟩ := I.tuple h1
    obtain ⟨i2, r2, t2, _⟩ := I.tuple h2
    cases r2
    refine SeqAt.RcNeAt.tuples (e := fun _ => true) t1 t2 hu (fun j _ z => absurd z (by simp)) _ _ _ _ ⟨.bl _, H, I, ?_, q⟩
    rw [empt r1]; rfl
  · obtain ⟨i1, r1, t1, _⟩ := I.list h1
    obtain ⟨i2, r2, t2, _⟩ := I.list h2
    cases r2
    cases r1 with
    | nil => exact SeqAt.RcNeAt.lists (e := fun _ => true) t1.isList t2.isList rfl hu (fun j _ z => absurd z (by simp)) _ _ _ _ ⟨.bl _, H, I, rfl, q⟩
    | cons _ _ => exact SeqAt.RcNeAt.lists_lengths t1.isList t2.isList (by simp) hu _ _ _ _ ⟨.bl _, H, I, rfl, q⟩
/-! ## in a tuple of data -/
noncomputable def rInT (K : PySem.W.Frag) (neg : Bool) : R2 := fun x y H Q => ∃ d ds, Dp K H x d ∧ Dp K H y (.tuple ds) ∧ SeqAt.shaped d = true ∧ SeqAt.shaped (.tuple ds) = true ∧ Q (.bl (if neg then !ds.any fun z => PyData.eqv z d else ds.any fun z => PyData.eqv z d)) H
theorem op_inT (hu : X.A.units + 65 < cLine) : OpR X (compareOp .In) (rInT X.K false) := by
  intro pins s σ H x y v u Q I rx ry h
  obtain ⟨d, ds, h1, h2, s1, s2, q⟩ := h
  obtain ⟨as, r1⟩ := Dp.reads I d x v h1 rx
  obtain ⟨bs, r2⟩ := Dp.reads I _ y u h2 ry
  exact SeqAt.in_tuple_reads r2 r1 (SeqAt.canLay_of_shaped s2) (SeqAt.canLay_of_shaped s1) (room_in_shaped s1 hu) ⟨.bl _, H, I, rfl, q⟩
end
section
variable {G : Cg} {W : Wx}
noncomputable def scalD : D → D → Option Bool
  | .non, .non => some true
  | .int i, .int j => some (decide (i = j))
  | .bl i, .bl j => some (decide (i = j))
  | .str i, .str j => some (decide (i = j))
  | .non, .int _ => some false
  | .int _, .non => some false
  | .non, .bl _ => some false
  | .bl _, .non => some false
  | .non, .str _ => some false
  | .str _, .non => some false
  | .int _, .str _ => some false
  | .str _, .int _ => some false
  | .bl _, .str _ => some false
  | .str _, .bl _ => some false
  | _, _ => none
noncomputable def emptD : D → D → Option Bool
  | .tup ds, .tup [] => some ds.isEmpty
  | .lst ds, .lst [] => some ds.isEmpty
  | _, _ => none
noncomputable def dEqF (a b : D) : Option Bool := match scalD a b with
  | some c => some c
  | none => match emptD a b with
    | some c => some c
    | none => dEqB a b
noncomputable def dEqX (a b : D) : Option D := (dEqF a b).map .bl
noncomputable def dNeX (a b : D) : Option D := (dEqF a b).map fun c => .bl (!c)
noncomputable def rEqAny (K : PySem.W.Frag) : R2 := rOr rEq (rOr (rEqT0 K false) (rEqD K))
noncomputable def rNeAny (K : PySem.W.Frag) : R2 := rOr rNe (rOr (rEqT0 K true) (rNeD K))
theorem Rps.nil_inv {F : Hp} {vs : List V} (h : Rps G F vs []) : vs = [] := by cases h; rfl
theorem scal_core {F : Hp} {x y : V} {dx dy : D} {c : Bool} (rx : Rp G F x dx) (ry : Rp G F y dy) (h : scalD dx dy = some c) : scal x y = true ∧ decide (x = y) = c := by
  cases rx <;> cases ry <;> first
    | (cases h; done)
    | (refine ⟨rfl, ?_⟩; cases h; first | rfl | simp)
theorem eq_core {B : Bg} {F H : Hp} {σ : L2.St} {ρ : Eo.Env} {x y : V} {dx dy : D} {c : Bool} (S : Sta B F H σ ρ) (rx : RpF G F H x dx) (ry : RpF G F H y dy) (h : dEqF dx dy = some c) :
    (scal x y = true ∧ decide (x = y) = c) ∨ (∃ a b xs, x = .ref a ∧ y = .ref b ∧ ((SqT G.K H a xs ∧ SqT G.K H b []) ∨ (SqL G.K H a xs ∧ SqL G.K H b [])) ∧ xs.isEmpty = c) ∨ (∃ p q, Dp G.K H x p ∧ Dp G.K H y q ∧ SeqAt.shaped p = true ∧ SeqAt.shaped q = true ∧ c = PyData.eqv p q) := by
  unfold dEqF at h
  split at h
  · cases h
    exact .inl (scal_core (rx.full S.sub) (ry.full S.sub) (by assumption))
  · split at h
    · rename_i c' e
      cases h
      unfold emptD at e
      split at e
      · cases e
        obtain ⟨a, vs, rfl, ha, ra⟩ := rx.tup_inv
        obtain ⟨b, ws, rfl, hb, rb⟩ := ry.tup_inv
        cases rb.nil_inv
        exact .inr (.inl ⟨a, b, vs, rfl, rfl, .inl ⟨ex_t S.sub ha, ex_t S.sub hb⟩, ra.isEmpty⟩)
      · cases e
        obtain ⟨a, vs, rfl, ha, ra⟩ := rx.lst_inv S.sub
        obtain ⟨b, ws, rfl, hb, rb⟩ := ry.lst_inv S.sub
        cases rb.nil_inv
        exact .inr (.inl ⟨a, b, vs, rfl, rfl, .inr ⟨SqL.of ha, SqL.of hb⟩, ra.isEmpty⟩)
      · cases e
    · obtain ⟨p, p', h1, h2, h3, h4, h5⟩ := dEqB_inv h
      exact .inr (.inr ⟨p, p', (rx.full S.sub).dp (Ex.refl H) h1, (ry.full S.sub).dp (Ex.refl H) h2, h3, h4, h5⟩)
theorem od_eqX : Opd G W (rEqAny G.K) (pur dEqX) := fun B F H σ ρ x y dx dy Q gg S rx ry h => by
  unfold pur at h
  obtain ⟨d, e, q, qn⟩ := lift_fits S h
  unfold dEqX at e
  rw [Option.map_eq_some_iff] at e
  obtain ⟨c, e, rfl⟩ := e
  rcases eq_core S rx ry e with ⟨h1, h2⟩ | ⟨a, b, xs, h1, h2, h3, h4⟩ | ⟨p, p', h1, h2, h3, h4, h5⟩
  · refine .inl ⟨h1, ?_⟩
    rw [h2]; exact q _ (.bl _)
  · refine .inr (.inl ⟨a, b, xs, h1, h2, h3, ?_⟩)
    rw [if_neg Bool.false_ne_true, h4]; exact q _ (.bl _)
  · refine .inr (.inr ⟨p, p', h1, h2, h3, h4, ?_⟩)
    rw [← h5]; exact q _ (.bl _)
theorem od_neX : Opd G W (rNeAny G.K) (pur dNeX) := fun B F H σ ρ x y dx dy Q gg S rx ry h => by
  unfold pur at h
  obtain ⟨d, e, q, qn⟩ := lift_fits S h
  unfold dNeX at e
  rw [Option.map_eq_some_iff] at e
  obtain ⟨c, e, rfl⟩ := e
  rcases eq_core S rx ry e with ⟨h1, h2⟩ | ⟨a, b, xs, h1, h2, h3, h4⟩ | ⟨p, p', h1, h2, h3, h4, h5⟩
  · refine .inl ⟨h1, ?_⟩
    rw [h2]; exact q _ (.bl _)
  · refine .inr (.inl ⟨a, b, xs, h1, h2, h3, ?_⟩)
    rw [if_pos rfl, h4]; exact q _ (.bl _)
  · refine .inr (.inr ⟨p, p', h1, h2, h3, h4, ?_⟩)
    rw [← h5]; exact q _ (.bl _)
theorem op_eqX {X : Cx} {k : Nat} (hr : Room k X.A) : OpR X (compareOp .Eq) (rEqAny X.K) := op_or2 op_eq (op_or2 (op_eq0 hr.units0) (op_eqD hr.units))
theorem op_neX {X : Cx} {k : Nat} (hr : Room k X.A) : OpR X (compareOp .NotEq) (rNeAny X.K) := op_or2 op_ne (op_or2 (op_ne0 hr.units0) (op_neD hr.units))
/-! in -/
noncomputable def rInS (neg : Bool) : R2 := fun x y H Q => ∃ (c : Nat) (z : Str), x = .str ⟨#[c]⟩ ∧ y = .str z ∧ Q (.bl (if neg then !decide (c ∈ z.cps.toList) else decide (c ∈ z.cps.toList))) H
theorem op_inSg {X : Cx} : OpR X (compareOp .In) (rInS false) := by
  intro pins s σ H x y v u Q I rx ry h
  exact op_in_sign pins s σ H x y v u Q I rx ry h
noncomputable def rInL (K : PySem.W.Frag) (neg : Bool) : R2 := fun x y H Q => ∃ d ds, Dp K H x d ∧ Dp K H y (.list ds) ∧ SeqAt.shaped d = true ∧ SeqAt.shaped (.list ds) = true ∧ Q (.bl (if neg then !ds.any fun z => PyData.eqv z d else ds.any fun z => PyData.eqv z d)) H
theorem op_inLs {X : Cx} (hu : X.A.units + 65 < cLine) : OpR X (compareOp .In) (rInL X.K false) := by
  intro pins s σ H x y v u Q I rx ry h
  exact op_inD hu pins s σ H x y v u Q I rx ry h
noncomputable def rInAny (K : PySem.W.Frag) (neg : Bool) : R2 := rOr (rInS neg) (rOr (rIn K neg) (rOr (rInL K neg) (rInT K neg)))
theorem op_inA {X : Cx} {k : Nat} (hr : Room k X.A) : OpR X (compareOp .In) (rInAny X.K false) := op_or2 op_inSg (op_or2 op_in_seq (op_or2 (op_inLs (by have := hr.un; omega)) (op_inT (by have := hr.un; omega))))
/-! great products -/
noncomputable def dMulW := dI (fun i j => decide (i.natAbs.log2 + j.natAbs.log2 < 1000000)) fun i j => .int (i * j)
theorem od_mulW : Opd G W (rI CMulW fun i j => .int (i * j)) (pur dMulW) := opd_I (fun i j h => by unfold CMulW; simpa using h) fun _ _ _ => .int _
/-! list(..), tuple(..), all, any -/
noncomputable def dList : List D → Option D
  | [.lst ds] => some (.lst ds)
  | [.tup ds] => some (.lst ds)
  | _ => none
theorem cd_list : Cad G W (fun xs H Q => ∃ p ys, xs = [.ref p] ∧ (SqL G.K H p ys ∨ SqT G.K H p ys) ∧ ∀ l, H l = none → Q (.ref l) (upd H l (.lst ys))) dList := fun B F H σ ρ xs ds Q g S r h => by
  obtain ⟨d, e, q, qn⟩ := lift_fits S h
  unfold dList at e
  split at e
  · cases e
    obtain ⟨v, rfl, rv⟩ := r.one
    obtain ⟨a, vs, rfl, ha, ra⟩ := rv.lst_inv S.sub
    exact ⟨a, vs, rfl, .inl (SqL.of ha), fun l hl => qn l _ _ hl (.lst upd_same (ra.mono (Ex.new (S.sub.free hl))))⟩
  · cases e
    obtain ⟨v, rfl, rv⟩ := r.one
    obtain ⟨a, vs, rfl, ha, ra⟩ := rv.tup_inv
    exact ⟨a, vs, rfl, .inr (ex_t S.sub ha), fun l hl => qn l _ _ hl (.lst upd_same (ra.mono (Ex.new (S.sub.free hl))))⟩
  · cases e
/-! {} and {k: v} -/
theorem ev_d0 : EvE G W tDNewK (mC (.dct [])) := fun B F H σ ρ Q g S h p hp => h _ _ _ (Ex.new (S.sub.free hp)) (S.new hp) (.dct (.inl upd_same) .nil)
/-- {"a": e} with a written key -/
noncomputable def mDict1 (k : Str) (me : ME) : ME := fun ρ => match me ρ with
  | .ok d ρ1 => .ok (.dct [(.inr k, d)]) ρ1
  | _ => .bad
theorem ev_d1 {te : TE} {me : ME} (k : Str) (he : EvE G W te me) : EvE G W (tDisp [(tC (.str k), te)]) (mDict1 k me) := fun B F H σ ρ Q g S h p hp => by
  refine he (B.also p (.dK [])) F _ σ ρ _ g (S.also hp) ?_
  have x0 := S.xfree hp
  have z0 := S.fresh hp
  cases e : me ρ with
  | bad => unfold mDict1 at h; rw [e] at h; exact h.elim
  | err c fs ρ1 => unfold mDict1 at h; rw [e] at h; exact h.elim
  | ok d ρ1 =>
    unfold mDict1 at h
    rw [e] at h
    intro v F' H' e' S' r
    obtain ⟨S2, q1, q2⟩ := Sta.less (S.lk.mono e') x0 z0 S' (.dK [(.inr k, v)])
    refine ⟨q1, [(.inr k, v)], rfl, by simp, ?_⟩
    have S3 := Sta.keepIt (S.lk.mono e') z0 x0 S2
    have ex : Ex F' (upd F' p (.dK [(.inr k, v)])) := Ex.new q2
    exact h _ _ _ (e'.trans ex) S3 (.dct (.inl upd_same) (.cons (Rp.mono ex r) .nil))
end
/-! ## calls with keywords, in the parameters' order -/
noncomputable def KwB (K : PySem.W.Frag) (fd : FuncData) (ps ks : List Str) (n : Nat) : Prop := ∀ (s : Shared) (us ws : List Value), K.In s.heap → us.length = n → ws.length = ks.length → BindsTo s fd ⟨us, ks.zip ws⟩ (ps.zip (us ++ ws))
section
variable {X : Cx} {CX : CXT} {k n : Nat} {f : Addr} {fd : FuncData} {ps ks : List Str} {sp : Sp} {E : XK} {x : Str} {p pos : Pos} {e : Expr} {es : List Expr} {kws : List Keyword} {t tk : TA}
end
section
variable {G : Cg} {W : Wx}
end
end Eo
namespace Eo
open PySem L2 PySem.Spec PyProof.Rows
/-! ## defs by their names -/
/-- a def of the module, as the top leaves it -/
structure DefAt (K : PySem.W.Frag) (mg : Str → Option Value) (x : Str) (st : Stmt) : Prop where
  ex : ∃ f fd, Fun K x x st f fd ∧ mg x = some (.ref f)
theorem defAt_mk {K : PySem.W.Frag} {h : Heap} {mg : Str → Option Value} {x : Str} {st : Stmt} {f : Addr} {oc : Value} {od an : Option Addr} {osl : Array (Option Value)} {kV doc pm cdv ct : Value} (X : K.In h) (G : h.Ns mainGlobals mg)
    (a : PySem.W.nsIn K mainGlobals x = some (some (.ref f))) (l : K.lookup f = some ⟨oc, od, .func (PySem.W.fnOf x x (defArgs st) (defBody st) (defScope st) .none kV doc pm an cdv ct), osl⟩) (c : PySem.W.codeIn K cdv x = true) (k : PySem.W.keepIn K (.ref f) = true) : DefAt K mg x st :=
  ⟨f, _, fun_mk l c k, PySem.W.mg_of X G a⟩
/-- what stands at a def's address -/
noncomputable def FdAt (K : PySem.W.Frag) (f : Addr) (fd : FuncData) : Prop := ∃ oc od osl, K.lookup f = some ⟨oc, od, .func fd, osl⟩
/-- a def that may be called -/
structure Cal (P : Program) (w : World) (K : PySem.W.Frag) (mg : Str → Option Value) (base : Heap) (k : Nat) (x : Str) (ps : List Str) (sp : Sp) : Prop where
  ex : ∃ f fd, mg x = some (.ref f) ∧ PySem.W.keepIn K (.ref f) = true ∧ FnG P w K mg base CX0 k f fd ps sp ∧ Binds K fd ps [] ∧ (∀ n, n ≤ ps.length → KwB K fd ps (ps.drop n) n) ∧ FdAt K f fd
theorem Cal.up {P : Program} {w : World} {K : PySem.W.Frag} {mg : Str → Option Value} {base : Heap} {j k : Nat} {x : Str} {ps : List Str} {sp : Sp} (c : Cal P w K mg base j x ps sp) (h : j ≤ k) : Cal P w K mg base k x ps sp := by
  obtain ⟨f, fd, a, b, c, d, e⟩ := c.ex
  exact ⟨f, fd, a, b, c.up h, d, e⟩
/-- how the arguments come to the parameters: by place, and the last ones by name -/
noncomputable def ArgsTo (st : Stmt) (x : Str) (ps : List Str) : Prop := ∀ (kV doc pm : Value) (an : Option Addr) (cdv ct : Value) (us ws : List Value), (us ++ ws).length = ps.length →
  bindArgs (PySem.W.fnOf x x (defArgs st) (defBody st) (defScope st) .none kV doc pm an cdv ct) ⟨us, (ps.drop us.length).zip ws⟩ = pure (ps.zip (us ++ ws))
section
variable {P : Program} {w : World} {K : PySem.W.Frag} {mg : Str → Option Value} {base : Heap}
theorem cal_mk {x : Str} {st : Stmt} {ps : List Str} {k : Nat} {sp : Sp} (d : DefAt K mg x st) (b : ArgsTo st x ps) (h : ∀ f fd, Fun K x x st f fd → FnG P w K mg base CX0 k f fd ps sp) : Cal P w K mg base k x ps sp := by
  obtain ⟨f, fd, F, m⟩ := d.ex
  refine ⟨f, fd, m, F.kp, h f fd F, ?_, ?_, ?_⟩
  · obtain ⟨oc, od, kV, doc, pm, an, cdv, ct, osl, rfl, lk, cd⟩ := F.ex
    refine .all fun us hl => ?_
    have z := b kV doc pm an cdv ct us [] (by rw [List.append_nil]; exact hl)
    rw [List.append_nil, List.zip_nil_right] at z
    exact z
  · obtain ⟨oc, od, kV, doc, pm, an, cdv, ct, osl, rfl, lk, cd⟩ := F.ex
    intro n hn s us ws _ h1 h2
    rw [List.length_drop] at h2
    have z := b kV doc pm an cdv ct us ws (by rw [List.length_append]; omega)
    rw [h1] at z
    exact .of_eq z
  · obtain ⟨oc, od, kV, doc, pm, an, cdv, ct, osl, rfl, lk, cd⟩ := F.ex
    exact ⟨_, _, _, lk⟩
end
section
variable {X : Cx} {j k : Nat} {sp : Sp} {x : Str} {ps : List Str} {p pos : Pos} {e : Expr} {es : List Expr} {kws : List Keyword} {t tk : TA}
/-- a builtin class as a value -/
theorem pe_ty {T : String} (hm : X.mg x = none) (hg : Gl X x := by rfl) (hv : bootBuiltins x = some (.type T) := by decide +kernel) (hn : x ≠ "__name__" := by decide) (hd : (x == ("__debug__" : Str)) = false := by decide) : PE X (.Name x pos) (tC (.ty T)) :=
  pe_bltn hg hm hv rfl hn hd
end
section
variable {P : Program} {w : World} {K : PySem.W.Frag} {mg : Str → Option Value} {base : Heap}
/-- a def that may be called, without repr -/
structure Cao (P : Program) (w : World) (K : PySem.W.Frag) (mg : Str → Option Value) (base : Heap) (k : Nat) (x : Str) (ps : List Str) (sp : Sp) : Prop where
  ex : ∃ f fd, mg x = some (.ref f) ∧ PySem.W.keepIn K (.ref f) = true ∧ FnOk P w K mg base CX0 k f fd ps sp ∧ Binds K fd ps [] ∧ (∀ n, n ≤ ps.length → KwB K fd ps (ps.drop n) n) ∧ FdAt K f fd
theorem cao_mk {x : Str} {st : Stmt} {ps : List Str} {k : Nat} {sp : Sp} (d : DefAt K mg x st) (b : ArgsTo st x ps) (h : ∀ f fd, Fun K x x st f fd → FnOk P w K mg base CX0 k f fd ps sp) : Cao P w K mg base k x ps sp := by
  obtain ⟨f, fd, F, m⟩ := d.ex
  refine ⟨f, fd, m, F.kp, h f fd F, ?_, ?_, ?_⟩
  · obtain ⟨oc, od, kV, doc, pm, an, cdv, ct, osl, rfl, lk, cd⟩ := F.ex
    refine .all fun us hl => ?_
    have z := b kV doc pm an cdv ct us [] (by rw [List.append_nil]; exact hl)
    rw [List.append_nil, List.zip_nil_right] at z
    exact z
  · obtain ⟨oc, od, kV, doc, pm, an, cdv, ct, osl, rfl, lk, cd⟩ := F.ex
    intro n hn s us ws _ h1 h2
    rw [List.length_drop] at h2
    have z := b kV doc pm an cdv ct us ws (by rw [List.length_append]; omega)
    rw [h1] at z
    exact .of_eq z
  · obtain ⟨oc, od, kV, doc, pm, an, cdv, ct, osl, rfl, lk, cd⟩ := F.ex
    exact ⟨_, _, _, lk⟩
end
section
variable {X : Cx} {j k : Nat} {sp : Sp} {x : Str} {ps : List Str} {p pos : Pos} {e : Expr} {es : List Expr} {t : TA}
theorem pe_cao (c : Cao X.prog X.w X.K X.mg X.base j x ps sp) (hr : Room k X.A) (ha : PA X (e :: es) t) (hj : j ≤ k := by first | decide | omega) (hg : Gl X x := by rfl) (hdb : (x == ("__debug__" : Str)) = false := by decide)
    (he : starEach (e :: es) X.env = (false, eval e X.env) :: starEach es X.env := by rfl) (hpl : (backTo pos (starEach es X.env)).any (·.1) = false := by rfl) : PE X (.Call (.Name x p) (e :: es) [] pos) (tCall sp [] E0 t) := by
  obtain ⟨f, fd, a, b, F, d, _⟩ := c.ex
  exact pe_call F (hr.mono hj) hg a b d .nil pass0 ha hdb he hpl
end
section
variable {P : Program} {w : World} {K : PySem.W.Frag} {mg : Str → Option Value} {base : Heap} {G : Cg}
theorem calP {x : Str} {st : Stmt} {N ps : List Str} {k : Nat} {m : MS} (d : DefAt K mg x st) (S : FnScope N ps (defScope st)) (b : ArgsTo st x ps)
    (hb : ∀ (f : Addr) (cdv : Value) (A : Around) (outer : List PySem.Env) (s : Shared) (H : Hp) (E : XK), A.guards = some [] → Room k (A.deeper (envOfC x (defScope st) s.heap.objs.size f cdv)) →
      ∃ t, PSs (bodyX CX0 P w K mg base N x st f cdv A outer s H E).nox (defBody st) t ∧ EvS G Wn t m) : Cal P w K mg base (k + 1) x ps (SpP G (fnP N ps.length m)) := cal_mk d b fun f fd F => defPG F S (hb f)
theorem caoP {x : Str} {st : Stmt} {N ps : List Str} {k : Nat} {m : MS} (d : DefAt K mg x st) (S : FnScope N ps (defScope st)) (b : ArgsTo st x ps)
    (hb : ∀ (f : Addr) (cdv : Value) (A : Around) (outer : List PySem.Env) (s : Shared) (H : Hp) (E : XK), Room k (A.deeper (envOfC x (defScope st) s.heap.objs.size f cdv)) →
      ∃ t, PSs (bodyX CX0 P w K mg base N x st f cdv A outer s H E).nox (defBody st) t ∧ EvS G Wn t m) : Cao P w K mg base (k + 1) x ps (SpP G (fnP N ps.length m)) := cao_mk d b fun f fd F => defPO F S (hb f)
theorem caoI {x : Str} {st : Stmt} {N ps : List Str} {k : Nat} {m : MS} (d : DefAt K mg x st) (S : FnScope N ps (defScope st)) (b : ArgsTo st x ps)
    (hb : ∀ (f : Addr) (cdv : Value) (A : Around) (outer : List PySem.Env) (s : Shared) (H : Hp) (E : XK), Room k (A.deeper (envOfC x (defScope st) s.heap.objs.size f cdv)) →
      ∃ t, PSs (bodyX CX0 P w K mg base N x st f cdv A outer s H E).nox (defBody st) t ∧ EvS G Wn t m) (hN : 1 ≤ N.length := by decide) : Cao P w K mg base (k + 1) x ps (SpI G (fnI N ps.length m)) := cao_mk d b fun f fd F => defIO F S hN (hb f)
end
section
variable {G : Cg} {W : Wx}
noncomputable def mYes : MT := fun ρ => .ok true ρ
theorem et_yes : EvT G W tYes mYes := fun B F H σ ρ Q g S h => h true F H (Ex.refl F) S rfl
noncomputable def mFrz (i : Nat) (m : MS) : MS := fun ρ => m (frz i ρ)
noncomputable def mRetN : MS := fun ρ => .rt .non ρ
/-- a, b = x, y -/
noncomputable def mPar (i j : Nat) (ma : MA) : MS := fun ρ => (ma ρ).then fun ds ρ1 => match ds with
  | [a, b] => .nx ((ρ1.set i (.dat a)).set j (.dat b))
  | _ => .bad
theorem es_par {ta : TA} {ma : MA} (i j : Nat) (ha : EvA G W ta ma) : EvS G W (tPar i j ta) (mPar i j ma) := fun B F H σ ρ D gg S h =>
  ha B F H σ ρ _ gg S (h.fst fun vs ds ρ1 F1 H1 e1 S1 r1 h1 => by
    split at h1
    · obtain ⟨u, v, rfl, ru, rv⟩ := r1.two
      exact ⟨u, v, rfl, h1 _ F1 H1 (Ex.refl F1) ((S1.set (gg ▸ ru)).set (gg ▸ rv))⟩
    · exact h1.elim)
end
section
variable {P : Program} {w : World} {K : PySem.W.Frag} {mg : Str → Option Value} {base : Heap} {G : Cg} {x : Str} {st : Stmt} {ps : List Str} {k : Nat}
end
end Eo
namespace Eo
open PySem L2 PySem.Spec PyProof.Rows
/-! ## the rules that speak of the written part, with that part told -/
section
variable {X : Cx} {K : PySem.W.Frag} {j k n : Nat} {a b e : Expr} {es rest : List Expr} {pos : Pos} {ta tb te : TE} {t : TA} {tg : Expr}
theorem u66 {A : Around} (hr : Room k A) : A.units + 66 < cLine := by have := hr.un; omega
theorem addK (h : X.K = K) : OpR X (binaryOp .Add) (rAddAny K) := h ▸ op_addAny
theorem eqK (h : X.K = K) (hr : Room k X.A) : OpR X (compareOp .Eq) (rEqAny K) := h ▸ op_eqX hr
theorem neK (h : X.K = K) (hr : Room k X.A) : OpR X (compareOp .NotEq) (rNeAny K) := h ▸ op_neX hr
theorem inK (h : X.K = K) (hr : Room k X.A) : OpR X (compareOp .In) (rInAny K false) := h ▸ op_inA hr
theorem ixK (h : X.K = K) : IxR X (rIx K) := h ▸ ix_seq
theorem slK (h : X.K = K) : SlR X (rSlAny K) := h ▸ sl_any
theorem piK (h : X.K = K) (he : PE X e te) : PI X tg e (iAny K te) := h ▸ pi_any he
noncomputable def rLenK (K : PySem.W.Frag) : List V → Hp → VK → Prop := fun xs H Q => ∃ x n, xs = [x] ∧ LenV K x H n ∧ Q (.int n) H
theorem lenK (h : X.K = K) : CallR X (.builtin "len") (rLenK K) := h ▸ call_len
noncomputable def rListK (K : PySem.W.Frag) : List V → Hp → VK → Prop := fun xs H Q => ∃ p ys, xs = [.ref p] ∧ (SqL K H p ys ∨ SqT K H p ys) ∧ ∀ l, H l = none → Q (.ref l) (upd H l (.lst ys))
theorem listK (h : X.K = K) : CallR X (.type "list") (rListK K) := h ▸ call_list_of
/-- the same for defs without repr -/
theorem callO {P : Program} {w : World} {mg : Str → Option Value} {base : Heap} {x : Str} {ps : List Str} {sp : Sp} {p : Pos} (c : Cao P w K mg base j x ps sp) (h : X.prog = P ∧ X.w = w ∧ X.K = K ∧ X.mg = mg ∧ X.base = base) (hr : Room k X.A) (ha : PA X (e :: es) t)
    (hj : j ≤ k := by first | decide | omega) (hg : Gl X x := by rfl) (hdb : (x == ("__debug__" : Str)) = false := by decide)
    (he : starEach (e :: es) X.env = (false, eval e X.env) :: starEach es X.env := by rfl) (hpl : (backTo pos (starEach es X.env)).any (·.1) = false := by rfl) : PE X (.Call (.Name x p) (e :: es) [] pos) (tCall sp [] E0 t) := by
  obtain ⟨rfl, rfl, rfl, rfl, rfl⟩ := h
  exact pe_cao c hr ha hj hg hdb he hpl
/-- a method of a list that is one's own -/
theorem bmK {r : V → List V → Hp → VK → Prop} {m : Str} {apos : Pos} {o : Expr} {to : TE} (h : X.K = K) (hb : PE X (.Call (.Attribute o m apos) es [] pos) (tBM X.K "list" r to t)) : PE X (.Call (.Attribute o m apos) es [] pos) (tBM K "list" r to t) := h ▸ hb
end
end Eo
namespace Eo
open PySem L2 PySem.Spec PyProof.Rows
/-! ## t[::-1] of a tuple -/
section
variable {prog : Program} {w : World} {A : Around} {E : Value → Shared → Prop} {s : Shared}
end
section
variable {G : Cg} {W : Wx}
end
/-! ## sorted of texts -/
section
variable {G : Cg} {W : Wx}
/-! ## str of a list, a tuple, a dict -/
end
end Eo
namespace Eo
open PySem L2
/-! ## reckoning with mirrors -/
end Eo
namespace Eo
open PySem L2
/-! ## how long a shown text is -/
/-- all signs are small -/
noncomputable def Low (z : Str) : Prop := ∀ c ∈ z.cps.toList, c < 16 ^ 8
theorem low_app {a b : Str} (ha : Low a) (hb : Low b) : Low (a ++ b) := fun c hc => by
  have e : (a ++ b).cps.toList = a.cps.toList ++ b.cps.toList := by
    show (a.cps ++ b.cps).toList = _
    simp
  rw [e, List.mem_append] at hc
  exact hc.elim (ha c) (hb c)
theorem low_of (s : String) : Low (Str.ofString s) := fun c hc => by
  rw [Str.ofString_eq_toList] at hc
  obtain ⟨k, _, rfl⟩ := List.mem_map.mp hc
  exact k.val.toNat_lt
theorem low_char {q c : Nat} (hq : q < 16 ^ 8) (hc : c < 16 ^ 8) : ∀ x ∈ Builtin.Str.reprChar q c, x < 16 ^ 8 := by
  have hex : ∀ w, ∀ x ∈ List.replicate (w - ((Nat.toDigits 16 c).map Char.toNat).length) 48 ++ (Nat.toDigits 16 c).map Char.toNat, x < 16 ^ 8 := fun w x hx => by
    rw [List.mem_append] at hx
    rcases hx with hx | hx
    · rw [(List.mem_replicate.mp hx).2]; decide
    · obtain ⟨k, _, rfl⟩ := List.mem_map.mp hx
      exact k.val.toNat_lt
  intro x hx
  unfold Builtin.Str.reprChar at hx
  dsimp only at hx
  have two : ∀ a b : Nat, a < 16 ^ 8 → b < 16 ^ 8 → x ∈ [a, b] → x < 16 ^ 8 := fun a b h1 h2 h => by
    simp only [List.mem_cons, List.not_mem_nil, or_false] at h
    rcases h with rfl | rfl <;> assumption
  repeat' split at hx
  · exact two _ _ (by decide) hc hx
  · exact two _ _ (by decide) (by decide) hx
  · exact two _ _ (by decide) (by decide) hx
  · exact two _ _ (by decide) (by decide) hx
  · simp only [List.mem_cons, List.not_mem_nil, or_false] at hx; subst hx; exact hc
  all_goals (rcases List.mem_append.mp hx with h | h <;> first | exact two _ _ (by decide) (by decide) h | exact hex _ x h)
theorem low_fold {q : Nat} (hq : q < 16 ^ 8) : ∀ (l : List Nat) (acc : Array Nat), (∀ c ∈ l, c < 16 ^ 8) → (∀ c ∈ acc.toList, c < 16 ^ 8) → ∀ c ∈ (l.foldl (fun out c => out ++ (Builtin.Str.reprChar q c).toArray) acc).toList, c < 16 ^ 8
  | [], acc, _, h => h
  | k :: l, acc, h1, h2 => by
    rw [List.foldl_cons]
    refine low_fold hq l _ (fun c hc => h1 c (List.mem_cons_of_mem _ hc)) fun c hc => ?_
    rw [Array.toList_append, List.mem_append] at hc
    exact hc.elim (h2 c) (low_char hq (h1 k (List.mem_cons_self ..)) c)
theorem low_repr {x : Str} (h : Low x) : Low (reprText x) := fun c hc => by
  have hq : reprQuote x < 16 ^ 8 := by unfold reprQuote; split <;> decide
  have e : (reprText x).cps.toList = (x.cps.toList.foldl (fun out c => out ++ (Builtin.Str.reprChar (reprQuote x) c).toArray) #[reprQuote x]).toList ++ [reprQuote x] := by
    unfold reprText
    rw [Array.toList_push, ← Array.foldl_toList]
  rw [e, List.mem_append] at hc
  rcases hc with hc | hc
  · refine low_fold hq _ _ h (fun c hc => ?_) c hc
    simp only [List.mem_cons, List.not_mem_nil, or_false] at hc
    subst hc; exact hq
  · simp only [List.mem_cons, List.not_mem_nil, or_false] at hc
    subst hc; exact hq
theorem low_join {s : Str} (hs : Low s) : ∀ ts : List Str, (∀ t ∈ ts, Low t) → Low (Str.join s ts)
  | [], _ => fun c hc => by cases hc
  | [x], h => h x (List.mem_cons_self ..)
  | x :: y :: r, h => by
    show Low (x ++ s ++ Str.join s (y :: r))
    exact low_app (low_app (h x (List.mem_cons_self ..)) hs) (low_join hs (y :: r) fun t ht => h t (List.mem_cons_of_mem _ ht))
theorem low_from : ∀ (ts : List Str) (k : Nat) (acc : Str), Low acc → (∀ t ∈ ts, Low t) → Low (textFrom k acc ts)
  | [], k, acc, h, _ => h
  | t :: ts, k, acc, h, h' => low_from ts (k + 1) _ (low_app (low_app h (by split <;> exact low_of _)) (h' t (List.mem_cons_self ..))) fun x hx => h' x (List.mem_cons_of_mem _ hx)
mutual
theorem low_shown {B : Nat} : ∀ p : PyData, p.leavesShort B = true → Low p.shown
  | .none, _ => low_of _
  | .bool b, _ => by cases b <;> exact low_of _
  | .int i, _ => low_of _
  | .str x, h => by
    have hx : Low x := by
      intro c hc
      simp only [PyData.leavesShort, List.all_eq_true, decide_eq_true_eq] at h
      exact h c hc
    simp only [PyData.shown]
    exact low_repr hx
  | .list xs, h => by
    simp only [PyData.shown]
    exact low_app (low_from _ _ _ (low_of _) (low_shownAll xs (by simpa only [PyData.leavesShort] using h))) (low_of _)
  | .tuple xs, h => by
    simp only [PyData.shown]
    unfold tupleText
    exact low_app (low_app (low_of _) (low_join (low_of _) _ (low_shownAll xs (by simpa only [PyData.leavesShort] using h)))) (by split <;> exact low_of _)
  | .dict xs, h => by
    simp only [PyData.shown]
    exact low_app (low_app (low_of _) (low_join (low_of _) _ (low_shownKv xs (by simpa only [PyData.leavesShort] using h)))) (low_of _)
theorem low_shownAll {B : Nat} : ∀ ps : List PyData, PyData.leavesShortAll B ps = true → ∀ t ∈ PyData.shownAll ps, Low t
  | [], _, t, ht => by simp [PyData.shownAll] at ht
  | p :: ps, h, t, ht => by
    simp only [PyData.leavesShortAll, Bool.and_eq_true] at h
    simp only [PyData.shownAll, List.mem_cons] at ht
    rcases ht with rfl | ht
    · exact low_shown p h.1
    · exact low_shownAll ps h.2 t ht
theorem low_shownKv {B : Nat} : ∀ ps : List (PyData × PyData), PyData.leavesShortKv B ps = true → ∀ t ∈ PyData.shownKv ps, Low t
  | [], _, t, ht => by simp [PyData.shownKv] at ht
  | (k, p) :: ps, h, t, ht => by
    simp only [PyData.leavesShortKv, Bool.and_eq_true] at h
    simp only [PyData.shownKv, List.mem_cons] at ht
    rcases ht with rfl | ht
    · exact low_app (low_app (low_shown k h.1.1) (low_of _)) (low_shown p h.1.2)
    · exact low_shownKv ps h.2 t ht
end
/-- data that can be shown: how deep, how great -/
noncomputable def Shw (B n b : Nat) (d : D) : Prop := ∃ p, toPyd d = some p ∧ p.showable = true ∧ p.depth ≤ n ∧ p.leavesShort B = true ∧ p.bulk ≤ b
theorem Shw.mono {B n n' b b' : Nat} {d : D} (h : Shw B n b d) (h1 : n ≤ n') (h2 : b ≤ b') : Shw B n' b' d := by
  obtain ⟨p, q1, q2, q3, q4, q5⟩ := h
  exact ⟨p, q1, q2, by omega, q4, by omega⟩
theorem Shw.shown {B n b : Nat} {d : D} (h : Shw B n b d) (hB : 8 ≤ B) (hn : n ≤ 64) (hb : (B + 2) * b + B ≤ sizeLine) : ∃ z, shownD d = some z ∧ z.length ≤ (B + 2) * b + B ∧ Low z := by
  obtain ⟨p, q1, q2, q3, q4, q5⟩ := h
  have h1 := PyData.shown_le_bulk B hB p q4
  have h2 : (B + 2) * p.bulk ≤ (B + 2) * b := Nat.mul_le_mul_left _ q5
  have h3 : p.depth ≤ 64 := by omega
  have h4 : p.shown.length ≤ sizeLine := by omega
  refine ⟨p.shown, ?_, by omega, low_shown p q4⟩
  unfold shownD
  rw [q1, Option.bind_some, if_pos (by rw [q2, decide_eq_true h3, decide_eq_true h4]; rfl)]
theorem shw_all {B n b : Nat} : ∀ ds : List D, (∀ d ∈ ds, Shw B n b d) → ∃ ps, toPyds ds = some ps ∧ PyData.showableAll ps = true ∧ PyData.depthAll ps ≤ n ∧ PyData.leavesShortAll B ps = true ∧ PyData.bulkAll ps ≤ ds.length * (b + 1)
  | [], _ => ⟨[], rfl, rfl, Nat.zero_le _, rfl, Nat.zero_le _⟩
  | d :: ds, h => by
    obtain ⟨p, q1, q2, q3, q4, q5⟩ := h d (List.mem_cons_self ..)
    obtain ⟨ps, r1, r2, r3, r4, r5⟩ := shw_all ds fun x hx => h x (List.mem_cons_of_mem _ hx)
    refine ⟨p :: ps, by simp only [toPyds, q1, r1], by simp only [PyData.showableAll, q2, r2, Bool.and_self], ?_, by simp only [PyData.leavesShortAll, q4, r4, Bool.and_self], ?_⟩
    · simp only [PyData.depthAll]; omega
    · simp only [PyData.bulkAll, List.length_cons, Nat.add_mul, Nat.one_mul]; omega
theorem Shw.tup {B n b : Nat} {ds : List D} (h : ∀ d ∈ ds, Shw B n b d) : Shw B (n + 1) (ds.length * (b + 1)) (.tup ds) := by
  obtain ⟨ps, r1, r2, r3, r4, r5⟩ := shw_all ds h
  exact ⟨.tuple ps, by simp only [toPyd, r1, Option.map_some], by simpa only [PyData.showable] using r2, by simp only [PyData.depth]; omega, by simpa only [PyData.leavesShort] using r4, by simpa only [PyData.bulk] using r5⟩
theorem Shw.lst {B n b : Nat} {ds : List D} (h : ∀ d ∈ ds, Shw B n b d) : Shw B (n + 1) (ds.length * (b + 1)) (.lst ds) := by
  obtain ⟨ps, r1, r2, r3, r4, r5⟩ := shw_all ds h
  exact ⟨.list ps, by simp only [toPyd, r1, Option.map_some], by simpa only [PyData.showable] using r2, by simp only [PyData.depth]; omega, by simpa only [PyData.leavesShort] using r4, by simpa only [PyData.bulk] using r5⟩
theorem Shw.str {B : Nat} {x : Str} (h : Low x) : Shw B 0 x.length (.str x) :=
  ⟨.str x, rfl, rfl, Nat.le_refl _, by simp only [PyData.leavesShort, List.all_eq_true, decide_eq_true_eq]; exact h, Nat.le_refl _⟩
theorem Shw.int {B : Nat} {i : Int} (h : i.natAbs.log2 < 1920) (h' : (PyData.shown (.int i)).length ≤ B) : Shw B 0 0 (.int i) :=
  ⟨.int i, rfl, by simpa only [PyData.showable, decide_eq_true_eq] using h, Nat.le_refl _, by simpa only [PyData.leavesShort, decide_eq_true_eq] using h', Nat.le_refl _⟩
theorem Shw.bl {B : Nat} (c : Bool) : Shw B 0 0 (.bl c) := ⟨.bool c, rfl, rfl, Nat.le_refl _, rfl, Nat.le_refl _⟩
theorem Shw.non {B : Nat} : Shw B 0 0 .non := ⟨.none, rfl, rfl, Nat.le_refl _, rfl, Nat.le_refl _⟩
/-! ## the end -/
theorem Cal.law {P : Program} {w : World} {K : PySem.W.Frag} {mg : Str → Option Value} {base : Heap} {k : Nat} {x p : Str} {sp : Sp} {fa : Addr} (c : Cal P w K mg base k x [p] sp) (h : mg x = some (.ref fa)) :
    ∃ fd : FuncData, (∀ (s : Shared) (u : Value), K.In s.heap → BindsTo s fd ⟨[u], []⟩ [(p, u)]) ∧ FnG P w K mg base CX0 k fa fd [p] sp := by
  obtain ⟨f, fd, a, _, F, b, _⟩ := c.ex
  rw [h] at a
  cases a
  exact ⟨fd, fun s u hk => b s [u] hk rfl, F⟩
/-- the law's promise at its one argument -/
theorem tabs_nil {T : List (Addr × Str)} {H : Hp} (h : T = []) : LamX.Tabs T H := fun p hp => by rw [h] at hp; cases hp
theorem law_sp {f : List D → Option AV} {G : Cg} {H : Hp} {a : Addr} {ns : List Int} {E : XK} (hf : f [.scr ns] = some (.dat (.bl true))) (h : SqL G.K H a (ns.map V.int)) (ht : LamX.Tabs G.tb H := by exact tabs_nil rfl) : SpP G f [.ref a] H (fun v _ => v = .bl true) E :=
  ⟨H, [.scr ns], _, Ex.refl H, ht, .cons (.scr h) .nil, hf, fun v F' H' _ _ _ _ r => Rp.bl_inv (G := G) r⟩
end Eo
namespace Eo
open PySem L2 PySem.Spec PyProof.Rows
/-! ## f(**d): the dict's entries become keywords -/
section
variable {prog : Program} {w : World} {A : Around} {E : Value → Shared → Prop} {s : Shared}
end
end Eo
namespace Eo
open PySem L2 PySem.Spec PyProof.Rows
section
variable {prog : Program} {w : World} {A : Around} {E : Value → Shared → Prop} {s : Shared}
end
end Eo
namespace Eo
open PySem L2 PySem.Spec PyProof.Rows StX
section
variable {P : Program} {w : World} {K : PySem.W.Frag} {mg : Str → Option Value} {base : Heap} {A : Around} {outer : List PySem.Env} {s : Shared} {H : Hp}
end
/-- keywords' values and what they stand for -/
noncomputable def KwRel (kvs : List (Str × V)) (kw : List (Str × Value)) : Prop := Paired (fun (p : Str × V) (q : Str × Value) => p.1 = q.1 ∧ RelV p.2 q.2) kvs kw
noncomputable def kwK (kvs : List (Str × V)) : List (Key × V) := kvs.map fun x => (.inr x.1, x.2)
theorem KwRel.keys {kvs : List (Str × V)} {kw : List (Str × Value)} (h : KwRel kvs kw) : kw.map (·.1) = kvs.map (·.1) := by
  induction h with
  | nil => rfl
  | cons a _ ih => rw [List.map_cons, List.map_cons, ih, a.1]
theorem KwRel.kv {kvs : List (Str × V)} {kw : List (Str × Value)} (h : KwRel kvs kw) : KV (kwK kvs) (kw.map fun x => ((Sum.inr x.1 : Key), x.2)) := by
  induction h with
  | nil => exact .nil
  | cons a _ ih => exact .cons ⟨congrArg Sum.inr a.1, a.2⟩ ih
/-- a def f(p, **k), called with one value and keywords -/
noncomputable def FnKw (P : Program) (w : World) (K : PySem.W.Frag) (mg : Str → Option Value) (base : Heap) (CX : CXT) (k : Nat) (f : Addr) (p1 : Str) (sp : Sp) : Prop :=
  ∀ (A : Around) (outer : List PySem.Env) (s : Shared) (H : Hp) (u : Value) (v : V) (kw : List (Str × Value)) (kvs : List (Str × V)) (Q : VK) (E : XK), Room k A → Env0 P w K mg base A outer s H → RelV v u → KwRel kvs kw → (kvs.map (·.1)).Nodup → p1 ∉ kvs.map (·.1) → kvs.length ≤ sizeLine →
    (∀ q, H q = none → sp [v, .ref q] (upd H q (.dK (kwK kvs))) Q E) → codeAny (model P w) A (.call (.ref f) ⟨[u], kw⟩) (CR CX outer P w H s Q E) s
section
variable {CX : CXT} {P : Program} {w : World} {K : PySem.W.Frag} {mg : Str → Option Value} {base : Heap} {k : Nat} {f : Addr} {name qual : Str} {params : Arguments} {body : List Stmt} {scope : Scope} {dV kV doc pm cdv ct oc : Value} {an od : Option Addr}
  {osl : Array (Option Value)} {N : List Str} {sp : Sp} {p1 pk : Str}
end
end Eo
namespace Eo
open PySem L2 PySem.Spec PyProof.Rows StX
section
variable {X : Cx} {CX : CXT} {k : Nat} {f C : Addr} {sp : Sp} {E : XK} {x p1 : Str} {e : Expr} {te : TE} {p pos kpos : Pos}
end
end Eo
namespace Eo
open PySem L2 PySem.Spec PyProof.Rows StX
/-! ## dicts read -/
noncomputable def valD (kvs : List (Key × D)) (k : Key) : Option D := getK kvs k
section
variable {G : Cg} {W : Wx}
theorem Rpk.val {F : Hp} {k : Key} : ∀ {vs : List (Key × V)} {ds : List (Key × D)}, Rpk G F vs ds → (valD ds k = none ∧ valV vs k = none) ∨ ∃ v d, valD ds k = some d ∧ valV vs k = some v ∧ Rp G F v d
  | _, _, .nil => .inl ⟨rfl, rfl⟩
  | _, _, .cons (k := j) (v := v) (d := d) r t => by
    rw [valV_getK]
    unfold valD getK
    by_cases e : j = k
    · simp only [e, if_true]; exact .inr ⟨v, d, rfl, rfl, r⟩
    · simp only [e, if_false]
      have h := Rpk.val (k := k) t
      rw [valV_getK] at h
      exact h
theorem Rpk.length {F : Hp} : ∀ {vs : List (Key × V)} {ds : List (Key × D)}, Rpk G F vs ds → vs.length = ds.length
  | _, _, .nil => rfl
  | _, _, .cons _ t => congrArg (· + 1) (Rpk.length t)
theorem RpF.key {F H : Hp} {v : V} {d : D} {k : Key} (h : RpF G F H v d) (hk : keyD d = some k) : v = kV k := by
  rcases h with h | ⟨_, _, _, _, _, _, rfl⟩ | ⟨_, _, _, _, _, _, rfl⟩
  · exact h.key hk
  · cases hk
  · cases hk
/-- d.get(k, e) -/
noncomputable def mDGet2 (me mk mx : ME) : ME := fun ρ => (me ρ).bind fun a ρ1 => match a with
  | .dct kvs => (mk ρ1).bind fun b ρ2 => match keyD b with
    | some k => (mx ρ2).bind fun x ρ3 => .ok ((valD kvs k).getD x) ρ3
    | none => .bad
  | _ => .bad
end
end Eo
namespace Eo
open PySem L2 PySem.Spec PyProof.Rows StX
/-! ## a dict is locked, or no longer -/
noncomputable def Sw (F F' : Hp) : Prop := ∀ a, F' a = F a ∨ (∃ kvs o, F a = some (.dK kvs) ∧ F' a = some (.frz o (.dK kvs))) ∨ ∃ kvs o, F a = some (.frz o (.dK kvs)) ∧ F' a = some (.dK kvs)
section
variable {F F' : Hp}
theorem Sw.keep (w : Sw F F') {a : Addr} {u : HO} (h : F a = some u) (h1 : ∀ kvs, u ≠ .dK kvs) (h2 : ∀ o kvs, u ≠ .frz o (.dK kvs)) : F' a = some u := by
  rcases w a with e | ⟨kvs, o, e, _⟩ | ⟨kvs, o, e, _⟩
  · rw [e]; exact h
  · rw [h] at e; exact absurd (Option.some.inj e) (h1 kvs)
  · rw [h] at e; exact absurd (Option.some.inj e) (h2 o kvs)
theorem Sw.dict (w : Sw F F') {a : Addr} {kvs : List (Key × V)} (h : Rd F a (.dK kvs)) : Rd F' a (.dK kvs) := by
  rcases w a with e | ⟨kvs', o, e1, e2⟩ | ⟨kvs', o, e1, e2⟩
  · unfold Rd; rw [e]; exact h
  · rcases h with h | ⟨o', h⟩
    · rw [h] at e1; cases e1; exact .inr ⟨o, e2⟩
    · rw [h] at e1; cases e1
  · rcases h with h | ⟨o', h⟩
    · rw [h] at e1; cases e1
    · rw [h] at e1; cases e1; exact .inl e2
theorem Sw.rd (w : Sw F F') {a : Addr} {u : HO} (h : Rd F a u) (h1 : ∀ kvs, u ≠ .dK kvs) (h2 : ∀ o kvs, u ≠ .frz o (.dK kvs)) : Rd F' a u := by
  rcases h with h | ⟨o, h⟩
  · exact .inl (w.keep h h1 h2)
  · exact .inr ⟨o, w.keep h (fun kvs z => nomatch z) fun o' kvs z => by cases z; exact h1 kvs rfl⟩
theorem Sw.sqT (w : Sw F F') {K : PySem.W.Frag} {a : Addr} {xs : List V} (h : SqT K F a xs) : SqT K F' a xs := by
  rcases h with h | h
  · exact .inl (w.rd h (fun _ z => nomatch z) fun _ _ z => nomatch z)
  · exact .inr h
theorem Sw.sqL (w : Sw F F') {K : PySem.W.Frag} {a : Addr} {xs : List V} (h : SqL K F a xs) : SqL K F' a xs := by
  rcases h with h | h
  · exact .inl (w.rd h (fun _ z => nomatch z) fun _ _ z => nomatch z)
  · exact .inr h
theorem OC.sw {G : Cg} (w : Sw F F') {c : Str} {C : Addr} {fs : List (Str × V)} (h : OC G F c C fs) : OC G F' c C fs := ⟨h.1, fun f v p q => by
  obtain ⟨a, o, vs, its, n, h1, h2, r⟩ := h.2 f v p q
  exact ⟨a, o, vs, its, n, h1, w.keep h2 (fun _ z => nomatch z) fun _ _ z => (by cases z), r⟩⟩
mutual
theorem Rp.sw {G : Cg} {F F' : Hp} (w : Sw F F') : ∀ {v : V} {d : D}, Rp G F v d → Rp G F' v d
  | _, _, .non => .non
  | _, _, .bl b => .bl b
  | _, _, .int i => .int i
  | _, _, .str x => .str x
  | _, _, .lst h r => .lst (w.keep h (fun _ z => nomatch z) fun _ _ z => nomatch z) (Rps.sw w r)
  | _, _, .tup h r => .tup (w.sqT h) (Rps.sw w r)
  | _, _, .dct h r => .dct (w.dict h) (Rpk.sw w r)
  | _, _, .obj h c r => .obj (w.keep h (fun _ z => nomatch z) fun _ _ z => nomatch z) (c.sw w) (Rpf.sw w r)
  | _, _, .scr h => .scr (w.sqL h)
  | _, _, .cls h => .cls h
  | _, _, .exc h h' c r => .exc (w.keep h (fun _ z => nomatch z) fun _ _ z => nomatch z) (w.keep h' (fun _ z => nomatch z) fun _ _ z => nomatch z) c (Rpf.sw w r)
theorem Rps.sw {G : Cg} {F F' : Hp} (w : Sw F F') : ∀ {v : List V} {d : List D}, Rps G F v d → Rps G F' v d
  | _, _, .nil => .nil
  | _, _, .cons h r => .cons (Rp.sw w h) (Rps.sw w r)
theorem Rpk.sw {G : Cg} {F F' : Hp} (w : Sw F F') : ∀ {v : List (Key × V)} {d : List (Key × D)}, Rpk G F v d → Rpk G F' v d
  | _, _, .nil => .nil
  | _, _, .cons h r => .cons (Rp.sw w h) (Rpk.sw w r)
theorem Rpf.sw {G : Cg} {F F' : Hp} (w : Sw F F') : ∀ {v : List (Str × V)} {d : List (Str × D)}, Rpf G F v d → Rpf G F' v d
  | _, _, .nil => .nil
  | _, _, .cons h r => .cons (Rp.sw w h) (Rpf.sw w r)
end
mutual
theorem Own.sw {G : Cg} {F F' H H' : Hp} (w : Sw F F') : ∀ {v : V} {t : OT} {A : List Addr}, Own G F H v t A → (∀ a ∈ A, H' a = H a) → Own G F' H' v t A
  | _, _, _, .leaf r, _ => .leaf (r.sw w)
  | _, _, _, .lst h r, q => .lst (by rw [q _ (List.mem_cons_self ..)]; exact h) (Owns.sw w r fun a m => q a (List.mem_cons_of_mem _ m))
  | _, _, _, .dct h r, q => .dct (by rw [q _ (List.mem_cons_self ..)]; exact h) (Ownk.sw w r fun a m => q a (List.mem_cons_of_mem _ m))
  | _, _, _, .obj h c r, q => .obj (by rw [q _ (List.mem_cons_self ..)]; exact h) (c.sw w) (Ownf.sw w r fun a m => q a (List.mem_cons_of_mem _ m))
theorem Owns.sw {G : Cg} {F F' H H' : Hp} (w : Sw F F') : ∀ {v : List V} {t : List OT} {A : List Addr}, Owns G F H v t A → (∀ a ∈ A, H' a = H a) → Owns G F' H' v t A
  | _, _, _, .nil, _ => .nil
  | _, _, _, .cons h r, q => .cons (Own.sw w h fun a m => q a (List.mem_append_left _ m)) (Owns.sw w r fun a m => q a (List.mem_append_right _ m))
theorem Ownk.sw {G : Cg} {F F' H H' : Hp} (w : Sw F F') : ∀ {v : List (Key × V)} {t : List (Key × OT)} {A : List Addr}, Ownk G F H v t A → (∀ a ∈ A, H' a = H a) → Ownk G F' H' v t A
  | _, _, _, .nil, _ => .nil
  | _, _, _, .cons h r, q => .cons (Own.sw w h fun a m => q a (List.mem_append_left _ m)) (Ownk.sw w r fun a m => q a (List.mem_append_right _ m))
theorem Ownf.sw {G : Cg} {F F' H H' : Hp} (w : Sw F F') : ∀ {v : List (Str × V)} {t : List (Str × OT)} {A : List Addr}, Ownf G F H v t A → (∀ a ∈ A, H' a = H a) → Ownf G F' H' v t A
  | _, _, _, .nil, _ => .nil
  | _, _, _, .cons h r, q => .cons (Own.sw w h fun a m => q a (List.mem_append_left _ m)) (Ownf.sw w r fun a m => q a (List.mem_append_right _ m))
end
/-- at d another thing, if there is one -/
noncomputable def swp (F : Hp) (d : Addr) (u : HO) : Hp := fun a => if a = d then (match F a with | some _ => some u | none => none) else F a
end
noncomputable def Bg.sw (B : Bg) (d : Addr) (u : HO) : Bg := { B with F0 := swp B.F0 d u, H0 := swp B.H0 d u }
end Eo
namespace Eo
open PySem L2 PySem.Spec PyProof.Rows StX
/-! ## walks over dicts that a slot holds -/
theorem Rpk.get {G : Cg} {F : Hp} : ∀ {vs : List (Key × V)} {ds : List (Key × D)} {i : Nat} {k : Key} {d : D}, Rpk G F vs ds → ds[i]? = some (k, d) → ∃ v, vs[i]? = some (k, v) ∧ Rp G F v d
  | _, _, _, _, _, .nil, e => by simp at e
  | _, _, 0, _, _, .cons r _, e => by
    simp only [List.getElem?_cons_zero, Option.some.injEq, Prod.mk.injEq] at e
    obtain ⟨rfl, rfl⟩ := e
    exact ⟨_, rfl, r⟩
  | _, _, i + 1, k, d, .cons _ t, e => by
    obtain ⟨u, h1, h2⟩ := Rpk.get (i := i) (k := k) (d := d) t (by simpa using e)
    exact ⟨u, by simpa using h1, h2⟩
section
variable {G : Cg} {W : Wx}
/-- a kind of walk over a locked dict -/
structure DWalk (wi : TE → TI) (f : List (Key × D) → List D) : Prop where
  it : ∀ {G : Cg} {F H : Hp} {σ : L2.St} {te : TE} {d : Addr} {o : Obj} {vs : List (Key × V)} {ds : List (Key × D)} {R : It → Hp → Prop}, F d = some (.frz o (.dK vs)) → Ex F H → Rpk G F vs ds →
    (∀ (Q : VK), Q (.ref d) H → te σ H Q) → (∀ J, Walks G J F (f ds) → R J H) → wi te σ H R
end
end Eo
namespace Eo
open PySem L2 PySem.Spec PyProof.Rows StX
/-! ## __init__ with a star or two, and what makes objects by it -/
section
variable {P : Program} {w : World} {K : PySem.W.Frag} {mg : Str → Option Value} {base : Heap}
end
section
variable {X : Cx} {CX : CXT} {k : Nat} {f C : Addr} {sp : Sp} {E : XK} {x p1 : Str} {e : Expr} {te : TE} {p pos spos : Pos}
end
section
variable {G : Cg} {W : Wx}
end
end Eo
namespace Eo
open PySem L2 PySem.Spec PyProof.Rows StX
/-! ## plain tuples; dict(..) of pairs -/
section
variable {X : Cx}
end
/-! ### told on data -/
section
variable {G : Cg} {W : Wx}
noncomputable abbrev RT (G : Cg) : Rl V D := fun _ F _ v d => Rp G F v d ∧ PlT G.K F v
noncomputable abbrev EvT1 (G : Cg) (W : Wx) (t : TE) (m : ME) : Prop := Ev G W (RT G) t m
/-- a plain tuple is a tuple -/
theorem EvT1.e {t : TE} {m : ME} (h : EvT1 G W t m) : EvE G W t m := fun B F H σ ρ Q g S q => h B F H σ ρ Q g S (by
  cases e : m ρ with
  | ok d ρ1 => rw [e] at q; exact fun v F' H' x S' r => q v F' H' x S' r.1
  | err c fs ρ1 => rw [e] at q; exact q
  | bad => rw [e] at q; exact q)
/-! dict(..) -/
noncomputable def putKD (kvs : List (Key × D)) (k : Key) (v : D) : List (Key × D) :=
  if (kvs.any fun kv => decide (kv.1 = k)) = true then kvs.map (fun kv => if kv.1 = k then (kv.1, v) else kv) else kvs ++ [(k, v)]
theorem Rpk.any {F : Hp} {k : Key} : ∀ {vs : List (Key × V)} {ds : List (Key × D)}, Rpk G F vs ds → (vs.any fun kv => decide (kv.1 = k)) = ds.any fun kv => decide (kv.1 = k)
  | _, _, .nil => rfl
  | _, _, .cons _ t => by simp only [List.any_cons, Rpk.any t]
theorem Rpk.setAt {F : Hp} {k : Key} {v : V} {d : D} (h : Rp G F v d) : ∀ {vs : List (Key × V)} {ds : List (Key × D)}, Rpk G F vs ds → Rpk G F (vs.map fun kv => if kv.1 = k then (kv.1, v) else kv) (ds.map fun kv => if kv.1 = k then (kv.1, d) else kv)
  | _, _, .nil => .nil
  | _, _, .cons (k := j) r t => by
    simp only [List.map_cons]
    by_cases e : j = k
    · simp only [e, if_true]; exact .cons h (Rpk.setAt h t)
    · simp only [e, if_false]; exact .cons r (Rpk.setAt h t)
theorem Rpk.snoc {F : Hp} {k : Key} {v : V} {d : D} (h : Rp G F v d) : ∀ {vs : List (Key × V)} {ds : List (Key × D)}, Rpk G F vs ds → Rpk G F (vs ++ [(k, v)]) (ds ++ [(k, d)])
  | _, _, .nil => .cons h .nil
  | _, _, .cons r t => .cons r (Rpk.snoc h t)
theorem Rpk.put {F : Hp} {k : Key} {v : V} {d : D} (h : Rp G F v d) {vs : List (Key × V)} {ds : List (Key × D)} (r : Rpk G F vs ds) : Rpk G F (putK vs k v) (putKD ds k d) := by
  unfold putK putKD
  rw [r.any]
  split
  · exact r.setAt h
  · exact r.snoc h
noncomputable def leafK : List (Key × D) → List (Key × OT)
  | [] => []
  | (k, d) :: r => (k, .leaf d) :: leafK r
theorem Rpk.own {F H : Hp} : ∀ {vs : List (Key × V)} {ds : List (Key × D)}, Rpk G F vs ds → Ownk G F H vs (leafK ds) []
  | _, _, .nil => .nil
  | _, _, .cons r t => .cons (A := []) (A' := []) (.leaf r) (Rpk.own t)
theorem FitW.fst1 {α β : Type} {B : Bg} {rel : Rl β α} {σ : L2.St} {F : Hp} {Q : V → Hp → Prop} {Q1 : β → Hp → Prop} {k : α → Env → R OT} :
    ∀ {r : R α}, FitW B W σ F Q (r.bind k) → (∀ v a ρ' F' H', Ex F F' → Sta B F' H' σ ρ' → rel σ F' H' v a → FitW B W σ F' Q (k a ρ') → Q1 v H') → Fits B W rel σ F Q1 r
  | .ok a ρ', h, q => fun v F' H' e S r => q v a ρ' F' H' e S r (by
    have h' : FitW B W σ F Q (k a ρ') := h
    cases ek : k a ρ' with
    | ok t ρ2 => rw [ek] at h'; exact fun v F2 H2 A X x => h' v F2 H2 A X (e.trans x)
    | err c fs ρ2 => rw [ek] at h'; exact Errs.mono e h'
    | bad => rw [ek] at h'; exact h')
  | .err _ _ _, h, _ => h
  | .bad, h, _ => h
end
end Eo
namespace Eo
open PySem L2 PySem.Spec PyProof.Rows StX
/-! ## the special methods of one's own classes -/
section
variable {X : Cx} {CX : CXT} {k : Nat} {C f : Addr} {fd : FuncData} {ps : List Str} {sp : Sp} {E : XK} {a b : Expr} {ta tb : TE} {pos : Pos}
end
end Eo
namespace Eo
open PySem L2 PySem.Spec PyProof.Rows StX
section
variable {G : Cg} {W : Wx}
/-! own special methods -/
/-! classmethods -/
noncomputable def mCM (c : Str) (g : List D → Option AV) (me : ME) (ma : MA) : ME := fun ρ => (me ρ).bind fun d ρ1 => match d with
  | .cls c' => if c' = c then (ma ρ1).bind fun ds ρ2 => match g (.cls c :: ds) with
    | some (.dat r) => .ok r ρ2
    | _ => .bad else .bad
  | _ => .bad
/-! list(d) -/
end
end Eo
namespace Eo
open PySem L2 PySem.Spec PyProof.Rows StX
section
variable {G : Cg} {W : Wx}
/-- y = a place of x; x is not looked at again -/
noncomputable def mTakeP (j i : Nat) (mp : MP) : MS := fun ρ => (mp ρ).then fun p ρ1 => match ρ1[i]?, subE i p ρ1 with
  | some (.own _), some t => .nx ((ρ1.set i .emp).set j (.own t))
  | _, _ => .bad
/-- x.append([..]): the new list is one's own -/
noncomputable def leafs : List D → List OT
  | [] => []
  | d :: r => .leaf d :: leafs r
theorem Rps.own {F H : Hp} : ∀ {vs : List V} {ds : List D}, Rps G F vs ds → Owns G F H vs (leafs ds) []
  | _, _, .nil => .nil
  | _, _, .cons r t => .cons (A := []) (A' := []) (.leaf r) (Rps.own t)
noncomputable def mAppL (i : Nat) (mp : MP) (ma : MA) : MS := fun ρ => (mp ρ).then fun p ρ1 => match subE i p ρ1 with
  | some (.lst _) => (mLk i ma ρ1).then fun ds ρ2 => match subE i p ρ2 with
    | some (.lst ts) => if mutE i ρ2 = true ∧ ts.length < sizeLine ∧ ds.length ≤ sizeLine then .nx (putE i p (.lst (ts ++ [.lst (leafs ds)])) ρ2) else .bad
    | _ => .bad
  | _ => .bad
end
end Eo
namespace Eo
open PySem L2 PySem.Spec PyProof.Rows StX
/-! ## keywords in any order -/
noncomputable def permL {α : Type} (is : List Nat) (ws : List α) : List α := is.filterMap fun i => ws[i]?
theorem vals_get {vs : List V} {us : List Value} (r : Vals vs us) : ∀ i : Nat, (vs[i]? = none ∧ us[i]? = none) ∨ ∃ v u, vs[i]? = some v ∧ us[i]? = some u ∧ L2.RelV v u := by
  induction r with
  | nil => exact fun i => .inl ⟨by simp, by simp⟩
  | cons h t ih =>
    intro i
    cases i with
    | zero => exact .inr ⟨_, _, rfl, rfl, h⟩
    | succ i => simpa using ih i
theorem vals_perm {vs : List V} {us : List Value} (r : Vals vs us) : ∀ is : List Nat, Vals (permL is vs) (permL is us)
  | [] => .nil
  | i :: is => by
    unfold permL
    rcases vals_get r i with ⟨h1, h2⟩ | ⟨v, u, h1, h2, h3⟩
    · rw [List.filterMap_cons_none h1, List.filterMap_cons_none h2]; exact vals_perm r is
    · rw [List.filterMap_cons_some h1, List.filterMap_cons_some h2]; exact .cons h3 (vals_perm r is)
section
variable {X : Cx} {j k : Nat} {sp : Sp} {x : Str} {ps ks : List Str} {p pos : Pos} {kws : List Keyword} {tk : TA} {is : List Nat} {st : Stmt}
end
section
variable {G : Cg} {W : Wx}
end
end Eo
namespace Eo
open PySem L2 PySem.Spec PyProof.Rows StX
/-! ## classes by their names -/
noncomputable def clsOf (K : PySem.W.Frag) (c : Str) : Option Addr := match PySem.W.nsIn K mainGlobals c with
  | some (some (.ref C)) => some C
  | _ => none
/-- the constants of a text: its fragment, its classes, which fields are plain tuples -/
noncomputable def gOf (K : PySem.W.Frag) (pl : Str → Str → Bool) : Cg := ⟨K, clsOf K, pl, []⟩
theorem clsOf_mk {K : PySem.W.Frag} {c : Str} {C : Addr} (h : PySem.W.nsIn K mainGlobals c = some (some (.ref C))) : clsOf K c = some C := by unfold clsOf; rw [h]
/-- a class of the module -/
structure ClsAt (K : PySem.W.Frag) (mg : Str → Option Value) (cn : Str) : Prop where
  ex : ∃ C, clsOf K cn = some C ∧ mg cn = some (.ref C) ∧ Cls K C
/-- a field that no class has -/
noncomputable def FldAt (K : PySem.W.Frag) (cn f : Str) : Prop := ∀ C, clsOf K cn = some C → NoAttr K C f
theorem fldAt_mk {K : PySem.W.Frag} {cn f : Str} {C : Addr} (a : PySem.W.nsIn K mainGlobals cn = some (some (.ref C))) (n : PySem.W.findIn K (.ref C) f = some none) : FldAt K cn f := fun C' h => by
  rw [clsOf_mk a] at h; cases h; exact n
/-- how the arguments of a method come to its parameters -/
noncomputable def ArgsM (st : Stmt) (m qual : Str) (ps : List Str) : Prop := ∀ (kV doc pm : Value) (an : Option Addr) (cdv ct : Value) (us : List Value), us.length = ps.length → bindArgs (PySem.W.fnOf m qual (defArgs st) (defBody st) (defScope st) .none kV doc pm an cdv ct) ⟨us, []⟩ = pure (ps.zip us)
/-- a method, a property, a classmethod, __init__, as the top leaves them -/
structure MDef (K : PySem.W.Frag) (cn m qual : Str) (st : Stmt) : Prop where
  ex : ∃ C f fd, clsOf K cn = some C ∧ Meth K C m f ∧ PySem.W.fnIn K f = true ∧ Fun K m qual st f fd
structure PDef (K : PySem.W.Frag) (cn m qual : Str) (st : Stmt) : Prop where
  ex : ∃ C p g fd, clsOf K cn = some C ∧ PropOf K C m p g ∧ Fun K m qual st g fd
structure CDef (K : PySem.W.Frag) (cn m qual : Str) (st : Stmt) : Prop where
  ex : ∃ C mc p g fd, clsOf K cn = some C ∧ ClX.CRead K C mc ∧ ClX.CMet K C mc m p g ∧ Fun K m qual st g fd
structure IDef (K : PySem.W.Frag) (cn qual : Str) (st : Stmt) : Prop where
  ex : ∃ C f fd, clsOf K cn = some C ∧ Mk K C f ∧ Fun K "__init__" qual st f fd
section
variable {K : PySem.W.Frag} {cn m qual : Str} {st : Stmt} {C f p g : Addr} {oc kV doc pm cdv ct mc : Value} {od an : Option Addr} {osl : Array (Option Value)} {rest : List Value}
end
/-! ### what may be called -/
section
variable (P : Program) (w : World) (K : PySem.W.Frag) (mg : Str → Option Value) (base : Heap) (k : Nat)
structure MetO (cn m : Str) (ps : List Str) (sp : Sp) : Prop where
  ex : ∃ C f fd, clsOf K cn = some C ∧ Meth K C m f ∧ PySem.W.fnIn K f = true ∧ FnOk P w K mg base CX0 k f fd ps sp ∧ Binds K fd ps [] ∧ FdAt K f fd
structure ProO (cn m : Str) (ps : List Str) (sp : Sp) : Prop where
  ex : ∃ C p g fd, clsOf K cn = some C ∧ PropOf K C m p g ∧ FnOk P w K mg base CX0 k g fd ps sp ∧ Binds K fd ps []
structure CmeO (cn m : Str) (sp : Sp) : Prop where
  ex : ∃ C mc p g, clsOf K cn = some C ∧ ClX.CRead K C mc ∧ ClX.CMet K C mc m p g ∧ FnR P w K mg base CX0 k g sp
structure IniO (cn : Str) (ps : List Str) (sp : Sp) : Prop where
  ex : ∃ C f fd, clsOf K cn = some C ∧ Mk K C f ∧ FnOk P w K mg base CX0 k f fd ps sp ∧ Binds K fd ps []
structure IniKw (cn p1 : Str) (sp : Sp) : Prop where
  ex : ∃ C f, clsOf K cn = some C ∧ Mk K C f ∧ FnKw P w K mg base CX0 k f p1 sp
end
section
variable {P : Program} {w : World} {K : PySem.W.Frag} {mg : Str → Option Value} {base : Heap} {k : Nat} {G : Cg} {cn m qual : Str} {st : Stmt} {N ps : List Str} {ms : MS}
theorem _root_.L2.Fun.at {x : Str} {f : Addr} {fd : FuncData} (F : Fun K x qual st f fd) : FdAt K f fd := by
  obtain ⟨oc, od, kV, doc, pm, an, cdv, ct, osl, rfl, lk, cd⟩ := F.ex
  exact ⟨oc, od, osl, lk⟩
end
/-! ### the rules -/
section
variable {X : Cx} {P : Program} {w : World} {K : PySem.W.Frag} {mg : Str → Option Value} {base : Heap} {j k : Nat} {C : Addr} {cn m : Str} {ps : List Str} {sp : Sp} {o e a b : Expr} {es : List Expr} {ta tb te : TE} {t : TA} {pos apos p kpos : Pos} {pl : Sem Bool}
noncomputable abbrev Same (X : Cx) (P : Program) (w : World) (K : PySem.W.Frag) (mg : Str → Option Value) (base : Heap) : Prop := X.prog = P ∧ X.w = w ∧ X.K = K ∧ X.mg = mg ∧ X.base = base
/-- the name of a class -/
theorem clsNK (hm : mg cn = some (.ref C)) (h : Same X P w K mg base) (hg : Gl X cn := by rfl) (hd : (cn == ("__debug__" : Str)) = false := by decide) : PE X (.Name cn pos) (tC (.ref C)) := by
  obtain ⟨rfl, rfl, rfl, rfl, rfl⟩ := h
  exact pe_glob hg hm rfl hd
end
end Eo
namespace Eo
open PySem L2 PySem.Spec PyProof.Rows StX
section
variable {G : Cg} {W : Wx}
end
section
variable {X : Cx} {K : PySem.W.Frag} {e o value : Expr} {f : Str} {ta tv : TE} {pos pos' : Pos}
end
end Eo
namespace TxS
open PySem PySem.Spec PyProof.Rows L2
/-! ## sets of texts -/
noncomputable def kx (e : Int × Value) : Str := match e.2 with
  | .str k _ => k
  | _ => Str.empty
noncomputable def EOk (w : World) (e : Int × Value) : Prop := ∃ k tk, e.2 = Value.str k tk ∧ e.1 = hashStr w k
/-- the set at a holds the texts of l, each once; it can be walked -/
structure TSet (w : World) (h : Heap) (a : Addr) (l : List Str) : Prop where
  ex : ∃ ob es ep tb, h.get? a = some ob ∧ ob.ExactSet ∧ ob.data = .set es ep tb ∧ (∀ e ∈ es.toList, EOk w e) ∧ (es.toList.map kx).Perm l ∧ es.size < scanBound ∧ tb.fits es.size = true ∧ Ris tb.place.toList ∧ (w.params.followText "set-order" = true ∨ tb.led = true)
  nd : l.Nodup
noncomputable def insT (k : Str) (l : List Str) : List Str := if k ∈ l then l else k :: l
theorem TSet.at {w : World} {h h' : Heap} {a : Addr} {l : List Str} (R : TSet w h a l) (k : ∀ o, h.get? a = some o → h'.get? a = some o) : TSet w h' a l := by
  obtain ⟨ob, es, ep, tb, ho, r⟩ := R.ex
  exact ⟨⟨ob, es, ep, tb, k ob ho, r⟩, R.nd⟩
section
variable {P : Program} {w : World} {A : Around} {E : Value → Shared → Prop} {s : Shared} {a : Addr} {l : List Str}
theorem ents {es : List (Int × Value)} (g : ∀ e ∈ es, EOk w e) : ElemsOf (strKind P w) es := fun e he => by
  obtain ⟨k, tk, h1, h2⟩ := g e he
  exact ⟨⟨k, by rw [h1]; exact strKind_is P w k tk, h2⟩, by rw [h1]; rfl⟩
theorem ent_is {e : Int × Value} (g : EOk w e) (k : Str) : (strKind P w).is k e.2 = true ↔ kx e = k := by
  obtain ⟨j, tk, h1, _⟩ := g
  unfold kx
  rw [h1]
  constructor
  · intro h
    obtain ⟨t, q⟩ := Value.isStrOf_shape (x := k) (v := .str j tk) h
    cases q; rfl
  · intro h
    rw [← h]
    exact strKind_is P w j tk
/-- the end of an addition: the entries are stored, the table laid anew where it is too full -/
theorem put_end {gw : Bool → Sem Unit} (hg : ∀ (b : Bool) (s₁ : Shared) (Q' : Unit → Shared → Prop), Q' () s₁ → wpAny (model P w) A (gw b) Q' E s₁) {ob : Obj} {es : Array (Int × Value)} {ep : Nat} {tb : SetTable} (ho : s.heap.get? a = some ob) (hx : ob.ExactSet) (hd : ob.data = .set es ep tb)
    {es1 : Array (Int × Value)} {t2 : SetTable} {l1 : List Str} (g1 : ∀ e ∈ es1.toList, EOk w e) (p1 : (es1.toList.map kx).Perm l1) (n1 : l1.Nodup) (b1 : es1.size < scanBound) (f2 : t2.fits es1.size = true) (r2 : Ris t2.place.toList) (e2 : w.params.followText "set-order" = true ∨ t2.led = true) {wd : Bool} {R : Option Bool → Shared → Prop}
    (hR : ∀ h', Heap.SameBut a s.heap h' → TSet w h' a l1 → R (some true) { s with heap := h' }) :
    wpAny (model P w) A (do
        storeSet a es1 t2
        if (!wd && t2.tooFull) = true then do
            gw (relayAll t2 es1 (SetTable.grown es1.size)).2.2
            storeSet a (relayAll t2 es1 (SetTable.grown es1.size)).1 (relayAll t2 es1 (SetTable.grown es1.size)).2.1
            pure (some true)
          else pure (some true)) R E s := by
  have q1 := store_at (es' := es1) (t' := t2) ho hd
  have sb := Heap.SameBut.update s.heap a (Obj.putSet es1 t2)
  refine wpAny_bind (wpAny_storeSet_of ho hd ?_ (fits_of_scanBound b1)); split
  · have pm := relayAll_perm t2 es1 (SetTable.grown es1.size); have f3 := relayAll_fits t2 es1 (SetTable.grown es1.size); have r3 := relayAll_ris t2 es1 (SetTable.grown es1.size); have e3 := relayAll_led t2 es1 (SetTable.grown es1.size)
    generalize relayAll t2 es1 (SetTable.grown es1.size) = Z at pm f3 r3 e3 ⊢; obtain ⟨es2, t3, gv⟩ := Z; dsimp only at pm f3 r3 e3 ⊢
    have z2 : es2.size = es1.size := by rw [← Array.length_toList, ← Array.length_toList, pm.length_eq]
    have q2 := store_at (es' := es2) (t' := t3) q1 rfl
    refine wpAny_bind (hg _ _ _ (wpAny_bind (wpAny_storeSet_of q1 rfl ?_ (fits_of_scanBound (by rw [z2]; exact b1)))))
    refine wpAny_pure (hR _ (sb.trans (Heap.SameBut.update _ a _)) ⟨⟨_, es2, _, t3, q2, hx, rfl, fun e he => g1 e (pm.mem_iff.mp he), (pm.map kx).trans p1, by rw [z2]; exact b1, by rw [z2] at f3 ⊢; exact f3, r3, e2.imp id fun z => by rw [e3]; exact z⟩, n1⟩)
  · exact wpAny_pure (hR _ sb ⟨⟨_, es1, _, t2, q1, hx, rfl, g1, p1, b1, f2, r2, e2⟩, n1⟩)
/-- a text is added, its hash being known -/
theorem add_hashed {k : Str} {tk : Tok} {Q : Bool → Shared → Prop} (R : TSet w s.heap a l) (room : l.length + 1 < scanBound) (hQ : ∀ h' b, Heap.SameBut a s.heap h' → TSet w h' a (insT k l) → Q b { s with heap := h' }) :
    wpAny (model P w) A (setAddHashed a (.str k tk) ((strKind P w).hash k)) Q E s := by
  obtain ⟨ob, es, ep, tb, ho, hx, hd, g, pl, hb, hf, hr, hl⟩ := R.ex
  have hk : (strKind P w).is k (.str k tk) = true := strKind_is P w k tk
  have sc : (Value.str k tk).scannable = true := rfl
  have el : ElemsOf (strKind P w) es.toList := ents g
  unfold setAddHashed setAddHashedIn; refine wpAny_holding (wpAny_bind (wpAny_setState_of ho hd hf ?_)); dsimp only
  rw [byScan_of sc hb el]; simp only [↓reduceIte]; unfold setAddByScan
  refine wpAny_bind (wpAny_bind (wpAny_rule (wpAny_bind (wpAny_setScan_of hk ho hd hf el ?_))))
  cases hi : List.findIdx? (fun e => (strKind P w).is k e.2) es.toList with
  | some j =>
    dsimp only
    obtain ⟨hj, pj, _⟩ := List.findIdx?_eq_some_iff_getElem.mp hi
    have km : k ∈ l := pl.mem_iff.mp (List.mem_map.mpr ⟨es.toList[j], List.getElem_mem hj, (ent_is (g _ (List.getElem_mem hj)) k).mp pj⟩)
    exact wpAny_pure (wpAny_pure (hQ s.heap _ (Heap.SameBut.refl a s.heap) (by unfold insT; rw [if_pos km]; exact R)))
  | none =>
    dsimp only
    have nk : k ∉ l := fun z => by
      obtain ⟨e, he, q⟩ := List.mem_map.mp (pl.mem_iff.mpr z)
      have c := List.findIdx?_eq_none_iff.mp hi e he
      rw [(ent_is (P := P) (g e he) k).mpr q] at c
      cases c
    have gw : ∀ (b : Bool) {s₁ : Shared} {Q' : Unit → Shared → Prop}, Q' () s₁ → wpAny (model P w) A (match b with | true => rule "set.scan.the-table-gave-way" | false => pure ()) Q' E s₁ := fun b _ _ q => match b with
      | true => wpAny_rule q
      | false => wpAny_pure q
    have pm := layNew_perm tb es ((strKind P w).hash k) (.str k tk); have f1 := layNew_fits tb es ((strKind P w).hash k) (.str k tk); have r1 := layNew_ris tb es ((strKind P w).hash k) (.str k tk) hr; have l1 := layNew_led tb es ((strKind P w).hash k) (.str k tk)
    generalize layNew tb es ((strKind P w).hash k) (.str k tk) = Z at pm f1 r1 l1 ⊢; obtain ⟨es1, t1, wd, gv⟩ := Z; dsimp only at pm f1 r1 l1 ⊢; rw [Array.toList_push] at pm
    have pc : es1.toList.Perm (((strKind P w).hash k, Value.str k tk) :: es.toList) := pm.trans (List.perm_append_singleton _ _)
    have g1 : ∀ e ∈ es1.toList, EOk w e := fun e he => by
      rcases List.mem_cons.mp (pc.mem_iff.mp he) with z | z
      · rw [z]; exact ⟨k, tk, rfl, rfl⟩
      · exact g e z
    have p1 : (es1.toList.map kx).Perm (k :: l) := (pc.map kx).trans (pl.cons k)
    have n1 : (k :: l).Nodup := List.nodup_cons.mpr ⟨nk, R.nd⟩
    have z1 : es1.size = l.length + 1 := by rw [← Array.length_toList, ← List.length_map (f := kx), p1.length_eq]; rfl
    have b1 : es1.size < scanBound := by rw [z1]; exact room
    have ld : w.params.followText "set-order" = true ∨ t1.led = true := hl.imp id fun z => by rw [l1]; exact z
    have fin : ∀ h', Heap.SameBut a s.heap h' → TSet w h' a (k :: l) → Q true { s with heap := h' } := fun h' sb r => hQ h' true sb (by unfold insT; rw [if_neg nk]; exact r)
    refine wpAny_bind (gw _ ?_); split
    · refine wpAny_bind ?_; rw [hashByValue_scannable 8 sc]; refine wpAny_pure ?_
      refine put_end (l1 := k :: l) ?_ ho hx hd g1 p1 n1 b1 ?_ ?_ ?_ (fun h' sb r => ?_)
      · exact fun b _ _ q => gw b q
      · first | (split <;> first | exact f1 | exact SetTable.fits_plain_off f1) | exact f1
      · first | (split <;> exact r1) | exact r1
      · first | (split <;> exact ld) | exact ld
      · dsimp only; exact wpAny_pure (fin h' sb r)
    · refine wpAny_bind (wpAny_pure ?_); simp only [↓reduceIte]
      refine put_end (l1 := k :: l) (fun b _ _ q => gw b q) ho hx hd g1 p1 n1 b1 f1 r1 ld (fun h' sb r => ?_)
      dsimp only; exact wpAny_pure (fin h' sb r)
theorem fresh_set {h : Heap} {a : Addr} (ho : h.get? a = some { cls := .type "set", dict := none, data := .set #[] 0 (.fresh 0 0 (!w.params.followText "set-order")) }) : TSet w h a [] :=
  ⟨⟨_, #[], 0, _, ho, ⟨rfl, rfl, rfl⟩, rfl, (fun e he => by simp at he), (by simp), (by decide), (by rfl), List.Pairwise.nil, by
    show _ ∨ (!w.params.followText "set-order") = true
    cases w.params.followText "set-order" <;> simp⟩, List.nodup_nil⟩
end
end TxS
namespace TxS
open PySem PySem.Spec PyProof.Rows L2
theorem mem_ins {k x : Str} {l : List Str} : x ∈ insT k l ↔ x = k ∨ x ∈ l := by
  unfold insT
  split
  · rename_i h
    exact ⟨.inr, fun z => z.elim (fun e => e ▸ h) id⟩
  · exact List.mem_cons
theorem len_ins (k : Str) (l : List Str) : (insT k l).length ≤ l.length + 1 := by
  unfold insT
  split
  · exact Nat.le_succ _
  · exact Nat.le_refl _
/-- l holds just the first i of xs -/
structure Upto (xs : List Str) (i : Nat) (l : List Str) : Prop where
  mem : ∀ x, x ∈ l ↔ x ∈ xs.take i
  len : l.length ≤ i
theorem Upto.more {xs l : List Str} {i : Nat} {k : Str} (u : Upto xs i l) (h : xs[i]? = some k) : Upto xs (i + 1) (insT k l) where
  mem x := by
    have hi := (List.getElem?_eq_some_iff.mp h)
    obtain ⟨hi, e⟩ := hi
    rw [mem_ins, u.mem, List.take_succ_eq_append_getElem hi, List.mem_append, List.mem_singleton, e]
    exact Or.comm
  len := Nat.le_trans (len_ins k l) (Nat.succ_le_succ u.len)
section
variable {P : Program} {w : World} {A : Around} {E : Value → Shared → Prop} {s : Shared}
theorem upd_loop {I : Addr} {fp wr : List Addr} {Gn : Array GenState → Array GenState → Prop} {n : Nat} {Pv : Nat → Value → Prop} {St : Nat → Shared → Prop} {R : Result → Shared → Prop} (Wk : WalksS P w A.in1 I fp wr Gn n Pv St) (S : Addr) (nS : S ∉ fp)
    (xs : List Str) (hn : n = xs.length) (room : xs.length + 1 < scanBound) (hv : ∀ i v, Pv i v → ∃ k t, xs[i]? = some k ∧ v = .str k t) :
    ∀ (m i : Nat) (s : Shared), n - i = m → i ≤ n → St i s → (∃ l, TSet w s.heap S l ∧ Upto xs i l) → (∀ s' l, Moved (S :: wr) Gn s s' → TSet w s'.heap S l → Upto xs n l → R (.ok (.ret .none)) s') →
      codeAny (model P w) A (.builtin "set.update.loop" ⟨[.ref S, .ref I], []⟩) R s := by
  have nw : S ∉ wr := fun h => nS (Wk.sub _ h)
  have sb : ∀ b ∈ wr, b ∈ S :: wr := fun b hb => List.mem_cons_of_mem _ hb
  intro m
  induction m with
  | zero =>
    intro i s hm hi st ⟨l, T, u⟩ hR
    have e : i = n := by omega
    subst e
    refine codeAny_builtin F.entry_set_update_loop ?_; rw [Around.under_plainId F.plain_set_update_loop _]
    show wpAny _ A.in1 (pyNext (.ref I) >>= _) _ _ s; refine wpAny_bind (Wk.done s _ _ st fun s' mv => ?_)
    show wpAny _ A.in1 (ret Value.none) _ _ s'; exact wpAny_pure (hR s' l (mv.mono sb) (T.at fun o e => mv.heap S o nw e) u)
  | succ m ih =>
    intro i s hm hi st ⟨l, T, u⟩ hR
    have lt : i < n := by omega
    refine codeAny_builtin F.entry_set_update_loop ?_; rw [Around.under_plainId F.plain_set_update_loop _]
    show wpAny _ A.in1 (pyNext (.ref I) >>= _) _ _ s; refine wpAny_bind (Wk.item i s _ _ lt st fun v s' pv st' mv => ?_)
    obtain ⟨k, t, hk, rfl⟩ := hv i v pv
    have T' : TSet w s'.heap S l := T.at fun o e => mv.heap S o nw e
    show wpAny _ A.in1 (holding [Value.str k t] (setAdd S (.str k t)) >>= _) _ _ s'; refine wpAny_bind (wpAny_holding ?_)
    unfold setAdd; refine wpAny_holding (wpAny_bind ((strKind P w).pyHash (strKind_is P w k t) ?_))
    refine add_hashed (s := { s' with toks := s'.toks + 1 }) T' (by have := u.len; omega) fun h' b sm T2 => ?_
    refine wpAny_pure ⟨plainId_quiet F.plain_set_update_loop _, ih (i + 1) _ (by omega) lt (Wk.frame _ s' _ _ st' (Nat.le_succ _) fun b hb o e => ?_) ⟨_, T2, u.more hk⟩ fun s'' l'' m'' T'' u'' => ?_⟩
    · exact (sm.2 b fun z => nS (by rw [← z]; exact hb)).trans e
    · exact hR s'' l'' (Moved.trans Wk.gtrans ((mv.mono sb).then_heap (Nat.le_succ _) fun b o hb e => (sm.2 b fun z => hb (by rw [z]; exact List.mem_cons_self)).trans e) m'') T'' u''
theorem str_get : ∀ {vs : List Value} {xs : List Str}, StrsAre vs xs → ∀ {i : Nat} {v : Value}, vs[i]? = some v → ∃ k t, xs[i]? = some k ∧ v = .str k t
  | _, _, .nil, _, _, h => by cases h
  | _, _, .cons y t r, 0, v, h => by cases h; exact ⟨y, t, rfl, rfl⟩
  | _, _, .cons y t r, i + 1, v, h => str_get r h
/-- set(xs) of a list of texts -/
theorem set_list {r : Addr} {items : Array Value} (xs : List Str) {Q : Value → Shared → Prop} (hh : A.handled = none) (hl : s.heap.IsList r items) (hx : StrsAre items.toList xs) (room : xs.length + 1 < scanBound)
    (h : ∀ (h' : Heap) (tk : Nat) (l : List Str), TSet w h' s.heap.objs.size l → (∀ x, x ∈ l ↔ x ∈ xs) → l.length ≤ xs.length → (∀ b o, s.heap.get? b = some o → h'.get? b = some o) → Q (.ref s.heap.objs.size) { s with heap := h', toks := tk }) :
    wpAny (model P w) A (call (.type "set") [.ref r]) Q E s := by
  have hz : items.size = xs.length := by rw [← Array.length_toList]; exact hx.length
  obtain ⟨c, tl, hmro⟩ := F.called_set.mro; have hmade := F.called_set.made; have hsub := F.called_set.sub
  refine wpAny_call (codeAny_of_tree ?_); show wpAny _ _ (callAny (.type "set") _) _ _ _
  refine wpAny_pure ⟨Code.quiet_builtin _ (by decide +kernel), codeAny_builtin F.entry_type_call ?_⟩; rw [Around.under_plain (weight_type_call_type "set" [.ref r] []) rfl]
  have h1 := F.called_set.notType; have h2 := F.called_set.canCreate; have hct := F.typeCall_set_1 (.ref r)
  (repeat (any_goals (first | assumption | wp_step)))
  refine codeAny_mono (code_set_led1 (.ref r) (E := E) (Q₁ := fun obj s₁ => obj = .ref s.heap.objs.size ∧ s₁ = { s with heap := s.heap.push { cls := .type "set", dict := none, data := .set #[] 0 (.fresh 0 0 (!w.params.followText "set-order")) } }) ⟨rfl, rfl⟩) fun rr s₁ hr => ?_
  cases rr with
  | error e => exact hr
  | ok fl =>
    cases fl with
    | ret obj =>
      obtain ⟨rfl, rfl⟩ := hr
      have hS : (s.heap.push { cls := .type "set", dict := none, data := .set #[] 0 (.fresh 0 0 (!w.params.followText "set-order")) }).get? s.heap.objs.size = some { cls := .type "set", dict := none, data := .set #[] 0 (.fresh 0 0 (!w.params.followText "set-order")) } := Heap.get?_push_size _ rfl
      have hT : Shared.TypeIs { s with heap := s.heap.push { cls := .type "set", dict := none, data := .set #[] 0 (.fresh 0 0 (!w.params.followText "set-order")) } } (.ref s.heap.objs.size) "set" := ⟨_, hS, rfl⟩
      have hli := F.called_set.init.lookup; have hbi := F.called_set.init.bind (.ref s.heap.objs.size)
      (repeat (any_goals (first | assumption | wp_step)))
      refine codeAny_mono (codeAny_call_builtin (R := wants (fun v s₂ => v = .none ∧ ∃ h' tk l, s₂ = { s with heap := h', toks := tk } ∧ TSet w h' s.heap.objs.size l ∧ Upto xs xs.length l ∧ ∀ b o, s.heap.get? b = some o → h'.get? b = some o) E) F.called_set.init.plain F.entry_set_init (check_set_init_1 hT ?_)) fun r₂ s₂ hr₂ => ?_
      · obtain ⟨ol, hol, hcl, nl, hdl⟩ := hl; obtain ⟨ocls, odict, odata, oslots⟩ := ol; simp only at hcl hdl; subst hcl; subst hdl
        have hol' : (s.heap.push { cls := .type "set", dict := none, data := .set #[] 0 (.fresh 0 0 (!w.params.followText "set-order")) }).get? r = some { cls := .type "list", dict := odict, data := .seq items nl, slots := oslots } := Heap.get?_push_of_some _ hol
        have hsls := F.sub_list_set; have hslf := F.sub_list_frozenset; have hne : (Value.type "list" == Value.type "dict") = false := by decide
        have hl1 : (s.heap.push { cls := .type "set", dict := none, data := .set #[] 0 (.fresh 0 0 (!w.params.followText "set-order")) }).IsList r items := ⟨_, hol', rfl, nl, rfl⟩
        unfold Builtin.«set.__init__» noKeywords Builtin.Frozenset.updateFrom; generalize hPI : pyIter = PI; wp_walk; subst hPI
        refine wpAny_pyIter_list hl1 ?_; refine wpAny_bind (wpAny_runValue ?_)
        have hlS : r < s.heap.objs.size := Heap.lt_size hol
        have h3 : A.in1.in1.in1.handled = none := by simp [hh]
        have hz1 : (s.heap.push { cls := .type "set", dict := none, data := .set #[] 0 (.fresh 0 0 (!w.params.followText "set-order")) }).objs.size = s.heap.objs.size + 1 := Heap.size_push ..
        have nI : r ≠ (s.heap.push { cls := .type "set", dict := none, data := .set #[] 0 (.fresh 0 0 (!w.params.followText "set-order")) }).objs.size := by rw [hz1]; exact Nat.ne_of_lt (Nat.lt_succ_of_lt hlS)
        have nS : s.heap.objs.size ∉ [(s.heap.push { cls := .type "set", dict := none, data := .set #[] 0 (.fresh 0 0 (!w.params.followText "set-order")) }).objs.size, r] := by
          rw [hz1]; simp only [List.mem_cons, List.not_mem_nil, or_false, not_or]; exact ⟨Nat.ne_of_lt (Nat.lt_succ_self _), Nat.ne_of_gt hlS⟩
        have hv : ∀ (i : Nat) (v : Value), items[i]? = some v → ∃ k t, xs[i]? = some k ∧ v = .str k t := fun i v q => str_get hx (by rw [Array.getElem?_toList]; exact q)
        refine upd_loop ((Walks.list h3 _ r nI items).toS) s.heap.objs.size nS xs hz room hv (items.size - 0) 0 _ (by omega) (Nat.zero_le _) ⟨⟨_, Heap.get?_push_size _ rfl, rfl, rfl⟩, hl1.push _⟩ ?hS0 ?hR
        case hS0 => exact ⟨[], fresh_set (Heap.get?_push_of_some _ hS), ⟨fun x => by simp, Nat.le_refl _⟩⟩
        case hR =>
          intro s' l mv T u
          obtain ⟨h', g2, d', tk', os'⟩ := s'; have eg : g2 = s.gens := mv.gens; have ed : d' = s.drawn := mv.drawn; have eo : os' = s.os := mv.os; subst eg; subst ed; subst eo
          show wpAny _ _ _ _ _ _; refine wpAny_pure ?_; show wpAny _ _ (ret Value.none) _ _ _; rw [hz] at u
          refine wpAny_pure ⟨rfl, h', tk', l, rfl, T, u, fun b o e => ?_⟩
          have b0 : b < s.heap.objs.size := Heap.lt_size e
          refine mv.heap b o ?_ (Heap.get?_push_of_some _ (Heap.get?_push_of_some _ e))
          simp only [List.mem_cons, List.not_mem_nil, or_false, not_or]; exact ⟨Nat.ne_of_lt b0, by rw [hz1]; exact Nat.ne_of_lt (Nat.lt_succ_of_lt b0)⟩
      · cases r₂ with
        | error e => exact hr₂
        | ok fl₂ =>
          cases fl₂ with
          | ret v =>
            obtain ⟨rfl, h', tk, l, rfl, T, u, k'⟩ := hr₂
            (repeat (any_goals (first | assumption | wp_step)))
            exact h _ _ l T (fun x => by rw [u.mem x, List.take_length]) u.len k'
          | _ => exact hr₂.elim
    | _ => exact hr.elim
end
end TxS
namespace TxS
open PySem PySem.Spec PyProof.Rows L2
section
variable {X : Cx}
end
end TxS
namespace Eo
open PySem L2 PySem.Spec PyProof.Rows StX TxS
/-! ## sorted(set(..)) of texts, as data -/
/-- each text once -/
noncomputable def dd : List Str → List Str
  | [] => []
  | x :: xs => if x ∈ xs then dd xs else x :: dd xs
section
variable {G : Cg} {W : Wx} {w : World}
/-! ### sorted({.. for ..}) -/
end
end Eo
namespace TxS
open PySem PySem.Spec PyProof.Rows L2
/-! ## enumerate over tuples -/
section
variable {prog : Program} {w : World} {A : Around} {E : Value → Shared → Prop} {s : Shared}
end
section
variable {X : Cx} {e : Expr} {ta : TA} {p pos tpos : Pos} {elts : List Expr} {kk : Nat}
end
end TxS
namespace Eo
open PySem L2 PySem.Spec PyProof.Rows StX TxS
/-! ## enumerate, as data -/
section
variable {G : Cg} {W : Wx}
end
end Eo
namespace Eo
open PySem L2 PySem.Spec PyProof.Rows StX
/-! ## __init__(self, *v), C(*e) -/
structure IniSt (P : Program) (w : World) (K : PySem.W.Frag) (mg : Str → Option Value) (base : Heap) (k : Nat) (cn p1 : Str) (sp : Sp) : Prop where
  ex : ∃ C f, clsOf K cn = some C ∧ Mk K C f ∧ FnR P w K mg base CX0 k f sp
section
variable {P : Program} {w : World} {K : PySem.W.Frag} {mg : Str → Option Value} {base : Heap} {j k : Nat} {G : Cg} {cn qual p1 pv : Str} {st : Stmt} {N : List Str} {ms : MS} {X : Cx} {C : Addr} {sp : Sp} {e : Expr} {te : TE} {p pos spos : Pos}
end
/-! ## o.m(k = e, ..): all by name, in any order -/
section
variable {P : Program} {w : World} {K : PySem.W.Frag} {mg : Str → Option Value} {base : Heap} {j k : Nat} {cn m qual : Str} {st : Stmt} {ps ks : List Str} {is : List Nat} {X : Cx} {C : Addr} {sp : Sp} {o : Expr} {ta : TE} {tk : TA} {kws : List Keyword} {pos apos : Pos} {pl : Sem Bool}
end
section
variable {G : Cg} {W : Wx}
end
/-! ## two trees made at once -/
section
variable {G : Cg} {W : Wx}
theorem Owns.two {F H : Hp} {vs : List V} {t1 t2 : OT} {A : List Addr} (h : Owns G F H vs [t1, t2] A) : ∃ v1 v2 A1 A2, vs = [v1, v2] ∧ A = A1 ++ A2 ∧ Own G F H v1 t1 A1 ∧ Own G F H v2 t2 A2 := by
  cases h with
  | cons o r =>
    cases r with
    | cons o2 r2 =>
      cases r2
      exact ⟨_, _, _, _, rfl, by rw [List.append_nil], o, o2⟩
end
end Eo
namespace TxS
open PySem PySem.Spec PyProof.Rows L2 PySem.SeqAt PySem.MeetsSeq PySem.AutoSeq1
/-! ## == between texts and dicts, tuples of such -/
theorem dict_declines_text (l : Addr) (es : Array DictEntry) (n : Nat) (dd : Option Addr) (sl : Array (Option Value)) (b : Str) (u : Tok) :
    Meets (Builtin.«dict.__eq__» ⟨[.ref l, .str b u], []⟩) (fun _ R s => s.heap.get? l = some { cls := .type "dict", dict := dd, data := .dict es n, slots := sl } ∧ R (.ok (.ret .notImplemented)) s) :=
  .of_wp fun prog w A R s h => by obtain ⟨hp, g, d, tk, os⟩ := s; obtain ⟨hl, h⟩ := h; have f1 := F.sub_str_dict; wp_walk using wpAny_loadPart' hl, wpAny_load hl; exact ⟨_, rfl, h⟩
theorem text_declines_dict (b : Str) (u : Tok) (l : Addr) (es : Array DictEntry) (n : Nat) (dd : Option Addr) (sl : Array (Option Value)) :
    Meets (Builtin.«str.__eq__» ⟨[.str b u, .ref l], []⟩) (fun _ R s => s.heap.get? l = some { cls := .type "dict", dict := dd, data := .dict es n, slots := sl } ∧ R (.ok (.ret .notImplemented)) s) :=
  .of_wp fun prog w A R s h => by obtain ⟨hp, g, d, tk, os⟩ := s; obtain ⟨hl, h⟩ := h; wp_walk using wpAny_loadPart' hl, wpAny_load hl; exact ⟨_, rfl, h⟩
section
variable {A : Around} {s : Shared}
noncomputable def IsDic (h : Heap) (l : Addr) : Prop := ∃ o es n, h.get? l = some o ∧ o.cls = .type "dict" ∧ o.data = .dict es n
theorem rc_text_dict {l : Addr} (b : Str) (u : Tok) (hl : IsDic s.heap l) (hu : A.units < cLine) : RcAt A s (.str b u) (.ref l) false := fun prog w E Q h => by
  obtain ⟨⟨cls, dd, data, sl⟩, es, n, ho, hc, hd⟩ := hl
  simp only at hc hd
  subst hc hd
  exact rc_eq_decline_or (k := false) (typeIs_str s b u) ⟨_, ho, rfl⟩ (by decide) F.sub_dict_str F.slot_str_eq F.slot_dict_eq_refl
    (fun _ hq => call_meets F.slot_str_eq (typeIs_str s b u) F.entry_str_eq (F.args_str_eq_2 _ _) (text_declines_dict b u l es n dd sl) ⟨ho, hq⟩)
    (fun _ hq => call_meets F.slot_dict_eq_refl ⟨_, ho, rfl⟩ F.entry_dict_eq (F.args_dict_eq_2 _ _) (dict_declines_text l es n dd sl b u) ⟨ho, hq⟩)
    (fun _ hq => wpAny_of_eq (rfl : isSame (.str b u) (.ref l) = pure false) hq) (.inr hu) h
theorem rc_dict_text {l : Addr} (b : Str) (u : Tok) (hl : IsDic s.heap l) (hu : A.units < cLine) : RcAt A s (.ref l) (.str b u) false := fun prog w E Q h => by
  obtain ⟨⟨cls, dd, data, sl⟩, es, n, ho, hc, hd⟩ := hl
  simp only at hc hd
  subst hc hd
  exact rc_eq_decline_or (k := false) ⟨_, ho, rfl⟩ (typeIs_str s b u) (by decide) F.sub_str_dict F.slot_dict_eq F.slot_str_eq_refl
    (fun _ hq => call_meets F.slot_dict_eq ⟨_, ho, rfl⟩ F.entry_dict_eq (F.args_dict_eq_2 _ _) (dict_declines_text l es n dd sl b u) ⟨ho, hq⟩)
    (fun _ hq => call_meets F.slot_str_eq_refl (typeIs_str s b u) F.entry_str_eq (F.args_str_eq_2 _ _) (text_declines_dict b u l es n dd sl) ⟨ho, hq⟩)
    (fun _ hq => wpAny_of_eq (rfl : isSame (.ref l) (.str b u) = pure false) hq) (.inr hu) h
end
/-- two things that stand in a pair of tuples -/
inductive EqE (K : PySem.W.Frag) (H : Hp) : V → V → Bool → Prop
  | dp {x y : V} {d e : PyData} : Dp K H x d → Dp K H y e → SeqAt.shaped d = true → SeqAt.shaped e = true → EqE K H x y (PyData.eqv d e)
  | sd {z : Str} {a : Addr} {kvs : List (Key × V)} : Rd H a (.dK kvs) → EqE K H (.str z) (.ref a) false
  | ds {z : Str} {a : Addr} {kvs : List (Key × V)} : Rd H a (.dK kvs) → EqE K H (.ref a) (.str z) false
inductive EqEs (K : PySem.W.Frag) (H : Hp) : List V → List V → Bool → Prop
  | nl (ys : List V) : EqEs K H [] ys true
  | nr (xs : List V) : EqEs K H xs [] true
  | cons {x y : V} {xs ys : List V} {b c : Bool} : EqE K H x y b → EqEs K H xs ys c → EqEs K H (x :: xs) (y :: ys) (b && c)
inductive EqW (K : PySem.W.Frag) (H : Hp) : V → V → Bool → Prop
  | one {x y : V} {b : Bool} : EqE K H x y b → EqW K H x y b
  | tup {a b : Addr} {xs ys : List V} {c : Bool} : SqT K H a xs → SqT K H b ys → EqEs K H xs ys c → EqW K H (.ref a) (.ref b) (c && xs.length == ys.length)
section
variable {X : Cx} {pins : List (Addr × Obj)} {σ : L2.St} {H : Hp} {s : Shared}
theorem isDic_of (I : Inv X pins σ H s) {a : Addr} {kvs : List (Key × V)} (h : Rd H a (.dK kvs)) : IsDic s.heap a := by
  obtain ⟨_, _, vs, _, o, es, ep, ho, hx, hd, _⟩ := dk_rd I.hok h
  exact ⟨o, es, ep, ho, hx.1, hd⟩
theorem EqE.at (I : Inv X pins σ H s) {x y : V} {u v : Value} {b : Bool} {A : Around} (hu : A.units + 64 < cLine) (h : EqE X.K H x y b) (ru : RelV x u) (rv : RelV y v) : EqAt A s u v b := by
  cases h with
  | dp d e sd se =>
    obtain ⟨as, r1⟩ := Dp.reads I _ _ u d ru
    obtain ⟨bs, r2⟩ := Dp.reads I _ _ v e rv
    exact eqAt_reads _ _ A s u v as bs r1 r2 (canLay_of_shaped sd) (canLay_of_shaped se) (room_of_shaped sd hu)
  | sd hd =>
    obtain ⟨t, rfl⟩ := ru
    cases rv
    refine fun prog w E Q h => ?_
    unfold eqBool
    exact wpAny_holding (wpAny_ite_split (fun hab => absurd (eq_of_beq hab) nofun) fun _ => wpAny_bind (rc_text_dict _ t (isDic_of I hd) (by omega) prog w E _ (wpAny_truthy_bool h)))
  | ds hd =>
    obtain ⟨t, rfl⟩ := rv
    cases ru
    refine fun prog w E Q h => ?_
    unfold eqBool
    exact wpAny_holding (wpAny_ite_split (fun hab => absurd (eq_of_beq hab) nofun) fun _ => wpAny_bind (rc_dict_text _ t (isDic_of I hd) (by omega) prog w E _ (wpAny_truthy_bool h)))
end
end TxS
namespace Eo
open PySem L2 PySem.Spec PyProof.Rows TxS
section
variable {G : Cg} {W : Wx}
end
end Eo
namespace Eo
open PySem L2 PySem.Spec PyProof.Rows
/-! ## x[::-1] of a list or a tuple -/
section
variable {G : Cg} {W : Wx}
end
end Eo
namespace Eo
open PySem L2 PySem.Spec PyProof.Rows
/-! ## sum, max, min of a list of integers -/
section
variable {G : Cg} {W : Wx} {X : Cx} {K : PySem.W.Frag}
end
end Eo
namespace Eo
open PySem L2 PySem.Spec PyProof.Rows Srt
/-! ## sorted of tuples of numbers and texts -/
noncomputable abbrev Atm := Int ⊕ List Nat
noncomputable def TupK (h : Heap) (shape : Nat → Bool) (v : Value) (l : List Atm) : Prop := ∃ a o xs n f, v = .ref a ∧ h.get? a = some o ∧ o.cls = .type "tuple" ∧ o.data = .seq xs n ∧ xs[0]? = some f ∧ tupItems shape 0 xs.toList = some l
theorem TupK.keeps {h h' : Heap} {shape : Nat → Bool} {v : Value} {l : List Atm} (p : TupK h shape v l) (k : ∀ b o, h.get? b = some o → o.cls = .type "tuple" → h'.get? b = some o) : TupK h' shape v l := by
  obtain ⟨a, o, xs, n, f, e, ho, hc, r⟩ := p
  exact ⟨a, o, xs, n, f, e, k _ _ ho hc, hc, r⟩
theorem TupK.key {h : Heap} {shape : Nat → Bool} {v : Value} {l : List Atm} (p : TupK h shape v l) : (tupKind h shape).keyOf v = some l := by
  obtain ⟨a, o, xs, n, f, rfl, ho, hc, hd, hf, ht⟩ := p
  show tupKey h shape (.ref a) = some l
  simp only [tupKey, ho, hd, ht]
section
variable {prog : Program} {w : World} {A : Around} {E : Value → Shared → Prop} {s : Shared}
end
section
variable {X : Cx}
end
/-! on data -/
section
variable {G : Cg} {W : Wx}
end
end Eo
namespace Eo
open PySem L2 PySem.Spec PyProof.Rows StX
/-! ## texts: str, join, f-strings, repeated -/
section
variable {G : Cg} {W : Wx}
/-! join -/
/-! f-strings -/
inductive EvJ (G : Cg) (W : Wx) : List TE → List ME → Prop
  | nil : EvJ G W [] []
  | cons {t : TE} {m : ME} {ts : List TE} {ms : List ME} (h : EvE G W t m) (r : EvJ G W ts ms) : EvJ G W (t :: ts) (m :: ms)
/-! repeated -/
noncomputable def rMulS : R2 := fun x y H Q => ∃ s n, x = .str s ∧ y = .int n ∧ ((n = 0 ∧ Q (.str Str.empty) H) ∨ (n = 1 ∧ Q (.str s) H))
theorem op_mulS {X : Cx} : OpR X (binaryOp .Mult) rMulS := by
  intro pins s σ H x y v u Q I rx ry h
  obtain ⟨a, n, rfl, rfl, h⟩ := h
  obtain ⟨t, rfl⟩ := rx
  obtain ⟨t2, rfl⟩ := ry
  rcases h with ⟨rfl, q⟩ | ⟨rfl, q⟩
  · exact P.mul_str_none (by decide) (by decide) ⟨.str Str.empty, H, I.tok _, ⟨_, rfl⟩, q⟩
  · refine P.mul_str (by decide) (fun _ h => by simp at h) (fun _ h => by simp at h) ?_
    rw [if_neg (by decide)]
    simp only [beq_self_eq_true, Bool.true_or, if_true]
    exact ⟨.str a, H, I, ⟨_, rfl⟩, q⟩
noncomputable def rMulA : R2 := rOr (rI CMul fun i j => .int (i * j)) (rOr rRep rMulS)
theorem op_mulA {X : Cx} : OpR X (binaryOp .Mult) rMulA := op_or2 op_mul (op_or2 op_rep op_mulS)
noncomputable def dMulA (a b : D) : Option D := match a, b with
  | .int i, .int j => if smallB i || smallB j then some (.int (i * j)) else none
  | .lst ds, .int k => if decide (0 ≤ k) && decide (k ≤ 1000000) && decide (ds.length * k.toNat ≤ sizeLine) then some (.lst (List.replicate k.toNat ds).flatten) else none
  | .str s, .int n => if n = 0 then some (.str Str.empty) else if n = 1 then some (.str s) else none
  | _, _ => none
theorem Rps.rep {F : Hp} {vs : List V} {ds : List D} (h : Rps G F vs ds) : ∀ n : Nat, Rps G F (List.replicate n vs).flatten (List.replicate n ds).flatten
  | 0 => .nil
  | n + 1 => by
    rw [List.replicate_succ, List.replicate_succ, List.flatten_cons, List.flatten_cons]
    exact h.append (Rps.rep h n)
theorem od_mulA : Opd G W rMulA (pur dMulA) := fun B F H σ ρ x y dx dy Q gg S rx ry h => by
  unfold pur at h
  obtain ⟨d, e, q, qn⟩ := lift_fits S h
  unfold dMulA at e
  split at e
  · rename_i i j
    split at e
    · rename_i hh
      cases e
      refine .inl ⟨_, _, rx.int_inv, ry.int_inv, ?_, q _ (.int _)⟩
      unfold CMul
      unfold smallB at hh
      simpa using hh
    · cases e
  · rename_i ds k
    split at e
    · rename_i hh
      cases e
      simp only [Bool.and_eq_true, decide_eq_true_eq] at hh
      obtain ⟨⟨h1, h2⟩, h3⟩ := hh
      obtain ⟨a, vs, rfl, ha, ra⟩ := rx.lst_inv S.sub
      refine .inr (.inl ⟨a, k, vs, rfl, ry.int_inv, ha, by omega, by omega, by rw [ra.length]; exact h3, fun p hp => qn p _ _ hp (.lst upd_same ((ra.rep _).mono ?_))⟩)
      exact Ex.new (S.sub.free hp)
    · cases e
  · split at e
    · cases e
      rename_i hn
      subst hn
      exact .inr (.inr ⟨_, _, rx.str_inv, ry.int_inv, .inl ⟨rfl, q _ (.str _)⟩⟩)
    · split at e
      · cases e
        rename_i hn
        subst hn
        exact .inr (.inr ⟨_, _, rx.str_inv, ry.int_inv, .inr ⟨rfl, q _ (.str _)⟩⟩)
      · cases e
  · cases e
end
/-! str(o) by the class's own __str__ -/
section
variable {X : Cx} {CX : CXT} {k : Nat} {C f : Addr} {fd : FuncData} {ps : List Str} {sp : Sp} {E : XK}
variable {P : Program} {w : World} {K : PySem.W.Frag} {mg : Str → Option Value} {base : Heap} {cn : Str} {j : Nat}
end
section
variable {G : Cg} {W : Wx}
/-! C(), with a star that is empty -/
end
end Eo
namespace Eo
open PySem L2 PySem.Spec PyProof.Rows StX
section
variable {P : Program} {w : World} {K : PySem.W.Frag} {mg : Str → Option Value} {base : Heap} {X : Cx} {cn p1 : Str} {j k : Nat} {C : Addr} {sp : Sp} {p pos : Pos}
end
end Eo
/-! own objects: isinstance, ==, !=, + | &; dict comprehensions; max and min of two -/
namespace Eo
open PySem L2 PySem.Spec PyProof.Rows StX
section
variable {prog : Program} {w : World} {A : Around} {E : Value → Shared → Prop} {s : Shared} {K : PySem.W.Frag} {x C L f : Addr} {h₀ : Heap} {m : Str → Option Value} {ox : Obj} {od : Option Obj} {name : Str} {b : Value}
end
section
variable {X : Cx} {CX : CXT} {k : Nat} {C f : Addr} {fd : FuncData} {ps : List Str} {sp : Sp} {E : XK}
end
section
variable {G : Cg} {W : Wx}
/-! isinstance(x, C), x an instance of C -/
/-! max(i, j), min(i, j) -/
/-! {k: v for target in iter if ..} -/
end
/-! ### facts and rules -/
section
variable {X : Cx} {P : Program} {w : World} {K : PySem.W.Frag} {mg : Str → Option Value} {base : Heap} {j k : Nat} {C : Addr} {cn m : Str} {ps : List Str} {sp : Sp} {op : Operator}
end
section
variable {X : Cx}
end
end Eo
/-! sorted of a tuple of texts -/
namespace Eo
open PySem L2 PySem.Spec PyProof.Rows StX
section
variable {prog : Program} {w : World} {A : Around} {E : Value → Shared → Prop} {s : Shared}
end
section
variable {G : Cg} {W : Wx}
end
end Eo
namespace Eo
open PySem L2
/-! ## what a mirror is to come to -/
noncomputable abbrev KX := Str → List (Str × D) → Env → Prop
noncomputable abbrev nox : KX := fun _ _ _ => False
noncomputable def R.Wm {α : Type} (r : R α) (E : KX) (P : α → Env → Prop) : Prop := match r with
  | .ok a ρ => P a ρ
  | .err c fs ρ => E c fs ρ
  | .bad => False
noncomputable def O.Wm (o : O) (N B C : Env → Prop) (T : AV → Env → Prop) (E : KX) : Prop := match o with
  | .nx ρ => N ρ
  | .bk ρ => B ρ
  | .ct ρ => C ρ
  | .rt d ρ => T (.dat d) ρ
  | .ro t ρ => T (.own t) ρ
  | .err c fs ρ => E c fs ρ
  | .bad => False
structure R.W {α : Type} (r : R α) (E : KX) (P : α → Env → Prop) : Prop where
  out : r.Wm E P
structure O.W (o : O) (N B C : Env → Prop) (T : AV → Env → Prop) (E : KX) : Prop where
  out : o.Wm N B C T E
section
variable {α : Type} {E : KX} {ρ : Env}
theorem R.W.mono {r : R α} {P Q : α → Env → Prop} (h : r.W E P) (hq : ∀ a ρ, P a ρ → Q a ρ) : r.W E Q := by
  cases r with
  | ok a ρ => exact ⟨hq _ _ h.out⟩
  | err c fs ρ => exact ⟨h.out⟩
  | bad => exact ⟨h.out⟩
theorem O.W.mono {o : O} {N N' B B' C C' : Env → Prop} {T T' : AV → Env → Prop} {E E' : KX} (h : o.W N B C T E) (hn : ∀ ρ, N ρ → N' ρ) (hb : ∀ ρ, B ρ → B' ρ) (hc : ∀ ρ, C ρ → C' ρ) (ht : ∀ v ρ, T v ρ → T' v ρ) (he : ∀ c fs ρ, E c fs ρ → E' c fs ρ) : o.W N' B' C' T' E' := by
  cases o with
  | nx => exact ⟨hn _ h.out⟩
  | rt => exact ⟨ht _ _ h.out⟩
  | ro => exact ⟨ht _ _ h.out⟩
  | bk => exact ⟨hb _ h.out⟩
  | ct => exact ⟨hc _ h.out⟩
  | err => exact ⟨he _ _ _ h.out⟩
  | bad => exact h.out.elim
theorem R.W.ex {r : R α} {P : α → Env → Prop} (h : r.W nox P) : ∃ a ρ, r = .ok a ρ ∧ P a ρ := by
  cases r with
  | ok a ρ => exact ⟨a, ρ, rfl, h.out⟩
  | err => exact h.out.elim
  | bad => exact h.out.elim
theorem W_eq {r : R α} {a : α} {P : α → Env → Prop} (h : r = .ok a ρ) (q : P a ρ) : r.W E P := ⟨by rw [h]; exact q⟩
theorem W_ok {a : α} {P : α → Env → Prop} (q : P a ρ) : (R.ok a ρ).W E P := ⟨q⟩
theorem W_bind {β : Type} {r : R α} {k : α → Env → R β} {P : β → Env → Prop} (h : r.W E fun a ρ => (k a ρ).W E P) : (r.bind k).W E P := by
  cases r with
  | ok a ρ => exact ⟨h.out.out⟩
  | err => exact ⟨h.out⟩
  | bad => exact h.out.elim
theorem W_then {r : R α} {k : α → Env → O} {N B C : Env → Prop} {T : AV → Env → Prop} (h : r.W E fun a ρ => (k a ρ).W N B C T E) : (r.then k).W N B C T E := by
  cases r with
  | ok a ρ => exact ⟨h.out.out⟩
  | err => exact ⟨h.out⟩
  | bad => exact h.out.elim
theorem W_lift {o : Option α} {a : α} {P : α → Env → Prop} (h : o = some a) (q : P a ρ) : (lift o ρ).W E P := ⟨by rw [h]; exact q⟩
end
section
variable {E : KX} {ρ : Env} {P : D → Env → Prop} {PT : Bool → Env → Prop} {PA : List D → Env → Prop} {ma mb mc : ME} {mr : MA}
theorem E_var {i : Nat} {d : D} (h : ρ[i]? = some (.dat d)) (q : P d ρ) : (mVar i ρ).W E P := by unfold mVar; rw [h]; exact W_ok q
theorem E_C {α : Type} {P : α → Env → Prop} {d : α} (q : P d ρ) : (mC d ρ).W E P := W_ok q
theorem E_op {op : D → D → Env → R D} (h : (ma ρ).W E fun a ρ1 => (mb ρ1).W E fun b ρ2 => (op a b ρ2).W E P) : (mOp op ma mb ρ).W E P := W_bind (h.mono fun _ _ h => W_bind h)
theorem E_pur {f : D → D → Option D} {a b d : D} (h : f a b = some d) (q : P d ρ) : (pur f a b ρ).W E P := W_lift h q
theorem E_un {f : D → Option D} (h : (ma ρ).W E fun a ρ1 => ∃ d, f a = some d ∧ P d ρ1) : (mUn f ma ρ).W E P := W_bind (h.mono fun _ _ ⟨_, h1, h2⟩ => W_lift h1 h2)
theorem E_cb {f : List D → Option D} (h : (mr ρ).W E fun a ρ1 => ∃ d, f a = some d ∧ P d ρ1) : (mCB f mr ρ).W E P := W_bind (h.mono fun _ _ ⟨_, h1, h2⟩ => W_lift h1 h2)
theorem E_nil (q : PA [] ρ) : (mNil ρ).W E PA := W_ok q
theorem E_cons (h : (ma ρ).W E fun a ρ1 => (mr ρ1).W E fun ds ρ2 => PA (a :: ds) ρ2) : (mCons ma mr ρ).W E PA := W_bind (h.mono fun _ _ h => W_bind (h.mono fun _ _ h => W_ok h))
theorem E_tup (h : (mr ρ).W E fun ds ρ1 => ds.length ≤ sizeLine ∧ P (.tup ds) ρ1) : (mTup mr ρ).W E P := W_bind (h.mono fun _ _ ⟨h1, h2⟩ => by rw [if_pos h1]; exact W_ok h2)
theorem E_lst (h : (mr ρ).W E fun ds ρ1 => ds.length ≤ sizeLine ∧ P (.lst ds) ρ1) : (mLst mr ρ).W E P := W_bind (h.mono fun _ _ ⟨h1, h2⟩ => by rw [if_pos h1]; exact W_ok h2)
theorem E_tru (h : (ma ρ).W E fun a ρ1 => ∃ b, dTru a = some b ∧ PT b ρ1) : (mTru ma ρ).W E PT := W_bind (h.mono fun _ _ ⟨_, h1, h2⟩ => W_lift h1 h2)
theorem E_tb (h : (ma ρ).W E fun a ρ1 => ∃ b, a = .bl b ∧ PT b ρ1) : (mTB ma ρ).W E PT := W_bind (h.mono fun _ _ ⟨_, h1, h2⟩ => by rw [h1]; exact W_ok h2)
theorem E_yes (h : PT true ρ) : (mYes ρ).W E PT := W_ok h
theorem E_not {ma : MT} (h : (ma ρ).W E fun a ρ1 => PT (!a) ρ1) : (mNot ma ρ).W E PT := W_bind (h.mono fun _ _ h => W_ok h)
theorem E_and {ma mb : MT} (h : (ma ρ).W E fun a ρ1 => (a = true → (mb ρ1).W E PT) ∧ (a = false → PT false ρ1)) : (mAnd ma mb ρ).W E PT := W_bind (h.mono fun a _ ⟨h1, h2⟩ => by
  cases a
  · exact W_ok (h2 rfl)
  · exact h1 rfl)
theorem E_notV (h : (ma ρ).W E fun a ρ1 => ∃ b, dTru a = some b ∧ P (.bl (!b)) ρ1) : (mNotV ma ρ).W E P := W_bind (h.mono fun a _ ⟨b, h0, h1⟩ => by rw [h0]; exact W_ok h1)
theorem E_part {P : Option Int → Env → Prop} (h : (ma ρ).W E fun a ρ1 => ∃ i, a = .int i ∧ P (some i) ρ1) : (mPart ma ρ).W E P := W_bind (h.mono fun _ _ ⟨_, h1, h2⟩ => by rw [h1]; exact W_ok h2)
theorem E_sl {ml mh : MO} (h : (ma ρ).W E fun a ρ1 => (ml ρ1).W E fun lo ρ2 => (mh ρ2).W E fun hi ρ3 => ∃ d, dSl a lo hi = some d ∧ P d ρ3) : (mSl ma ml mh ρ).W E P :=
  W_bind (h.mono fun _ _ h => W_bind (h.mono fun _ _ h => W_bind (h.mono fun _ _ ⟨_, h1, h2⟩ => W_lift h1 h2)))
theorem E_items (h : (ma ρ).W E fun a ρ1 => ∃ ds, dItems a = some ds ∧ PA ds ρ1) : (mItems ma ρ).W E PA := W_bind (h.mono fun _ _ ⟨_, h1, h2⟩ => W_lift h1 h2)
theorem E_range {f : List D → Option (List D)} (h : (mr ρ).W E fun a ρ1 => ∃ ds, f a = some ds ∧ PA ds ρ1) : (mRange f mr ρ).W E PA := W_bind (h.mono fun _ _ ⟨_, h1, h2⟩ => W_lift h1 h2)
theorem E_callP {f : List D → Option AV} (h : (mr ρ).W E fun ds ρ1 => ∃ d, f ds = some (.dat d) ∧ P d ρ1) : (mCallP f mr ρ).W E P := W_bind (h.mono fun _ _ ⟨_, h1, h2⟩ => by rw [h1]; exact W_ok h2)
theorem E_meth {c m : Str} {g : List D → Option AV} (h : (ma ρ).W E fun d ρ1 => ((d.ofC c).map fun fs => getK fs m) = some none ∧ (mr ρ1).W E fun ds ρ2 => ∃ r, g (d :: ds) = some (.dat r) ∧ P r ρ2) : (mMeth c m g ma mr ρ).W E P :=
  W_bind (h.mono fun _ _ ⟨h0, h⟩ => by rw [h0]; exact W_bind (h.mono fun _ _ ⟨_, h1, h2⟩ => by rw [h1]; exact W_ok h2))
theorem E_cm {c : Str} {g : List D → Option AV} (h : (ma ρ).W E fun d ρ1 => d = .cls c ∧ (mr ρ1).W E fun ds ρ2 => ∃ r, g (.cls c :: ds) = some (.dat r) ∧ P r ρ2) : (mCM c g ma mr ρ).W E P :=
  W_bind (h.mono fun _ _ ⟨h0, h⟩ => by subst h0; show R.W (if c = c then _ else _) _ _; rw [if_pos rfl]; exact W_bind (h.mono fun _ _ ⟨_, h1, h2⟩ => by rw [h1]; exact W_ok h2))
theorem E_fz {mw : MW} (h : (mw ρ).W E fun t ρ1 => P t.toD ρ1) : (mFz mw ρ).W E P := W_bind (h.mono fun _ _ h => W_ok h)
/-! trees -/
variable {PW : OT → Env → Prop} {PWs : List OT → Env → Prop} {mw : MW} {mws : MWs}
theorem E_lf (h : (ma ρ).W E fun d ρ1 => PW (.leaf d) ρ1) : (mLf ma ρ).W E PW := W_bind (h.mono fun _ _ h => W_ok h)
theorem E_wnil (h : PWs [] ρ) : (mWNil ρ).W E PWs := W_ok h
theorem E_wcons (h : (mw ρ).W E fun t ρ1 => (mws ρ1).W E fun ts ρ2 => PWs (t :: ts) ρ2) : (mWCons mw mws ρ).W E PWs := W_bind (h.mono fun _ _ h => W_bind (h.mono fun _ _ h => W_ok h))
theorem E_wlst (h : (mws ρ).W E fun ts ρ1 => ts.length ≤ sizeLine ∧ PW (.lst ts) ρ1) : (mWLst mws ρ).W E PW := W_bind (h.mono fun _ _ ⟨h1, h2⟩ => by rw [if_pos h1]; exact W_ok h2)
theorem E_callPW {f : List D → Option AV} (h : (mr ρ).W E fun ds ρ1 => ∃ t, f ds = some (.own t) ∧ PW t ρ1) : (mCallPW f mr ρ).W E PW := W_bind (h.mono fun _ _ ⟨_, h1, h2⟩ => by rw [h1]; exact W_ok h2)
end
section
variable {E : KX} {ρ : Env} {N B C : Env → Prop} {T : AV → Env → Prop} {me : ME} {a b : MS}
theorem ex_and {α : Type} {p q : α → Prop} {a : α} (h : p a) (k : q a) : ∃ a, p a ∧ q a := ⟨a, h, k⟩
theorem if_t {p q : Prop} (h : p) : (true = true → p) ∧ (true = false → q) := ⟨(fun _ => h), (fun z => nomatch z)⟩
theorem if_f {p q : Prop} (h : q) : (false = true → p) ∧ (false = false → q) := ⟨(fun z => nomatch z), (fun _ => h)⟩
theorem S_seq (h : (a ρ).W (fun ρ1 => (b ρ1).W N B C T E) B C T E) : (mSeq a b ρ).W N B C T E := by
  unfold mSeq
  cases e : a ρ <;> rw [e] at h
  · exact ⟨h.out.out⟩
  all_goals exact ⟨h.out⟩
theorem O_nx (h : N ρ) : (O.nx ρ).W N B C T E := ⟨h⟩
theorem S_next (h : N ρ) : (mNext ρ).W N B C T E := ⟨h⟩
theorem S_brk (h : B ρ) : (mBrk ρ).W N B C T E := ⟨h⟩
theorem S_ct (h : C ρ) : (mCt ρ).W N B C T E := ⟨h⟩
theorem S_ret (h : (me ρ).W E fun d ρ1 => T (.dat d) ρ1) : (mRet me ρ).W N B C T E := W_then (h.mono fun _ _ h => ⟨h⟩)
theorem S_retN (h : T (.dat .non) ρ) : (mRetN ρ).W N B C T E := ⟨h⟩
theorem S_drop (h : (me ρ).W E fun d ρ1 => N ρ1) : (mDrop me ρ).W N B C T E := W_then (h.mono fun _ _ h => ⟨h⟩)
theorem S_if {mt : MT} (h : (mt ρ).W E fun c ρ1 => (c = true → (a ρ1).W N B C T E) ∧ (c = false → (b ρ1).W N B C T E)) : (mIf mt a b ρ).W N B C T E := W_then (h.mono fun c _ ⟨h1, h2⟩ => by
  cases c
  · exact h2 rfl
  · exact h1 rfl)
theorem S_asg {mg : D → Env → Option Env} (h : (me ρ).W E fun d ρ1 => ∃ ρ2, mg d ρ1 = some ρ2 ∧ N ρ2) : (mAsg me mg ρ).W N B C T E := W_then (h.mono fun _ _ ⟨_, h1, h2⟩ => by rw [h1]; exact ⟨h2⟩)
theorem S_set {i : Nat} (h : (me ρ).W E fun d ρ1 => ∃ ρ2, ρ1.set i (.dat d) = ρ2 ∧ N ρ2) : (mAsg me (gSet i) ρ).W N B C T E := W_then (h.mono fun _ _ ⟨_, h1, h2⟩ => by subst h1; exact ⟨h2⟩)
theorem S_for {mi : MA} {mg : D → Env → Option Env} (h : (mi ρ).W E fun ds ρ1 => (forD mg a ds ρ1).W N B C T E) : (mFor mi mg a ρ).W N B C T E := W_then h
/-- a loop by its invariant -/
theorem F_inv {mg : D → Env → Option Env} (I : Nat → Env → Prop) : ∀ (ds : List D) (j : Nat) (ρ : Env), I j ρ →
    (∀ (i : Nat) (d : D) (ρ : Env), ds[i]? = some d → I (j + i) ρ → ∃ ρ1, mg d ρ = some ρ1 ∧ (a ρ1).W (I (j + i + 1)) N (I (j + i + 1)) T E) → (∀ ρ, I (j + ds.length) ρ → N ρ) → (forD mg a ds ρ).W N B C T E
  | [], j, ρ, h, _, q => ⟨q ρ h⟩
  | d :: ds, j, ρ, h, s, q => by
    obtain ⟨ρ1, e1, hw⟩ := s 0 d ρ rfl h
    have ih := fun ρ2 (h2 : I (j + 1) ρ2) => F_inv I ds (j + 1) ρ2 h2 (fun i d' ρ' hd hi => by
      have e : j + (i + 1) = j + 1 + i := by omega
      have := s (i + 1) d' ρ' (by simpa using hd) (by rw [e]; exact hi)
      rw [e] at this
      exact this) (fun ρ' h' => q ρ' (by
        have e : j + (ds.length + 1) = j + 1 + ds.length := by omega
        rw [List.length_cons, e]; exact h'))
    rw [forD, e1]
    show O.W (match a ρ1 with | .nx ρ2 => forD mg a ds ρ2 | .ct ρ2 => forD mg a ds ρ2 | .bk ρ2 => .nx ρ2 | o => o) N B C T E
    cases e2 : a ρ1 <;> rw [e2] at hw
    · exact ih _ hw.out
    · exact ⟨hw.out⟩
    · exact ⟨hw.out⟩
    · exact ⟨hw.out⟩
    · exact ih _ hw.out
    · exact ⟨hw.out⟩
    · exact hw.out.elim
theorem S_setW {i : Nat} {mw : MW} (h : (mw ρ).W E fun t ρ1 => ∃ ρ2, ρ1.set i (.own t) = ρ2 ∧ N ρ2) : (mSetW i mw ρ).W N B C T E := W_then (h.mono fun _ _ ⟨_, h1, h2⟩ => by subst h1; exact ⟨h2⟩)
theorem S_retW {mw : MW} (h : (mw ρ).W E fun t ρ1 => T (.own t) ρ1) : (mRetW mw ρ).W N B C T E := W_then (h.mono fun _ _ h => ⟨h⟩)
theorem S_frz {i : Nat} (h : ∃ ρ2, frz i ρ = ρ2 ∧ (a ρ2).W N B C T E) : (mFrz i a ρ).W N B C T E := by
  obtain ⟨_, rfl, h⟩ := h
  exact h
theorem S_par {i j : Nat} {mr : MA} (h : (mr ρ).W E fun ds ρ1 => ∃ x y, ds = [x, y] ∧ ∃ ρ2, (ρ1.set i (.dat x)).set j (.dat y) = ρ2 ∧ N ρ2) : (mPar i j mr ρ).W N B C T E := W_then (h.mono fun _ _ ⟨_, _, h1, _, h2, h3⟩ => by subst h1; subst h2; exact ⟨h3⟩)
end
/-! defs -/
theorem fnP_W {N : List Str} {n : Nat} {m : MS} {ds : List D} {Q : AV → Prop} (hl : ds.length = n) (h : (m (entry N ds)).W (fun _ => Q (.dat .non)) (fun _ => False) (fun _ => False) (fun v _ => Q v) nox) : ∃ r, fnP N n m ds = some r ∧ Q r := by
  unfold fnP
  rw [if_pos hl]
  cases e : m (entry N ds) <;> rw [e] at h
  · exact ⟨_, rfl, h.out⟩
  · exact ⟨_, rfl, h.out⟩
  · exact ⟨_, rfl, h.out⟩
  · exact h.out.elim
  · exact h.out.elim
  · exact h.out.elim
  · exact h.out.elim
theorem fnP_eq {N : List Str} {n : Nat} {m : MS} {ds : List D} {v : AV} (hl : ds.length = n) (h : (m (entry N ds)).W (fun _ => .dat .non = v) (fun _ => False) (fun _ => False) (fun u _ => u = v) nox) : fnP N n m ds = some v := by
  obtain ⟨r, h1, h2⟩ := fnP_W (Q := fun u => u = v) hl h
  rw [h1, h2]
theorem fnI_W {N : List Str} {n : Nat} {m : MS} {t : OT} {ds : List D} {Q : AV → OT → Prop} (hl : ds.length + 1 = n) (h : (m (entryI N t ds)).W (fun ρ => ∃ t', io0 ρ = some t' ∧ Q (.dat .non) t') (fun _ => False) (fun _ => False) (fun v ρ => ∃ t', io0 ρ = some t' ∧ Q v t') nox) :
    ∃ r t', fnI N n m t ds = some (r, t') ∧ Q r t' := by
  unfold fnI
  rw [if_pos hl]
  cases e : m (entryI N t ds) <;> rw [e] at h
  · obtain ⟨t', h1, h2⟩ := h.out
    exact ⟨_, t', by simp [O.valI, h1], h2⟩
  · obtain ⟨t', h1, h2⟩ := h.out
    exact ⟨_, t', by simp [O.valI, h1], h2⟩
  · obtain ⟨t', h1, h2⟩ := h.out
    exact ⟨_, t', by simp [O.valI, h1], h2⟩
  · exact h.out.elim
  · exact h.out.elim
  · exact h.out.elim
  · exact h.out.elim
end Eo
namespace Eo
open PySem L2
section
variable {E : KX} {ρ : Env} {P : D → Env → Prop} {mr : MA} {f : OT → List D → Option (AV × OT)} {p : OT} {r : Env} {s0 : Sl}
theorem sub_nil (t : OT) : t.sub [] = some t := by cases t <;> rfl
theorem put_nil (t s : OT) : t.put [] s = s := by cases t <;> rfl
end
/-! ## lists made by a comprehension -/
section
variable {E : KX} {ρ : Env} {P : D → Env → Prop} {vs : List Nat} {mi : MA} {mg : D → Env → Option Env} {mt : MT} {me : ME}
/-- a comprehension of what is told by functions -/
theorem lcD_map {α : Type} (enc : α → D) (p : α → Bool) (g : α → D) {ρ : Env} : ∀ (xs : List α) (acc : List D),
    (∀ x ∈ xs, ∃ ρ1 ρ2, mg (enc x) ρ = some ρ1 ∧ mt ρ1 = .ok (p x) ρ2 ∧ (p x = false → wipeE ρ2 vs = ρ) ∧ (p x = true → ∃ ρ3, me ρ2 = .ok (g x) ρ3 ∧ wipeE ρ3 vs = ρ)) →
    acc.length + xs.length ≤ sizeLine → lcD vs mg mt me (xs.map enc) acc ρ = .ok (acc ++ (xs.filter p).map g) ρ
  | [], acc, _, _ => by simp [lcD]
  | x :: xs, acc, h, hl => by
    obtain ⟨ρ1, ρ2, e1, e2, e3, e4⟩ := h x (List.mem_cons_self ..)
    rw [List.length_cons] at hl
    have h' := fun y hy => h y (List.mem_cons_of_mem _ hy)
    rw [List.map_cons, lcD, e1]
    simp only [e2]
    cases hp : p x with
    | false =>
      simp only [e3 hp]
      rw [lcD_map enc p g xs acc h' (by omega), List.filter_cons_of_neg (by simp [hp])]
    | true =>
      obtain ⟨ρ3, e5, e6⟩ := e4 hp
      have hlt : acc.length < sizeLine := by omega
      simp only [e5, e6, if_pos hlt]
      rw [lcD_map enc p g xs (acc ++ [g x]) h' (by rw [List.length_append, List.length_singleton]; omega), List.filter_cons_of_pos hp, List.map_cons, List.append_assoc]
      rfl
theorem mLc_map {α : Type} (enc : α → D) (p : α → Bool) (g : α → D) {ρ ρ1 ρ0 ρ9 : Env} {xs : List α} (hi : mi ρ = .ok (xs.map enc) ρ1) (h0 : wipeE ρ1 vs = ρ0) (hl : xs.length ≤ sizeLine)
    (h : ∀ x ∈ xs, ∃ ρ1 ρ2, mg (enc x) ρ0 = some ρ1 ∧ mt ρ1 = .ok (p x) ρ2 ∧ (p x = false → wipeE ρ2 vs = ρ0) ∧ (p x = true → ∃ ρ3, me ρ2 = .ok (g x) ρ3 ∧ wipeE ρ3 vs = ρ0)) (h9 : wipeE ρ0 vs = ρ9) :
    mLc vs mi mg mt me ρ = .ok (.lst ((xs.filter p).map g)) ρ9 := by
  unfold mLc
  rw [hi]
  simp only [R.bind]
  rw [h0, lcD_map enc p g xs [] h (by simpa using hl)]
  simp only [h9, List.nil_append]
end
theorem range_mem {lo : Int} {n i : Nat} {d : D} (h : (rangeD lo n)[i]? = some d) : i < n ∧ d = .int (lo + i) := by
  unfold rangeD at h
  rw [List.getElem?_map] at h
  by_cases hi : i < n
  · rw [List.getElem?_range hi] at h
    simp at h
    exact ⟨hi, h.symm⟩
  · rw [List.getElem?_eq_none (by simpa using hi)] at h
    cases h
theorem range1 {n : Nat} (h : n < 1000000) : dRange1 [.int n] = some (rangeD 0 n) := by
  have : in62 (n : Int) = true := by
    unfold in62
    rw [Bool.and_eq_true, decide_eq_true_eq, decide_eq_true_eq]
    have : (1000000 : Int) ≤ 2 ^ 62 := by decide
    omega
  show (if in62 (n : Int) = true then some (rangeD 0 (n : Int).toNat) else none) = _
  rw [if_pos this]
  simp
/-! ## the pen -/
noncomputable def penOf (ns : List Int) (t r : Int) : OT := .lst [.leaf (.lst (ns.map .int)), .leaf (.int t), .leaf (.int r)]
/-- the pen holds numbers, a place and a rest -/
noncomputable def POk (N : Nat) (p : OT) : Prop := ∃ (ns : List Int) (t r : Int), p = penOf ns t r ∧ ns.length ≤ 63 ∧ 0 ≤ t ∧ t ≤ N ∧ 0 ≤ r
theorem POk.le {N M : Nat} {p : OT} (h : POk N p) (l : N ≤ M) : POk M p := by
  obtain ⟨ns, t, r, h1, h2, h3, h4, h5⟩ := h
  exact ⟨ns, t, r, h1, h2, h3, by omega, h5⟩
/-- what a def that draws an integer does -/
noncomputable def DrawOk (f : OT → List D → Option (AV × OT)) : Prop := ∀ {N : Nat} {p : OT} {n : Int}, POk N p → N < 1000000 → 0 < n → n < 1073741824 → ∃ d p', f p [.int n] = some (.dat (.int d), p') ∧ 0 ≤ d ∧ d < n ∧ POk (N + 1) p'
theorem fmod_lo (a : Int) {m : Int} (h : 0 < m) : 0 ≤ a.fmod m := Int.fmod_nonneg_of_pos a h
theorem fmod_hi (a : Int) {m : Int} (h : 0 < m) : a.fmod m < m := Int.fmod_lt_of_pos a h
theorem fdiv_nn {a n : Int} (ha : 0 ≤ a) (hn : 0 < n) : 0 ≤ a.fdiv n := Int.fdiv_nonneg ha (by omega)
theorem atI_some {α : Type} {xs : List α} {i : Int} (h0 : 0 ≤ i) (h1 : i < xs.length) : ∃ x, atI xs i = some x ∧ x ∈ xs := by
  have h2 : i.toNat < xs.length := by omega
  refine ⟨xs[i.toNat], ?_, List.getElem_mem h2⟩
  have e : ixN xs.length i = some i.toNat := by unfold ixN; rw [if_pos h0, if_pos h1]
  unfold atI
  rw [e, Option.bind_some, List.getElem?_eq_getElem h2]
theorem atI_nat {α : Type} {xs : List α} {i : Nat} {x : α} (h : xs[i]? = some x) : atI xs (i : Int) = some x := by
  have h2 : i < xs.length := by
    rcases Nat.lt_or_ge i xs.length with q | q
    · exact q
    · rw [List.getElem?_eq_none q] at h; cases h
  have e : ixN xs.length (i : Int) = some i := by unfold ixN; rw [if_pos (by omega), if_pos (by omega)]; simp
  unfold atI
  rw [e, Option.bind_some, h]
section
variable {E : KX} {P : D → Env → Prop} {f : OT → List D → Option (AV × OT)} {p : OT} {r : Env} {s0 : Sl} {mr : MA} {N : Nat}
end
theorem pen_ok {N : List Str} {m : MS} (ns : List Int) (hN : N.length = 1) (hm : ∀ ρ : Env, ρ.length = 1 → ρ[0]? = some (.dat (.scr ns)) → m ρ = .ro (.lst [.leaf (.lst ((cutL ns none (some 63)).map .int)), .leaf (.int 0), .leaf (.int 0)]) ρ) : ∃ p, fnP N 1 m [.scr ns] = some (.own p) ∧ POk 0 p := by
  refine ⟨penOf (cutL ns none (some 63)) 0 0, ?_, cutL ns none (some 63), 0, 0, rfl, ?_, by decide, by decide, by decide⟩
  · have : fnP N 1 m [.scr ns] = (m (entry N [.scr ns])).val := rfl
    rw [this]
    unfold entry
    rw [hN, hm _ rfl rfl]
    rfl
  · unfold cutL
    rw [List.length_take]
    have : HT.sIx ns.length ns.length (some 63) ≤ 63 := by
      unfold HT.sIx
      simp
      omega
    omega
end Eo
namespace Eo
open PySem L2
section
variable {E : KX} {P : D → Env → Prop} {ρ : Env}
theorem E_addI {i j : Int} (h : P (.int (i + j)) ρ) : (pur dAdd (.int i) (.int j) ρ).W E P := W_ok h
theorem E_subI {i j : Int} (h : P (.int (i - j)) ρ) : (pur dSub (.int i) (.int j) ρ).W E P := W_ok h
theorem E_ltI {i j : Int} (h : P (.bl (decide (i < j))) ρ) : (pur dLt (.int i) (.int j) ρ).W E P := W_ok h
theorem E_leI {i j : Int} (h : P (.bl (decide (i ≤ j))) ρ) : (pur dLe (.int i) (.int j) ρ).W E P := W_ok h
theorem E_gtI {i j : Int} (h : P (.bl (decide (j < i))) ρ) : (pur dGt (.int i) (.int j) ρ).W E P := W_ok h
theorem E_geI {i j : Int} (h : P (.bl (decide (j ≤ i))) ρ) : (pur dGe (.int i) (.int j) ρ).W E P := W_ok h
theorem E_eqI {i j : Int} (h : P (.bl (decide (i = j))) ρ) : (pur dEqX (.int i) (.int j) ρ).W E P := W_ok h
theorem E_neI {i j : Int} (h : P (.bl (!decide (i = j))) ρ) : (pur dNeX (.int i) (.int j) ρ).W E P := W_ok h
theorem E_eqS {i j : Str} (h : P (.bl (decide (i = j))) ρ) : (pur dEqX (.str i) (.str j) ρ).W E P := W_ok h
theorem E_neS {i j : Str} (h : P (.bl (!decide (i = j))) ρ) : (pur dNeX (.str i) (.str j) ρ).W E P := W_ok h
theorem E_mulI {i j : Int} (s : smallB i = true ∨ smallB j = true) (h : P (.int (i * j)) ρ) : (pur dMul (.int i) (.int j) ρ).W E P := E_pur (by
  show (if (smallB i || smallB j) = true then some (D.int (i * j)) else none) = _
  rw [if_pos (by rcases s with s | s <;> simp [s])]) h
theorem E_modI {i j : Int} (s : j ≠ 0) (h : P (.int (i.fmod j)) ρ) : (pur dMod (.int i) (.int j) ρ).W E P := E_pur (by
  show (if decide (j ≠ 0) = true then some (D.int (i.fmod j)) else none) = _
  rw [if_pos (by simp [s])]) h
theorem E_fdivI {i j : Int} (s : j ≠ 0) (s' : j.natAbs < 1073741824) (h : P (.int (i.fdiv j)) ρ) : (pur dFdiv (.int i) (.int j) ρ).W E P := E_pur (by
  show (if (decide (j ≠ 0) && decide (j.natAbs < 1073741824)) = true then some (D.int (i.fdiv j)) else none) = _
  rw [if_pos (by simp [s, s'])]) h
theorem E_powI {i : Int} {j : Nat} (s : j ≤ 1000000) (s' : i.natAbs < 2 ^ 64) (h : P (.int (i ^ j)) ρ) : (pur dPow (.int i) (.int j) ρ).W E P := E_pur (by
  show (if (decide (0 ≤ (j : Int)) && decide ((j : Int) ≤ 1000000) && decide (i.natAbs < 2 ^ 64)) = true then some (D.int (i ^ ((j : Int).toNat))) else none) = _
  have h1 : (0 : Int) ≤ j := by omega
  have h2 : (j : Int) ≤ 1000000 := by omega
  rw [if_pos (by simp [h1, h2, s'])]
  simp) h
end
/-! ## the draws of the laws -/
theorem E_leaf_penC {E : KX} {P : D → Env → Prop} {ns : List Int} {t r : Int} {rr : Env} {k : Int} {d : D} (hk : ixN 3 k = some 0 ∧ d = .lst (ns.map .int) ∨ ixN 3 k = some 1 ∧ d = .int t ∨ ixN 3 k = some 2 ∧ d = .int r) (q : P d (.io (penOf ns t r) :: rr)) : (mLeaf 0 (mPIxC 0 k (mPV 0)) (.io (penOf ns t r) :: rr)).W E P := by
  rcases hk with ⟨h, rfl⟩ | ⟨h, rfl⟩ | ⟨h, rfl⟩ <;> simpa [mLeaf, mPIxC, mPV, subE, Sl.tree, OT.sub, OT.kid, penOf, R.bind, h] using (W_ok (E := E) q)
theorem ix30 : ixN 3 (0 : Int) = some 0 := rfl
theorem ix31 : ixN 3 (1 : Int) = some 1 := rfl
theorem ix32 : ixN 3 (2 : Int) = some 2 := rfl
section
variable {E : KX} {N B C : Env → Prop} {T : AV → Env → Prop} {P : D → Env → Prop} {ns : List Int} {t r : Int} {rr : Env} {me : ME} {mr : MA}
theorem E_pen0 (q : P (.lst (ns.map .int)) (.io (penOf ns t r) :: rr)) : (mLeaf 0 (mPIxC 0 0 (mPV 0)) (.io (penOf ns t r) :: rr)).W E P := E_leaf_penC (.inl ⟨ix30, rfl⟩) q
theorem E_pen1 (q : P (.int t) (.io (penOf ns t r) :: rr)) : (mLeaf 0 (mPIxC 0 1 (mPV 0)) (.io (penOf ns t r) :: rr)).W E P := E_leaf_penC (.inr (.inl ⟨ix31, rfl⟩)) q
theorem E_pen2 (q : P (.int r) (.io (penOf ns t r) :: rr)) : (mLeaf 0 (mPIxC 0 2 (mPV 0)) (.io (penOf ns t r) :: rr)).W E P := E_leaf_penC (.inr (.inr ⟨ix32, rfl⟩)) q
theorem S_penP1 (h : (me (.io (penOf ns t r) :: rr)).W E fun d ρ => ∃ i, d = .int i ∧ ∃ rr', ρ = .io (penOf ns t r) :: rr' ∧ N (.io (penOf ns i r) :: rr')) : (mPutP 0 (mPV 0) (mC (.int 1)) me (.io (penOf ns t r) :: rr)).W N B C T E := by
  refine W_then (h.mono ?_)
  rintro d ρ ⟨i, rfl, rr', rfl, q⟩
  simpa [mPV, subE, Sl.tree, OT.sub, penOf, R.then, mLk, lockE, backE, R.mapE, mC, ix31, mutE, Sl.mut, putE, OT.put, Sl.putT] using (O_nx (B := B) (C := C) (T := T) (E := E) q)
theorem S_penP2 (h : (me (.io (penOf ns t r) :: rr)).W E fun d ρ => ∃ i, d = .int i ∧ ∃ rr', ρ = .io (penOf ns t r) :: rr' ∧ N (.io (penOf ns t i) :: rr')) : (mPutP 0 (mPV 0) (mC (.int 2)) me (.io (penOf ns t r) :: rr)).W N B C T E := by
  refine W_then (h.mono ?_)
  rintro d ρ ⟨i, rfl, rr', rfl, q⟩
  simpa [mPV, subE, Sl.tree, OT.sub, penOf, R.then, mLk, lockE, backE, R.mapE, mC, ix32, mutE, Sl.mut, putE, OT.put, Sl.putT] using (O_nx (B := B) (C := C) (T := T) (E := E) q)
end
theorem smallI {i : Int} (h : -1000000000000 ≤ i) (h' : i ≤ 1000000000000) : smallB i = true := by
  unfold smallB
  simp
  omega
end Eo
namespace Eo
open PySem L2
theorem zl0 : (0 ≤ sizeLine) = True := eq_true (by decide)
theorem zl1 : (0 + 1 ≤ sizeLine) = True := eq_true (by decide)
theorem zl2 : (0 + 1 + 1 ≤ sizeLine) = True := eq_true (by decide)
theorem zl3 : (0 + 1 + 1 + 1 ≤ sizeLine) = True := eq_true (by decide)
theorem zl4 : (0 + 1 + 1 + 1 + 1 ≤ sizeLine) = True := eq_true (by decide)
theorem zl5 : (0 + 1 + 1 + 1 + 1 + 1 ≤ sizeLine) = True := eq_true (by decide)
theorem zl6 : (0 + 1 + 1 + 1 + 1 + 1 + 1 ≤ sizeLine) = True := eq_true (by decide)
theorem zl7 : (0 + 1 + 1 + 1 + 1 + 1 + 1 + 1 ≤ sizeLine) = True := eq_true (by decide)
theorem zl8 : (0 + 1 + 1 + 1 + 1 + 1 + 1 + 1 + 1 ≤ sizeLine) = True := eq_true (by decide)
theorem zk0 : (0 < sizeLine) = True := eq_true (by decide)
theorem zk1 : (0 + 1 < sizeLine) = True := eq_true (by decide)
theorem zk2 : (0 + 1 + 1 < sizeLine) = True := eq_true (by decide)
theorem zk3 : (0 + 1 + 1 + 1 < sizeLine) = True := eq_true (by decide)
theorem zk4 : (0 + 1 + 1 + 1 + 1 < sizeLine) = True := eq_true (by decide)
theorem zk5 : (0 + 1 + 1 + 1 + 1 + 1 < sizeLine) = True := eq_true (by decide)
theorem zk6 : (0 + 1 + 1 + 1 + 1 + 1 + 1 < sizeLine) = True := eq_true (by decide)
theorem zk7 : (0 + 1 + 1 + 1 + 1 + 1 + 1 + 1 < sizeLine) = True := eq_true (by decide)
theorem zk8 : (0 + 1 + 1 + 1 + 1 + 1 + 1 + 1 + 1 < sizeLine) = True := eq_true (by decide)
theorem mLc_pure {α : Type} {vs : List Nat} {mi : MA} {mg : D → Env → Option Env} {mt : MT} {me : ME} {ρ : Env} (ρ' : Env) (enc : α → D) (p : α → Bool) (g : α → D) (xs : List α) (hw : wipeE ρ vs = ρ') (hw' : wipeE ρ' vs = ρ') (hi : mi ρ = .ok (xs.map enc) ρ) (hl : xs.length ≤ sizeLine)
    (h : ∀ x ∈ xs, ∃ ρ1, mg (enc x) ρ' = some ρ1 ∧ mt ρ1 = .ok (p x) ρ1 ∧ wipeE ρ1 vs = ρ' ∧ (p x = true → me ρ1 = .ok (g x) ρ1)) : mLc vs mi mg mt me ρ = .ok (.lst ((xs.filter p).map g)) ρ' :=
  mLc_map enc p g hi hw hl (fun x hx => by
    obtain ⟨ρ1, h1, h2, h3, h4⟩ := h x hx
    exact ⟨ρ1, ρ1, h1, h2, (fun _ => h3), fun z => ⟨ρ1, h4 z, h3⟩⟩) hw'
theorem mLc_each {α : Type} {vs : List Nat} {mi : MA} {mg : D → Env → Option Env} {me : ME} {ρ : Env} (ρ' : Env) (enc : α → D) (g : α → D) (xs : List α) (hw : wipeE ρ vs = ρ') (hw' : wipeE ρ' vs = ρ') (hi : mi ρ = .ok (xs.map enc) ρ) (hl : xs.length ≤ sizeLine)
    (h : ∀ x ∈ xs, ∃ ρ1, mg (enc x) ρ' = some ρ1 ∧ wipeE ρ1 vs = ρ' ∧ me ρ1 = .ok (g x) ρ1) : mLc vs mi mg mYes me ρ = .ok (.lst (xs.map g)) ρ' := by
  have := mLc_pure (mt := mYes) ρ' enc (fun _ => true) g xs hw hw' hi hl (fun x hx => by
    obtain ⟨ρ1, h1, h2, h3⟩ := h x hx
    exact ⟨ρ1, h1, rfl, h2, fun _ => h3⟩)
  rw [List.filter_eq_self.mpr (fun _ _ => rfl)] at this
  exact this
/-! ## loops told by a fold -/
/-! ## dicts from texts to integers -/
section
variable {α : Type}
end
end Eo
namespace Eo
open PySem L2
section
variable {E : KX} {ρ ρ' : Env} {N B C : Env → Prop} {T : AV → Env → Prop} {a b : MS}
theorem S_nx (h : a ρ = .nx ρ') (k : (b ρ').W N B C T E) : (mSeq a b ρ).W N B C T E := S_seq (by rw [h]; exact ⟨k⟩)
theorem S_cut (M : Env → Prop) (h : (a ρ).W M B C T E) (k : ∀ ρ1, M ρ1 → (b ρ1).W N B C T E) : (mSeq a b ρ).W N B C T E := S_seq (h.mono k (fun _ h => h) (fun _ h => h) (fun _ _ h => h) (fun _ _ _ h => h))
theorem W_nx (h : a ρ = .nx ρ') (k : N ρ') : (a ρ).W N B C T E := by rw [h]; exact ⟨k⟩
theorem W_rt {d : D} (h : a ρ = .rt d ρ') (k : T (.dat d) ρ') : (a ρ).W N B C T E := by rw [h]; exact ⟨k⟩
theorem if_ff {mt : MT} (h : mt ρ = .ok false ρ') : mIf mt a b ρ = b ρ' := by unfold mIf; rw [h]; rfl
end
/-- calls that change a lent tree, as equations -/
theorem callI0 {f : OT → List D → Option (AV × OT)} {p p' : OT} {r r2 : Env} {mr : MA} {ds : List D} {d : D} (hm : mr (.lck p :: r) = .ok ds (.lck p :: r2)) (h : f p ds = some (.dat d, p')) : mCallI f 0 (mPV 0) mr (.io p :: r) = .ok d (.io p' :: r2) := by
  have a1 : subE 0 [] (.io p :: r) = some p := by simp [subE, Sl.tree, sub_nil]
  have a2 : mLk 0 mr (.io p :: r) = .ok ds (.io p :: r2) := by
    have : lockE 0 (.io p :: r) = .lck p :: r := rfl
    unfold mLk; rw [this, hm]; rfl
  have a3 : subE 0 [] (.io p :: r2) = some p := by simp [subE, Sl.tree, sub_nil]
  have a4 : putE 0 [] p' (.io p :: r2) = .io p' :: r2 := by simp [putE, Sl.tree, Sl.putT, put_nil]
  have a5 : mutE 0 (.io p :: r2) = true := rfl
  have a0 : mPV 0 (.io p :: r) = .ok [] (.io p :: r) := by unfold mPV; rw [a1]
  unfold mCallI
  rw [a0]
  simp only [R.bind, a1, a2, a3, a5, h, a4, if_true]
theorem callI1 {f : OT → List D → Option (AV × OT)} {p p' : OT} {s0 s1 : Sl} {r r2 : Env} {mr : MA} {ds : List D} {d : D} (hm : mr (s0 :: .lck p :: r) = .ok ds (s1 :: .lck p :: r2)) (h : f p ds = some (.dat d, p')) : mCallI f 1 (mPV 1) mr (s0 :: .own p :: r) = .ok d (s1 :: .own p' :: r2) := by
  have a1 : subE 1 [] (s0 :: .own p :: r) = some p := by simp [subE, Sl.tree, sub_nil]
  have a2 : mLk 1 mr (s0 :: .own p :: r) = .ok ds (s1 :: .own p :: r2) := by
    have : lockE 1 (s0 :: .own p :: r) = s0 :: .lck p :: r := rfl
    unfold mLk; rw [this, hm]; rfl
  have a3 : subE 1 [] (s1 :: .own p :: r2) = some p := by simp [subE, Sl.tree, sub_nil]
  have a4 : putE 1 [] p' (s1 :: .own p :: r2) = s1 :: .own p' :: r2 := by simp [putE, Sl.tree, Sl.putT, put_nil]
  have a5 : mutE 1 (s1 :: .own p :: r2) = true := rfl
  have a0 : mPV 1 (s0 :: .own p :: r) = .ok [] (s0 :: .own p :: r) := by unfold mPV; rw [a1]
  unfold mCallI
  rw [a0]
  simp only [R.bind, a1, a2, a3, a5, h, a4, if_true]
theorem draw0 {f : OT → List D → Option (AV × OT)} {p : OT} {N : Nat} (H : DrawOk f) (hp : POk N p) (n : Int) (r : Env) (mr : MA) (hN : N < 1000000) (h0 : 0 < n) (h1 : n < 1073741824) (hm : mr (.lck p :: r) = .ok [.int n] (.lck p :: r)) :
    ∃ d p', mCallI f 0 (mPV 0) mr (.io p :: r) = .ok (.int d) (.io p' :: r) ∧ 0 ≤ d ∧ d < n ∧ POk (N + 1) p' := by
  obtain ⟨d, p', e, a, b, c⟩ := H hp hN h0 h1
  exact ⟨d, p', callI0 hm e, a, b, c⟩
end Eo
namespace Eo
open PySem L2
/-! ## equations of mirrors that keep what is called shut -/
theorem mRange_eq {f : List D → Option (List D)} {mr : MA} {ρ ρ' : Env} {ds L : List D} (h : mr ρ = .ok ds ρ') (e : f ds = some L) : mRange f mr ρ = .ok L ρ' := by
  unfold mRange
  rw [h]
  show lift (f ds) ρ' = _
  rw [e]; rfl
theorem mCB_eq {f : List D → Option D} {mr : MA} {ρ ρ' : Env} {ds : List D} {d : D} (h : mr ρ = .ok ds ρ') (e : f ds = some d) : mCB f mr ρ = .ok d ρ' := by
  unfold mCB
  rw [h]
  show lift (f ds) ρ' = _
  rw [e]; rfl
theorem mOp_eq {op : D → D → Env → R D} {ma mb : ME} {ρ ρ1 ρ2 : Env} {a b : D} {z : R D} (h : ma ρ = .ok a ρ1) (h2 : mb ρ1 = .ok b ρ2) (e : op a b ρ2 = z) : mOp op ma mb ρ = z := by
  unfold mOp
  rw [h]
  show (mb ρ1).bind _ = _
  rw [h2]; exact e
theorem pur_eq {f : D → D → Option D} {a b d : D} {ρ : Env} (e : f a b = some d) : pur f a b ρ = .ok d ρ := by
  unfold pur
  rw [e]; rfl
theorem mCons_eq {ma : ME} {mr : MA} {ρ ρ1 ρ2 : Env} {a : D} {ds : List D} (h : ma ρ = .ok a ρ1) (h2 : mr ρ1 = .ok ds ρ2) : mCons ma mr ρ = .ok (a :: ds) ρ2 := by
  unfold mCons
  rw [h]
  show (mr ρ1).bind _ = _
  rw [h2]; rfl
theorem mTB_eq {me : ME} {ρ ρ' : Env} {b : Bool} (h : me ρ = .ok (.bl b) ρ') : mTB me ρ = .ok b ρ' := by
  unfold mTB
  rw [h]; rfl
theorem mUn_eq {f : D → Option D} {me : ME} {ρ ρ' : Env} {a b : D} (h : me ρ = .ok a ρ') (e : f a = some b) : mUn f me ρ = .ok b ρ' := by
  unfold mUn
  rw [h]
  show lift (f a) ρ' = _
  rw [e]; rfl
theorem mLst_eq {mr : MA} {ρ ρ' : Env} {ds : List D} (h : mr ρ = .ok ds ρ') (hl : ds.length ≤ sizeLine) : mLst mr ρ = .ok (.lst ds) ρ' := by
  unfold mLst
  rw [h]
  show (if ds.length ≤ sizeLine then _ else _) = _
  rw [if_pos hl]
theorem mVar_eq {i : Nat} {ρ : Env} {d : D} (h : ρ[i]? = some (.dat d)) : mVar i ρ = .ok d ρ := by unfold mVar; rw [h]
theorem mC_eq {α : Type} (a : α) (ρ : Env) : mC a ρ = .ok a ρ := rfl
theorem mOr_ff {ma mb : MT} {ρ ρ1 : Env} {z : R Bool} (h : ma ρ = .ok false ρ1) (h2 : mb ρ1 = z) : mOr ma mb ρ = z := by
  unfold mOr
  rw [h]; exact h2
theorem mCallP_eq {f : List D → Option AV} {mr : MA} {ρ ρ' : Env} {ds : List D} {d : D} (h : mr ρ = .ok ds ρ') (e : f ds = some (.dat d)) : mCallP f mr ρ = .ok d ρ' := by
  unfold mCallP
  rw [h]
  show (match f ds with | some (.dat d) => R.ok d ρ' | _ => .bad) = _
  rw [e]
theorem mNil_eq (ρ : Env) : mNil ρ = .ok [] ρ := rfl
end Eo
namespace Eo
open PySem L2 PySem.Spec PyProof.Rows StX
/-! ## what can be shown -/
noncomputable def Sh (d : D) (n W : Nat) : Prop := ∃ p, toPyd d = some p ∧ p.showable = true ∧ p.leavesShort 13 = true ∧ p.depth ≤ n ∧ p.weight ≤ W
theorem Sh.bl (b : Bool) : Sh (.bl b) 0 0 := ⟨_, rfl, rfl, rfl, Nat.le_refl _, Nat.le_refl _⟩
theorem small_all : ∀ i : Fin 100, (PyData.int (i.val : Nat)).showable = true ∧ (PyData.int (i.val : Nat)).leavesShort 13 = true ∧ (PyData.int (i.val : Nat)).weight ≤ 8 := by decide +kernel
theorem Sh.int {i : Nat} (h : i < 100) : Sh (.int (i : Int)) 0 8 := by
  obtain ⟨a, b, c⟩ := small_all ⟨i, h⟩
  exact ⟨_, rfl, a, b, Nat.le_refl _, c⟩
theorem Sh.str {s : Str} {W : Nat} (h : (s.cps.toList.all fun c => decide (c < 16 ^ 8)) = true) (hl : s.cps.size ≤ W) : Sh (.str s) 0 W := ⟨_, rfl, rfl, by rw [PyData.leavesShort]; exact h, Nat.le_refl _, by rw [PyData.weight]; exact hl⟩
theorem Shs {n W : Nat} : ∀ {ds : List D}, (∀ d ∈ ds, Sh d n W) → ∃ ps, toPyds ds = some ps ∧ PyData.showableAll ps = true ∧ PyData.leavesShortAll 13 ps = true ∧ PyData.depthAll ps ≤ n ∧ PyData.weightAll ps ≤ ds.length * (W + 1)
  | [], _ => ⟨[], rfl, rfl, rfl, Nat.zero_le _, Nat.zero_le _⟩
  | d :: ds, h => by
    obtain ⟨p, a1, a2, a3, a4, a5⟩ := h d (List.mem_cons_self ..)
    obtain ⟨ps, b1, b2, b3, b4, b5⟩ := Shs (ds := ds) fun x hx => h x (List.mem_cons_of_mem _ hx)
    refine ⟨p :: ps, ?_, ?_, ?_, ?_, ?_⟩
    · simp only [toPyds, a1, b1]
    · simp only [PyData.showableAll, a2, b2, Bool.and_true]
    · simp only [PyData.leavesShortAll, a3, b3, Bool.and_true]
    · simp only [PyData.depthAll]; omega
    · simp only [PyData.weightAll, List.length_cons, Nat.add_mul]; omega
theorem Sh.tup {ds : List D} {n W : Nat} (h : ∀ d ∈ ds, Sh d n W) : Sh (.tup ds) (n + 1) (ds.length * (W + 1)) := by
  obtain ⟨ps, b1, b2, b3, b4, b5⟩ := Shs h
  refine ⟨.tuple ps, ?_, ?_, ?_, ?_, ?_⟩
  · simp only [toPyd, b1, Option.map_some]
  · simp only [PyData.showable, b2]
  · simp only [PyData.leavesShort, b3]
  · simp only [PyData.depth]; omega
  · simp only [PyData.weight]; exact b5
theorem Sh.lst {ds : List D} {n W : Nat} (h : ∀ d ∈ ds, Sh d n W) : Sh (.lst ds) (n + 1) (ds.length * (W + 1)) := by
  obtain ⟨ps, b1, b2, b3, b4, b5⟩ := Shs h
  refine ⟨.list ps, ?_, ?_, ?_, ?_, ?_⟩
  · simp only [toPyd, b1, Option.map_some]
  · simp only [PyData.showable, b2]
  · simp only [PyData.leavesShort, b3]
  · simp only [PyData.depth]; omega
  · simp only [PyData.weight]; exact b5
theorem Sh.mono {d : D} {n W n' W' : Nat} (h : Sh d n W) (h1 : n ≤ n') (h2 : W ≤ W') : Sh d n' W' := by
  obtain ⟨p, a, b, c, e, f⟩ := h
  exact ⟨p, a, b, c, by omega, by omega⟩
theorem Sh.repr {d : D} {n W : Nat} (h : Sh d n W) (h1 : n ≤ 64) (h2 : W ≤ 1048576) : ∃ z, dRepr [d] = some (.str z) := by
  obtain ⟨p, a, b, c, e, f⟩ := h
  refine ⟨p.shown, ?_⟩
  have hz : p.shown.length ≤ sizeLine := PyData.shown_fits (B := 13) (by decide) (by decide) c (Nat.le_trans f h2)
  have he : p.depth ≤ 64 := by omega
  simp [dRepr, shownD, a, b, he, hz]
/-! ## what can be compared -/
noncomputable def Ly (d : D) (n : Nat) : Prop := ∃ p, toPy d = some p ∧ p.canLay0 = true ∧ p.depth ≤ n
theorem Lys {n : Nat} : ∀ {ds : List D}, (∀ d ∈ ds, Ly d n) → ∃ ps, toPys ds = some ps ∧ PyData.canLayAll0 ps = true ∧ PyData.depthAll ps ≤ n
  | [], _ => ⟨[], rfl, rfl, Nat.zero_le _⟩
  | d :: ds, h => by
    obtain ⟨p, a1, a2, a3⟩ := h d (List.mem_cons_self ..)
    obtain ⟨ps, b1, b2, b3⟩ := Lys (ds := ds) fun x hx => h x (List.mem_cons_of_mem _ hx)
    refine ⟨p :: ps, ?_, ?_, ?_⟩
    · simp only [toPys, a1, b1]
    · simp only [PyData.canLayAll0, a2, b2, Bool.and_true]
    · simp only [PyData.depthAll]; omega
theorem eq_of_F {a b : D} {c : Bool} (h : dEqF a b = some c) : dEqX a b = some (.bl c) := by unfold dEqX; rw [h]; rfl
theorem ne_of_F {a b : D} {c : Bool} (h : dEqF a b = some c) : dNeX a b = some (.bl (!c)) := by unfold dNeX; rw [h]; rfl
theorem Ly.str {s : Str} (h : PyData.strOk s = true) : Ly (.str s) 0 := ⟨_, rfl, by simp only [PyData.canLay0]; exact h, Nat.le_refl _⟩
theorem Ly.int (i : Int) : Ly (.int i) 0 := ⟨_, rfl, rfl, Nat.le_refl _⟩
theorem Ly.mono {d : D} {n m : Nat} (h : Ly d n) (l : n ≤ m) : Ly d m := by
  obtain ⟨p, a, b, c⟩ := h
  exact ⟨p, a, b, by omega⟩
theorem Ly.tup {ds : List D} {n : Nat} (h : ∀ d ∈ ds, Ly d n) : Ly (.tup ds) (n + 1) := by
  obtain ⟨ps, b1, b2, b3⟩ := Lys h
  exact ⟨.tuple ps, by simp only [toPy, b1, Option.map_some], by simp only [PyData.canLay0, b2], by simp only [PyData.depth]; omega⟩
theorem Ly.lst {ds : List D} {n : Nat} (h : ∀ d ∈ ds, Ly d n) : Ly (.lst ds) (n + 1) := by
  obtain ⟨ps, b1, b2, b3⟩ := Lys h
  exact ⟨.list ps, by simp only [toPy, b1, Option.map_some], by simp only [PyData.canLay0, b2], by simp only [PyData.depth]; omega⟩
/-! ## texts that are plain -/
end Eo
namespace Eo
open PySem L2 PySem.Spec PyProof.Rows StX
/-! ## what a mirror computes: equations -/
theorem mPar_eq {i j : Nat} {ma : MA} {ρ ρ1 : Env} {a b : D} (h : ma ρ = .ok [a, b] ρ1) : mPar i j ma ρ = .nx ((ρ1.set i (.dat a)).set j (.dat b)) := by
  unfold mPar
  rw [h]; rfl
theorem call1 {f : List D → Option AV} {me : ME} {ρ ρ' : Env} {a d : D} (h : me ρ = .ok a ρ') (e : f [a] = some (.dat d)) : mCallP f (mCons me mNil) ρ = .ok d ρ' := mCallP_eq (mCons_eq h (mNil_eq _)) e
theorem call2 {f : List D → Option AV} {me mf : ME} {ρ ρ1 ρ2 : Env} {a b d : D} (h : me ρ = .ok a ρ1) (h2 : mf ρ1 = .ok b ρ2) (e : f [a, b] = some (.dat d)) : mCallP f (mCons me (mCons mf mNil)) ρ = .ok d ρ2 := mCallP_eq (mCons_eq h (mCons_eq h2 (mNil_eq _))) e
/-! ## slices -/
/-! ## ascending texts -/
end Eo
namespace PySem.W
open PySem PySem.Spec PySem.Calls PyProof.Rows
section
variable {M : Model} {K : Frag}
end
end PySem.W
namespace L2
open PySem PySem.Spec PyProof.Rows
/-! ## try: body / except T as n: suite; the caught one is kept behind it as a tracked thing -/
/-- an exception of the class cls with the dict d, at a -/
noncomputable def XA (cls : Value) (d : Option Addr) (a : Addr) : HO := .ext fun h => ∃ (oe : Obj) (vs : Array Value), h.get? a = some oe ∧ Zc cls d oe ∧ oe.data = .fields vs
theorem xa_ok {P : Program} {w : World} {H : Hp} {h : Heap} {a : Addr} {cls : Value} {d : Option Addr} {oe : Obj} {vs : Array Value} (e : h.get? a = some oe) (z : Zc cls d oe) (q : oe.data = .fields vs) : ObjOk P w H h a (XA cls d a) :=
  ⟨⟨oe, vs, e, z, q⟩, ⟨oe, e⟩, fun _ _ ⟨o, v, q, r⟩ k => ⟨o, v, k o q, r⟩⟩
section
variable {X : Cx} {pins : List (Addr × Obj)} {σ : St} {H : Hp} {s : Shared}
end
end L2
namespace PySem.HandSPX
open PySem
theorem HeldZ.keeps {B : Heap} {l : List Env} {e : Addr} {Z : Obj → Prop} {L : Addr} {h h' : Heap} (x : HeldZ B l e Z L h) (k : ∀ b o, h.get? b = some o → h'.get? b = some o) : HeldZ B l e Z L h' := by
  obtain ⟨x1, x2, x3, oe, vs, T, oT, ts, a1, a2, a3, a4, a5, a6, a7, a8, a9⟩ := x
  exact ⟨fun b o q => k b o (x1 b o q), x2, x3.of_keeps fun b o q _ => ⟨o, k b o q, rfl⟩, oe, vs, T, oT, ts, k _ _ a1, a2, a3, a4, a5, a6, k _ _ a7, a8, a9⟩
theorem FlyingZ.keeps {B : Heap} {l : List Env} {e : Addr} {Z : Obj → Prop} {h h' : Heap} (x : FlyingZ B l e Z h) (k : ∀ b o, h.get? b = some o → h'.get? b = some o) : FlyingZ B l e Z h' := by
  obtain ⟨x1, x2, x3, oe, vs, T, oT, ts, a1, a2, a3, a4, a5, a6, a7, a8, a9⟩ := x
  exact ⟨fun b o q => k b o (x1 b o q), x2, x3.of_keeps fun b o q _ => ⟨o, k b o q, rfl⟩, oe, vs, T, oT, ts, k _ _ a1, a2, a3, a4, a5, a6, k _ _ a7, a8, a9⟩
end PySem.HandSPX
namespace L2
open PySem PySem.Spec PyProof.Rows
end L2
namespace L2
open PySem PySem.Spec PyProof.Rows
section
variable {X : Cx} {n : Str} {t : Expr} {m : Value → Option Bool} {i : Nat} {body suite : List Stmt} {b₀ : Stmt} {pos pos' : Pos} {tb : WX → TS} {ts : Addr → Value → Option Addr → TS} {Wout : WX}
end
end L2
/-! isinstance of an exception that has a dict (turned from HandS.ExcIs, which has none) and its fields, the exception a tracked thing -/
namespace PySem.W
open PySem PySem.Spec PySem.Calls PyProof.Rows
section
variable {prog : Program} {w : World} {A : Around} {E : Value → Shared → Prop} {s : Shared} {K : Frag} {x D : Addr} {ox : Obj}
theorem findObj_dataD {C : Addr} {od : Option Obj} {name : Str} {a g : Value} (hc : (clsIn K C).isSome = true) (ha : findIn K (.ref C) name = some (some a)) (hg : specialIn K a "__get__" = some (some g)) (ht : takesIn K a = some true) : findObj K C od name = some (.bind g a) := by
  obtain ⟨cd, hc⟩ := Option.isSome_iff_exists.mp hc
  unfold findObj
  rw [hc, Option.bind_some, ha, Option.bind_some]
  simp [hg, ht]
theorem kin_classD {od : Option Obj} {Q : Option Value → Shared → Prop} (hga : findIn K (.ref D) "__getattribute__" = some (some (.builtin "BaseException.__getattribute__"))) (hgt : findIn K (.ref D) "__getattr__" = some none) (hsub : subIn K (.ref D) (.type "BaseException") = some true)
    (hdct : hasDictIn K D = true) (ha : findIn K (.ref D) "__class__" = some (some (.builtin "object.__class__")))
    (hn : specialIn K (.builtin "object.__class__") "__get__" = some (some (.builtin "getset_descriptor.__get__"))) (htk : takesIn K (.builtin "object.__class__") = some true) (hm : mroIn K D (.type "object") = some true)
    (X : K.In s.heap) (I : InstAt s.heap x ox D od) (h : Q (some (.ref D)) { s with toks := s.toks + 1 }) : wpAny (model prog w) A (getAttr? (.ref x) "__class__") Q E s := by
  have hf : findObj K D od "__class__" = some (.bind (.builtin "getset_descriptor.__get__") (.builtin "object.__class__")) := findObj_dataD (by obtain ⟨cd, hc, _⟩ := any_some hdct; rw [hc]; rfl) ha hn htk
  obtain ⟨hp, g, d, t, os⟩ := s
  have L0 := I.type (M := model prog w)
  have L1 := looks_findIn (M := model prog w) X hga
  have L2 := looks_findIn (M := model prog w) X hgt
  have L3 := looks_find (M := model prog w) X I hf
  have sub : Looks (model prog w) hp (isInstance (.ref x) (.type "BaseException")) true := L0.andThen (looks_subIn X hsub)
  have hx0 : (false && onTheHeap (Value.builtin "BaseException.__getattribute__")) = false := rfl
  have hx2 : (Value.builtin "BaseException.__getattribute__" == Value.builtin "object.__getattribute__") = false := by decide +kernel
  have hx1 : (onTheHeap (Value.ref D) && Value.builtin "BaseException.__getattribute__" == Value.builtin "object.__getattribute__") = false := by rw [hx2]; rfl
  unfold getAttr? getAttrBy? getAttrBy
  refine wpAny_bind (wpAny_mkText (wpAny_bind (wpAny_attempt (wpAny_holding (wpAny_bind (L0.at (wpAny_bind (L1.at ?_))))))))
  show wpAny _ _ (if (onTheHeap (Value.ref D) && Value.builtin "BaseException.__getattribute__" == Value.builtin "object.__getattribute__") = true then _ else _) _ _ _
  rw [hx1, if_neg Bool.false_ne_true]
  unfold getAttrByItsOwn hookBefore
  refine wpAny_bind ?_
  rw [if_pos (show onTheHeap (Value.ref D) = true from rfl)]
  refine L2.at ?_
  refine wpAny_bind (wpAny_attempt (wpAny_holding ?_))
  unfold callGetattribute
  rw [hx0, if_neg Bool.false_ne_true]
  unfold boundAndCalled
  rw [PySem.F.excAttr_ValueError.ga.bind (.ref x)]
  refine wpAny_bind (wpAny_pure ?_)
  show wpAny _ _ (call (.builtin "BaseException.__getattribute__") [.ref x, .str "__class__" t]) _ _ _
  refine wpAny_call (codeAny_call_builtin PySem.F.excAttr_ValueError.ga.plain PySem.F.entry_bexc_ga ?_)
  refine @check_slot (model prog w) _ _ ⟨hp, g, d, t + 1, os⟩ "BaseException.__getattribute__" "BaseException" "__getattribute__" (.ref x) [.str "__class__" t] [] _ (by decide +kernel) (by decide +kernel) sub (PySem.F.args_bexc_ga (.ref x) (.str "__class__" t)) ?_
  unfold Builtin.«object.__getattribute__»
  refine wpAny_bind (wpAny_of_eq (a := ((Value.ref x : Value), [Value.str "__class__" t])) (by first | rfl | (simp only [slotArgs]; rfl)) ?_)
  refine wpAny_bind (wpAny_pure (wpAny_bind (L0.at (wpAny_bind (L3.at ?_)))))
  show wpAny _ _ (holding [Value.builtin "object.__class__"] (call (.builtin "getset_descriptor.__get__") [.builtin "object.__class__", .ref x, .ref D]) >>= ret) _ _ _
  refine wpAny_bind (wpAny_holding (wpAny_call (class_get (s := ⟨hp, g, d, t + 1, os⟩) (ox := ox) (od := od) X I hm ?_)))
  refine wpAny_pure ?_
  show wpAny _ _ (handedOut (.ref D)) _ _ _
  rw [handedOut_of (v := .ref D) rfl]
  first
    | exact wpAny_pure (wpAny_pure h)
    | exact wpAny_pure h
    | exact wpAny_pure (wpAny_bind (wpAny_pure (wpAny_pure h)))
theorem kitx_excD {od : Option Obj} (hga : findIn K (.ref D) "__getattribute__" = some (some (.builtin "BaseException.__getattribute__"))) (hgt : findIn K (.ref D) "__getattr__" = some none) (hsub : subIn K (.ref D) (.type "BaseException") = some true) (hdct : hasDictIn K D = true) (ha : findIn K (.ref D) "__class__" = some (some (.builtin "object.__class__")))
    (hn : specialIn K (.builtin "object.__class__") "__get__" = some (some (.builtin "getset_descriptor.__get__"))) (htk : takesIn K (.builtin "object.__class__") = some true) (hm : mroIn K D (.type "object") = some true) :
    KitX K (.ref x) (.ref D) (fun h => InstAt h x ox D od) where
  ty := fun _ _ _ I => I.type
  it := fun _ _ X _ => by
    obtain ⟨cdD, hcD, _⟩ := any_some hdct
    unfold clsIn at hcD
    split at hcD
    · rename_i c' d' cd' sl' ho
      intro A' Q' E' s' k q
      unfold isType loadHead
      exact wpAny_bind (wpAny_loadPart (k _ _ (X _ _ ho)) (wpAny_pure q))
    · cases hcD
  ne := fun h tp dd its n sl X htp => by
    obtain ⟨cdD, hcD, _⟩ := any_some hdct
    refine Bool.eq_false_iff.mpr fun q => ?_
    have e : D = tp := Value.ref.inj (beq_iff_eq.mp q)
    subst e
    unfold clsIn at hcD
    split at hcD
    · rename_i c' d' cd' sl' ho
      have z := (X _ _ ho).symm.trans htp
      cases z
    · cases hcD
  ca := fun X I k => kin_classD hga hgt hsub hdct ha hn htk hm X I k
end
end PySem.W
namespace L2
open PySem PySem.Spec PyProof.Rows
/-- isinstance(e, c), e tracked -/
noncomputable def rIsX (K : PySem.W.Frag) : List V → Hp → VK → Prop := fun xs H Q => ∃ (a D dd : Addr) (fs : List (Str × V)) (c : V) (cv : Value) (b : Bool), xs = [.ref a, c] ∧ H a = some (XA (.ref D) (some dd) a) ∧ H dd = some (.xd fs) ∧ ExcC K D ∧ (∀ u, RelV c u → u = cv) ∧ PySem.W.kitOne K (.ref D) cv = some b ∧ Q (.bl b) H
theorem xa_inst {X : Cx} {pins : List (Addr × Obj)} {σ : St} {H : Hp} {s : Shared} {a D dd : Addr} {fs : List (Str × V)} (I : Inv X pins σ H s) (ha : H a = some (XA (.ref D) (some dd) a)) (hd : H dd = some (.xd fs)) :
    ∃ oe od mA, PySem.W.InstAt s.heap a oe D (some od) ∧ s.heap.Ns1 dd mA ∧ (∀ f, RelO (fs.lookup f) (mA f)) ∧ s.heap.get? dd = some od := by
  obtain ⟨oe, vs, e, ⟨z1, z2⟩, q⟩ := (I.hok a _ ha).1
  have hx : ObjOk X.prog X.w H s.heap dd (.xd fs) := I.hok dd _ hd
  obtain ⟨mA, hns, hr⟩ := hx
  obtain ⟨od, ho, hl⟩ := lookIn_ns hns
  exact ⟨oe, od, mA, ⟨e, z1, by unfold PySem.W.notCls; rw [q] <;> rfl, by rw [z2]; exact ho⟩, hns, hr, ho⟩
theorem cr_isX {X : Cx} : CallR X (.builtin "isinstance") (rIsX X.K) := by
  intro pins s σ H xs us Q I r h
  obtain ⟨a, D, dd, fs, c, cv, b, rfl, ha, hd, C, hcv, e, q⟩ := h
  cases r with
  | cons rx rr =>
    cases rr with
    | cons rt rr =>
      cases rr
      cases rx
      have ec := hcv _ rt
      subst ec
      obtain ⟨oe, od, mA, J, _⟩ := xa_inst I ha hd
      exact PySem.W.kia_one (PySem.W.kitx_excD C.hg C.hk C.hs C.hd C.ha C.hn C.ht C.hm) I.kIn J e (fun z => nomatch z) fun tk => ⟨.bl b, H, I.kept (t' := tk) fun _ _ z => z, rfl, q⟩
/-- e.f, e tracked -/
noncomputable def tXfT (K : PySem.W.Frag) (f : Str) (te : TE) : TE := fun σ H Q => te σ H fun x H1 => ∃ (a D dd : Addr) (fs : List (Str × V)) (v : V), x = .ref a ∧ H1 a = some (XA (.ref D) (some dd) a) ∧ H1 dd = some (.xd fs) ∧ XfC K D ∧ PySem.W.findIn K (.ref D) f = some none ∧ fs.lookup f = some v ∧ Q v H1
theorem pe_xfT {X : Cx} {e : Expr} {te : TE} {pos : Pos} {n : Str} (he : PE X e te) (hb : attributeBase e n X.env (eval e X.env) = eval e X.env := by rfl) : PE X (.Attribute e n pos) (tXfT X.K n te) := by
  refine ⟨fun pins s σ H Q I h => ?_⟩
  refine attr_of hb (thn (he.run pins s σ H _ I h) fun u s1 hh => ?_)
  obtain ⟨x, H1, I1, rx, a, D, dd, fs, v, ex, ha, hd, T, hno, l, q⟩ := hh
  subst ex
  obtain rfl : u = Value.ref a := rx
  obtain ⟨oe, vs, e, ⟨z1, z2⟩, qd⟩ := (I1.hok a _ ha).1
  have hx : ObjOk X.prog X.w H1 s1.heap dd (.xd fs) := I1.hok dd _ hd
  obtain ⟨mA, hns, hr⟩ := hx
  obtain ⟨od, ho, hl⟩ := lookIn_ns hns
  obtain ⟨u, hu, ru⟩ := RelO.some_of (v := v) (o := mA n) (by rw [← l]; exact hr n)
  have J : PySem.W.InstAt s1.heap a oe D (some od) := ⟨e, z1, by unfold PySem.W.notCls; rw [qd] <;> rfl, by rw [z2]; exact ho⟩
  exact HandSPX.exc_get I1.kIn J T.ga T.gg T.exC (PySem.W.findObj_own T.hdC hno rfl (by rw [hl, hu])) (handed_of ru) ⟨v, H1, I1.tok _, ru, q⟩
end L2
namespace Eo
open PySem L2 PySem.Spec PyProof.Rows
/-! ## defs that let errors out -/
inductive XR where
  | val (r : AV) | exc (c : Str) (fs : List (Str × D))
section
variable {P : Program} {w : World} {K : PySem.W.Frag} {mg : Str → Option Value} {base : Heap} {W : Wx}
end
section
variable {G : Cg} {W : Wx}
end
end Eo
/-! own errors over any built-in class: HandS.Exc's and ExcInit's rules (which speak of ValueError), turned -/
namespace PySem.HandSPX
open PySem PySem.Spec PySem.Calls PyProof.Rows Builtin Builtin.ObjectAttr
/-- own classes, then the mro tl -/
inductive RefsT (tl : List Value) : List Value → Prop
  | nil : RefsT tl tl
  | cons {C : Addr} {l : List Value} : RefsT tl l → RefsT tl (.ref C :: l)
theorem RefsT.contains {tl l : List Value} (X : String) (h : RefsT tl l) : l.contains (.type X) = tl.contains (.type X) := by
  induction h with
  | nil => rfl
  | cons _ ih => rw [List.contains_cons, ih]; rfl
theorem RefsT.ne {tl l : List Value} (h : RefsT tl l) (ho : tl.contains (.type "object") = true) : l.isEmpty = false := by
  cases h with
  | nil => cases tl with
    | nil => exact absurd ho (by decide)
    | cons _ _ => rfl
  | cons _ => rfl
theorem RefsT.pass {tl l : List Value} (h : RefsT tl l) (self : Value) (hp : refuseLoop self "__setattr__" tl = pure ()) : refuseLoop self "__setattr__" l = pure () := by
  induction h with
  | nil => exact hp
  | cons _ ih => rw [refuseLoop_ref]; exact ih
end PySem.HandSPX
namespace PySem.HandSPX
open PySem PySem.Spec PySem.Calls Builtin Builtin.ObjectAttr
section
variable {M : Model} {A : Around} {E : Value → Shared → Prop} {h : Heap} {g : Array GenState} {d : Drawn} {t : Nat} {os : OsState}
variable {nm q : Str} {C N : Addr} {bs bm bmB : List Value} {hdct : Bool} {sn : List Str} {sub : List Value} {ab : Bool} {col : Option Bool} {dd : Option Addr} {k0 k1 k2 k3 k5 : Option Value} {B newId initId : String}
theorem check_new_ownT (F : ExcBaseFacts B newId initId bmB) (hB1 : bm.contains (.type B) = true) (hA1 : bm.contains (.type "AttributeError") = false) (hN1 : bm.contains (.type "NameError") = false) {rest : List Value} {Q : Unit → Shared → Prop}
    (hC : h.get? C = some (excClassObj nm q C N bs bm hdct sn sub ab col dd k0 k1 k2 k3 k5 newId)) (hq : Q () ⟨h, g, d, t, os⟩) : wpAny M A (checkBuiltinCall newId ⟨.ref C :: rest, []⟩) Q E ⟨h, g, d, t, os⟩ := by
  have hcont : (Value.ref C :: bm).contains (.type B) = true := by rw [List.contains_cons, hB1, Bool.or_true]
  have hstar := F.noStar
  simp only [checkBuiltinCall, F.newKind, F.newSplit, F.newRow]
  repeat (first | refine wpAny_loadPart_at hC ?_ | (refine wpAny_isSubtype_exc hC ?_; rw [hcont]) | refine wpAny_staticBase_exc hC ?_ | refine wpAny_madeBy_exc hC ?_ | simp only [bne_self_eq_false, Bool.false_eq_true, if_false] | wp_step)
  exact hq
end
section
variable {prog : Program} {w : World} {A : Around} {E : Value → Shared → Prop} {R : Result → Shared → Prop} {h : Heap} {g : Array GenState} {d : Drawn} {t : Nat} {os : OsState}
variable {nm q : Str} {C N : Addr} {bs bm bmB : List Value} {hdct : Bool} {sn : List Str} {sub : List Value} {ab : Bool} {col : Option Bool} {dd : Option Addr} {k0 k1 k2 k3 k5 : Option Value} {B newId initId : String}
theorem new_ownT (F : ExcBaseFacts B newId initId bmB) (hB1 : bm.contains (.type B) = true) (hA1 : bm.contains (.type "AttributeError") = false) (hN1 : bm.contains (.type "NameError") = false) {rest : List Value}
    (hC : h.get? C = some (excClassObj nm q C N bs bm hdct sn sub ab col dd k0 k1 k2 k3 k5 newId))
    (hq : R (.ok (.ret (.ref (h.objs.size + 1)))) ⟨(h.push { cls := .type "tuple", data := .seq rest.toArray }).push
      { cls := .ref C, data := .fields #[.ref h.objs.size, .none, .none, .none, .bool false, .none] }, g, d, t, os⟩) (hrest : rest.length ≤ sizeLine) :
    codeAny (model prog w) A (.builtin newId ⟨.ref C :: rest, []⟩) R ⟨h, g, d, t, os⟩ := by
  have hends := F.ends
  have hcB : (Value.ref C :: bm).contains (.type B) = true := by rw [List.contains_cons, hB1, Bool.or_true]
  have hcA : (Value.ref C :: bm).contains (.type "AttributeError") = false := by rw [List.contains_cons, hA1]; rfl
  have hcN : (Value.ref C :: bm).contains (.type "NameError") = false := by rw [List.contains_cons, hN1]; rfl
  refine codeAny_builtinAt F.entry ?_
  unfold Builtin.«BaseException.__new__»
  refine wpAt_bind ?_
  show wpAt _ _ _ (stack >>= _) _ _ _
  refine wpAt_bind (wpAt_stack fun p below => wpAt_of_wpAny ?_)
  wp_walk
  refine wpAt_of_wpAny ?_
  rw [F.owner]
  repeat (first | with_reducible refine wpAny_madeHere_exc F.canon hC ?_ | with_reducible refine wpAny_loadPart_at hC ?_ | (with_reducible refine wpAny_isSubtype_exc hC ?_; first | rw [hcB] | rw [hcA] | rw [hcN]) | wp_step)
  show R _ _
  rw [Heap.size_push]
  exact hq
theorem type_call_ownT (F : ExcBaseFacts B newId initId bmB) (hB1 : bm.contains (.type B) = true) (hA1 : bm.contains (.type "AttributeError") = false) (hN1 : bm.contains (.type "NameError") = false) {rest : List Value} {fI : Addr} {Q : Fin → Shared → Prop}
    (hC : h.get? C = some (excClassObj nm q C N bs bm hdct sn sub ab col dd k0 k1 k2 k3 k5 newId))
    (hi : W.Looks (model prog w) h (typeLookup (.ref C) "__init__") (some (.ref fI))) (hb : ∀ self, W.Looks (model prog w) h (bindSpecial (.ref fI) self) (.ref fI, [self])) (hrest : rest.length ≤ sizeLine)
    (hq : codeAny (model prog w) A (.call (.ref fI) ⟨.ref (h.objs.size + 1) :: rest, []⟩)
      (fun r s' => match r with | .ok (.ret v) => v = .none ∧ Q (.done (.ret (.ref (h.objs.size + 1)))) s' | .ok _ => False | .error e => E e s')
      ⟨(h.push (W.kdv_tup rest)).push (excO C h.objs.size), g, d, t, os⟩) :
    wpAny (model prog w) A (Builtin.«type.__call__» ⟨.ref C :: rest, []⟩) Q E ⟨h, g, d, t, os⟩ := by
  repeat (first | with_reducible refine wpAny_loadPart_at hC ?_ | with_reducible refine wpAny_madeBy_exc hC ?_ | wp_step)
  refine codeAny_call_builtin_code (Code.quiet_builtin _ F.quiet) (check_new_ownT F hB1 hA1 hN1 hC ?_)
  refine new_ownT F hB1 hA1 hN1 hC ?_ hrest
  show wpAny _ _ _ _ _ _
  have k : ∀ b o, h.get? b = some o → ((h.push (W.kdv_tup rest)).push (excO C h.objs.size)).get? b = some o := fun b o e => Heap.get?_push_of_some _ (Heap.get?_push_of_some _ e)
  have hC₁ := k _ _ hC
  have hget : ((h.push (W.kdv_tup rest)).push (excO C h.objs.size)).get? (h.objs.size + 1) = some (excO C h.objs.size) := by heap_get
  have hcC : (Value.ref C :: bm).contains (.ref C) = true := by simp
  have i1 := hi.keeps k
  have b1 := (hb (.ref (h.objs.size + 1))).keeps k
  unfold isInstance
  repeat (first | with_reducible refine wpAny_loadPart_at hget ?_ | (with_reducible refine wpAny_isSubtype_exc hC₁ ?_; rw [hcC]) | wp_step)
  show wpAny _ _ (typeLookup (.ref C) _) _ _ _
  refine i1.at ?_
  refine wpAny_holding (wpAny_bind (b1.at ?_))
  refine wpAny_bind (wpAny_call (codeAny_mono hq fun r s' z => ?_))
  rcases r with e | (v | _ | _ | _) <;> first | exact z | exact z.elim | skip
  obtain ⟨rfl, z⟩ := z
  first
    | exact wpAny_pure (wpAny_pure z)
    | (wp_walk; exact z)
theorem call_ownT (F : ExcBaseFacts B newId initId bmB) (hB1 : bm.contains (.type B) = true) (hA1 : bm.contains (.type "AttributeError") = false) (hN1 : bm.contains (.type "NameError") = false) {rest : List Value} {fI : Addr}
    (hC : h.get? C = some (excClassObj nm q C N bs bm hdct sn sub ab col dd k0 k1 k2 k3 k5 newId))
    (hi : W.Looks (model prog w) h (typeLookup (.ref C) "__init__") (some (.ref fI))) (hb : ∀ self, W.Looks (model prog w) h (bindSpecial (.ref fI) self) (.ref fI, [self])) (hrest : rest.length ≤ sizeLine)
    (hq : codeAny (model prog w) (A.under (.builtin "type.__call__" ⟨.ref C :: rest, []⟩)) (.call (.ref fI) ⟨.ref (h.objs.size + 1) :: rest, []⟩) (W.InitBack (h.objs.size + 1) R)
      ⟨(h.push (W.kdv_tup rest)).push (excO C h.objs.size), g, d, t, os⟩) :
    codeAny (model prog w) A (.call (.ref C) ⟨rest, []⟩) R ⟨h, g, d, t, os⟩ := by
  have f1 := tc_lookup
  have f2 := tc_bind (.ref C)
  have hTy : (⟨h, g, d, t, os⟩ : Shared).TypeIs (.ref C) "type" := ⟨_, hC, rfl⟩
  refine codeAny_of_tree ?_
  show wpAny _ _ (callAny (.ref C) _) _ _ _
  repeat (any_goals (first | assumption | with_reducible refine wpAny_loadPart_at hC ?_ | wp_step))
  refine ⟨rfl, ?_⟩
  refine codeAny_call_builtin_at (Code.quiet_builtin _ (by decide +kernel)) entry_typeCall (wpAny_check_type_call_sub hC (type_call_ownT F hB1 hA1 hN1 hC hi hb hrest ?_))
  refine codeAny_mono hq fun r s' z => ?_
  rcases r with e | (v | _ | _ | _) <;> exact z
end
end PySem.HandSPX
namespace PySem.HandSPX
open PySem PySem.Spec PySem.Calls PyProof.Rows Builtin Builtin.ObjectAttr
section
variable {prog : Program} {w : World} {A : Around} {E : Value → Shared → Prop} {R : Result → Shared → Prop} {hp : Heap} {g : Array GenState} {d : Drawn} {t : Nat} {os : OsState} {tl : List Value}
theorem exc_osaT {K : W.Frag} {name : Str} {tk : Tok} {v : Value} {x C : Addr} {fv : Array Value} {cd : ClassData}
    (X : K.In hp) (hx : hp.get? x = some { cls := .ref C, data := .fields fv }) (hcd : W.clsIn K C = some cd) (hm : RefsT tl cd.mro) (hto : tl.contains (.type "object") = true) (hps : ∀ self : Value, refuseLoop self "__setattr__" tl = pure ()) (hh : cd.hasDict = true) (ha : W.findIn K (.ref C) name = some none)
    (hq : ∀ h' tk' dx, (∀ b o, b ≠ x → hp.get? b = some o → h'.get? b = some o) → hp.objs.size ≤ dx → dx ≠ x → h'.get? x = some { cls := .ref C, dict := some dx, data := .fields fv } →
      h'.Ns1 dx (fun y => if y = name then some v else none) → R (.ok (.ret .none)) ⟨h', g, d, tk', os⟩) :
    codeAny (model prog w) A (.call (.builtin "object.__setattr__") ⟨[.ref x, .str name tk, v], []⟩) R ⟨hp, g, d, t, os⟩ := by
  have I : W.InstAt hp x { cls := .ref C, data := .fields fv } C none := ⟨hx, rfl, rfl, trivial⟩
  have SF := F.store_object
  have ne := hm.ne hto
  have hob : cd.mro.contains (.type "object") = true := (hm.contains "object").trans hto
  have hxs : x ≠ hp.objs.size := Nat.ne_of_lt (Heap.lt_size hx)
  have sub : W.Looks (model prog w) hp (isInstance (.ref x) (.type "object")) true := I.type.andThen (W.looks_mroIn X (by unfold W.mroIn; rw [hcd, Option.bind_some, if_neg (by rw [ne]; decide), hob]))
  refine codeAny_call_builtin SF.slot.plain SF.entry (@W.check_slot (model prog w) _ _ ⟨hp, g, d, t, os⟩ "object.__setattr__" "object" "__setattr__" (.ref x) [.str name tk, v] [] _ SF.kind SF.split sub (SF.args (.ref x) (.str name tk) v) ?_)
  have hmr : W.Looks (model prog w) hp (mroOf (.ref C)) cd.mro := (W.looks_clsIn X hcd).andThen .now
  have L3 : W.Looks (model prog w) hp (storeTaker? none) none := .now
  have hcls : W.Looks (model prog w) hp (classData C) cd := W.looks_clsIn X hcd
  rw [W.osa_eq, refuse_eq]
  refine wpAny_bind (wpAny_bind (I.type.at (wpAny_bind (hmr.at ?_))))
  rw [hm.pass _ (hps _)]
  refine wpAny_pure (wpAny_bind (I.type.at (wpAny_bind ((W.looks_findIn X ha).at (wpAny_bind (L3.at ?_))))))
  show wpAny _ _ (storeInOwnDict (.ref x) (.ref C) (.str name tk) name v false) _ _ _
  obtain ⟨nm, bs, mro, ns, qn, hd, sn, sb, ab, col, del⟩ := cd
  dsimp only at hh
  subst hh
  unfold storeInOwnDict ownDictForStores
  repeat (first | with_reducible refine store_in_new ?_ ?_ | with_reducible refine wpAny_loadPart_at hx ?_ | with_reducible refine hcls.at ?_ | wp_step)
  · exact ⟨_, #[], _, (Heap.get?_update_ne _ _ _ _ hxs.symm).trans (Heap.get?_push_at rfl rfl), rfl, fun e he => absurd he (by simp), fun _ => rfl⟩
  · intro h' tk' hn' hs
    have hx₁ : (hp.push { cls := .type "dict", data := .dict #[] }).get? x = some { cls := .ref C, data := .fields fv } := Heap.get?_push_of_some _ hx
    refine hq h' tk' hp.objs.size (fun b o hb ho => ?_) (Nat.le_refl _) hxs.symm ?_ hn'
    · exact (hs.2 b (Nat.ne_of_lt (Heap.lt_size ho))).trans ((Heap.get?_update_ne _ _ _ _ hb).trans (Heap.get?_push_of_some _ ho))
    · exact (hs.2 x hxs).trans (Heap.get?_update_self _ hx₁ rfl)
theorem osa_oldT {K : W.Frag} {name : Str} {tk : Tok} {v : Value} {x C dx : Addr} {fv : Array Value} {cd : ClassData} {m0 : Str → Option Value} {nl : List Str}
    (X : K.In hp) (hx : hp.get? x = some { cls := .ref C, dict := some dx, data := .fields fv }) (hns : hp.Ns1 dx m0) (hw : Within m0 nl) (hz : nl.length ≤ 1000) (hcd : W.clsIn K C = some cd) (hm : RefsT tl cd.mro) (hto : tl.contains (.type "object") = true) (hps : ∀ self : Value, refuseLoop self "__setattr__" tl = pure ()) (hh : cd.hasDict = true)
    (ha : W.findIn K (.ref C) name = some none)
    (hq : ∀ h' tk', (∀ b o, b ≠ dx → hp.get? b = some o → h'.get? b = some o) → h'.Ns1 dx (fun y => if y = name then some v else m0 y) → R (.ok (.ret .none)) ⟨h', g, d, tk', os⟩) :
    codeAny (model prog w) A (.call (.builtin "object.__setattr__") ⟨[.ref x, .str name tk, v], []⟩) R ⟨hp, g, d, t, os⟩ := by
  obtain ⟨oD, esD, epD, hoD, hdD, _⟩ := hns.count hw
  have I : W.InstAt hp x { cls := .ref C, dict := some dx, data := .fields fv } C (some oD) := ⟨hx, rfl, rfl, hoD⟩
  have SF := F.store_object
  have ne := hm.ne hto
  have hob : cd.mro.contains (.type "object") = true := (hm.contains "object").trans hto
  have sub : W.Looks (model prog w) hp (isInstance (.ref x) (.type "object")) true := I.type.andThen (W.looks_mroIn X (by unfold W.mroIn; rw [hcd, Option.bind_some, if_neg (by rw [ne]; decide), hob]))
  refine codeAny_call_builtin SF.slot.plain SF.entry (@W.check_slot (model prog w) _ _ ⟨hp, g, d, t, os⟩ "object.__setattr__" "object" "__setattr__" (.ref x) [.str name tk, v] [] _ SF.kind SF.split sub (SF.args (.ref x) (.str name tk) v) ?_)
  have hmr : W.Looks (model prog w) hp (mroOf (.ref C)) cd.mro := (W.looks_clsIn X hcd).andThen .now
  have L3 : W.Looks (model prog w) hp (storeTaker? none) none := .now
  have hcls : W.Looks (model prog w) hp (classData C) cd := W.looks_clsIn X hcd
  rw [W.osa_eq, refuse_eq]
  refine wpAny_bind (wpAny_bind (I.type.at (wpAny_bind (hmr.at ?_))))
  rw [hm.pass _ (hps _)]
  refine wpAny_pure (wpAny_bind (I.type.at (wpAny_bind ((W.looks_findIn X ha).at (wpAny_bind (L3.at ?_))))))
  show wpAny _ _ (storeInOwnDict (.ref x) (.ref C) (.str name tk) name v false) _ _ _
  obtain ⟨nm, bs, mro, ns, qn, hd, sn, sb, ab, col, del⟩ := cd
  dsimp only at hh
  subst hh
  unfold storeInOwnDict ownDictForStores
  repeat (first | with_reducible refine OEX.store_in_old hns hw hz ?_ | with_reducible refine wpAny_loadPart_at hx ?_ | with_reducible refine hcls.at ?_ | wp_step)
  intro h' tk' hn' hs
  exact hq h' tk' (fun b o hb ho => (hs.2 b hb).trans ho) hn'
end
end PySem.HandSPX
namespace L2
open PySem PySem.Spec PyProof.Rows
/-- what the written part says of the class -/
structure OexT (K : PySem.W.Frag) (C : Addr) : Prop where
  cls : ∃ nm q N bs bm sn sub ab col dd k0 k1 k2 k3 k5 tl nid iid, K.lookup C = some (excClassObj nm q C N bs bm true sn sub ab col dd k0 k1 k2 k3 k5 nid) ∧ PySem.HandSPX.RefsT tl bm ∧ tl.contains (.type "object") = true ∧ (∀ self : Value, refuseLoop self "__setattr__" tl = pure ()) ∧ ∃ B tl', ExcBaseFacts B nid iid tl' ∧ tl.contains (.type B) = true ∧ tl.contains (.type "AttributeError") = false ∧ tl.contains (.type "NameError") = false
  sa : PySem.W.findIn K (.ref C) "__setattr__" = some (some (.builtin "object.__setattr__"))
  exC : PySem.W.subIn K (.ref C) (.type "BaseException") = some true
  tyC : PySem.W.typeIn K (.ref C) = some (.type "type")
  kC : PySem.W.keepIn K (.ref C) = true
/-- self.f = e -/
noncomputable def tOstT (K : PySem.W.Frag) (f : Str) (to te : TE) : TS := fun D σ H => te σ H fun y H1 => to σ H1 fun x H2 => ∃ a C : Addr, x = .ref a ∧ OexT K C ∧ PySem.W.findIn K (.ref C) f = some none ∧
  ((H2 a = some (exo a C none) ∧ ∀ dx, H2 dx = none → dx ≠ a → D.nx σ (upd (upd H2 dx (exd dx [(f, y)])) a (exo a C (some dx)))) ∨
    ∃ (dx : Addr) (fs : List (Str × V)), H2 a = some (exo a C (some dx)) ∧ H2 dx = some (exd dx fs) ∧ fs.length ≤ 900 ∧ D.nx σ (upd H2 dx (exd dx ((f, y) :: fs))))
/-- C(e, ..), C's own __init__ keeping sp -/
noncomputable def tMkOT (C : Addr) (sp : Sp) (dvs : List V) (ta : TA) : St → Hp → XK → Prop := fun σ H Q => ta σ H fun vs H1 => vs.length ≤ 1000 ∧ ∀ a, H1 a = none → sp (.ref a :: (vs ++ dvs)) (upd H1 a (exo a C none))
  (fun v H2 => v = .non ∧ ∃ (d : Addr) (fs : List (Str × V)), H2 a = some (exo a C (some d)) ∧ H2 d = some (exd d fs) ∧ H1 d = none ∧ Q (.ref C) (some d) (upd (del H2 a) d (.xd fs))) (fun _ _ _ => False)
section
variable {X : Cx} {pins : List (Addr × Obj)} {σ : St} {H : Hp} {s : Shared} {a C dx : Addr} {f : Str} {y : V} {u : Value} {fs : List (Str × V)} {Q : Unit → Shared → Prop} {E : Value → Shared → Prop} {A : Around}
theorem ost_newT (T : OexT X.K C) (I : Inv X pins σ H s) (e : H a = some (exo a C none)) (hno : PySem.W.findIn X.K (.ref C) f = some none) (ry : RelV y u)
    (h : ∀ dx s', H dx = none → dx ≠ a → Inv X pins σ (upd (upd H dx (exd dx [(f, y)])) a (exo a C (some dx))) s' → Q () s') : wpAny (model X.prog X.w) A (setAttr (.ref a) f u) Q E s := by
  obtain ⟨nm, q, N, bs, bm, sn, sub, ab, col, dd, k0, k1, k2, k3, k5, tl, nid, iid, hC, hbm, hto, hps, _⟩ := T.cls
  have hcl : PySem.W.clsIn X.K C = some { name := nm, bases := bs, mro := .ref C :: bm, ns := N, qualname := q, hasDict := true, slotNames := sn, subclasses := sub, abstract := ab, collection := col, hasDel := false } := by unfold PySem.W.clsIn; rw [hC] <;> rfl
  obtain ⟨t1, ho⟩ := exo_at I.hok e
  obtain ⟨hp, g, d, t, os⟩ := s
  refine PySem.W.set_plain I.kIn (ox := { cls := .ref C, dict := none, data := .fields #[.ref t1, .none, .none, .none, .bool false, .none] }) (od := none) ⟨ho, rfl, rfl, trivial⟩ T.sa ?_
  refine PySem.HandSPX.exc_osaT I.kIn ho hcl (PySem.HandSPX.RefsT.cons hbm) hto hps rfl hno (fun h' tk' dx k dn dne hx hn => ?_)
  have hnd : H dx = none := I.hok.fresh dn
  have nd : ∀ {b : Addr} {o : Obj}, hp.get? b = some o → b ≠ dx := fun {b o} q => Nat.ne_of_lt (Nat.lt_of_lt_of_le (Heap.lt_size q) dn)
  have na : ∀ {b : Addr}, H b = none → b ≠ a := fun {b} n z => by
    rw [z, e] at n
    cases n
  have Un1 : Un X.fs [] H (upd (upd H dx (exd dx [(f, y)])) a (exo a C (some dx))) hp h' := {
    keep := fun b o q n _ _ => k b o (na n) q
    slot := fun b o q n _ _ => ⟨o.slots, k b o (na n) q⟩
    free := fun b o q n _ => by rw [upd_ne (na n), upd_ne (nd q)]; exact n
    there := fun b o q _ => by
      by_cases hb : b = a
      · exact ⟨_, by rw [hb]; exact hx⟩
      · exact ⟨o, k b o hb q⟩
    tups := fun b xs q => by rw [upd_ne (at_ne e q exo_tup), upd_ne (ne_of_none q hnd)]; exact q
    frzs := fun b o v q => by rw [upd_ne (at_ne e q exo_frz), upd_ne (ne_of_none q hnd)]; exact q
    tbls := fun b ps q => ⟨#[], by rw [upd_ne (at_ne e q exo_tbl), upd_ne (ne_of_none q hnd), q]; simp⟩ }
  refine h dx _ hnd dne (I.un (t' := tk') Un1 fun b o q => ?_)
  by_cases hb : b = a
  · subst hb
    rw [upd_same] at q
    cases q
    exact exo_ok hx
  · rw [upd_ne hb] at q
    by_cases hd : b = dx
    · subst hd
      rw [upd_same] at q
      cases q
      exact exd_ok hn (relO_put (fs := []) ry fun g => True.intro)
    · rw [upd_ne hd] at q
      exact (I.hok b o q).stay (fun c v hc z => k c v (by
          rcases hc with hc | hc
          · rw [hc]
            exact hb
          · exact at_ne e hc exo_own) z)
        (fun c hc => by rw [upd_ne (at_ne e hc exo_own), upd_ne (ne_of_none hc hnd)]; exact hc) (fun c xs hc => by rw [upd_ne (at_ne e hc exo_tup), upd_ne (ne_of_none hc hnd)]; exact hc)
theorem ost_oldT (T : OexT X.K C) (I : Inv X pins σ H s) (e : H a = some (exo a C (some dx))) (ed : H dx = some (exd dx fs)) (hl : fs.length ≤ 900) (hno : PySem.W.findIn X.K (.ref C) f = some none) (ry : RelV y u)
    (h : ∀ s', Inv X pins σ (upd H dx (exd dx ((f, y) :: fs))) s' → Q () s') : wpAny (model X.prog X.w) A (setAttr (.ref a) f u) Q E s := by
  obtain ⟨nm, q, N, bs, bm, sn, sub, ab, col, dd, k0, k1, k2, k3, k5, tl, nid, iid, hC, hbm, hto, hps, _⟩ := T.cls
  have hcl : PySem.W.clsIn X.K C = some { name := nm, bases := bs, mro := .ref C :: bm, ns := N, qualname := q, hasDict := true, slotNames := sn, subclasses := sub, abstract := ab, collection := col, hasDel := false } := by unfold PySem.W.clsIn; rw [hC] <;> rfl
  obtain ⟨t1, ho⟩ := exo_at I.hok e
  obtain ⟨mA, hns, rel⟩ := exd_at I.hok ed
  have hw := within_of rel
  obtain ⟨hp, g, d, t, os⟩ := s
  obtain ⟨oD, _, _, hoD, _, _⟩ := hns.count hw
  refine PySem.W.set_plain I.kIn (ox := { cls := .ref C, dict := some dx, data := .fields #[.ref t1, .none, .none, .none, .bool false, .none] }) (od := some oD) ⟨ho, rfl, rfl, hoD⟩ T.sa ?_
  refine PySem.HandSPX.osa_oldT I.kIn ho hns hw (by rw [List.length_map]; omega) hcl (PySem.HandSPX.RefsT.cons hbm) hto hps rfl hno (fun h' tk' k hn => ?_)
  have hd : ∃ o, h'.get? dx = some o := by
    obtain ⟨o, _, _, e', _⟩ := hn
    exact ⟨o, e'⟩
  exact h _ (I.write (t' := tk') (x := dx) (e := dx) (o := exd dx ((f, y) :: fs)) (by rw [ed]; exact True.intro) (.inl rfl) k hd (exd_ok hn (relO_put ry rel)))
end
section
variable {X : Cx} {o e : Expr} {es : List Expr} {to te : TE} {ta : TA} {f : Str} {p p' p1 p2 pos : Pos}
theorem ps_ostT (ho : PE X o to) (he : PE X e te) (hs : swapsWith e (some (.Attribute o f p')) pos.line X.env = pure false := by rfl) : PS X (.Assign [.Attribute o f p'] e pos) (tOstT X.K f to te) := by
  refine ⟨fun pins s σ H D I h => ?_⟩
  refine plainObj_wpAny_Assign_Attribute (thn (he.run pins s σ H _ I h) fun v s1 ⟨y, H1, I1, r1, q1⟩ => thn (ho.run pins s1 σ H1 _ I1 q1) fun u s2 ⟨x, H2, I2, r2, a, C, ex, T, hno, q⟩ => ?_) hs
  subst ex
  obtain rfl : u = Value.ref a := r2
  rcases q with ⟨ea, q⟩ | ⟨dx, fs, ea, ed, hl, q⟩
  · exact ost_newT T I2 ea hno r1 fun dx s' n ne J => ⟨σ, _, J, q dx n ne⟩
  · exact ost_oldT T I2 ea ed hl hno r1 fun s' J => ⟨σ, _, J, q⟩
theorem pmk_oexT {CX : CXT} {x : Str} {C fI : Addr} {k : Nat} {fd : FuncData} {ps : List Str} {sp : Sp} {ds : List Value} {dvs : List V} (T : OexT X.K C) (iC : PySem.W.findIn X.K (.ref C) "__init__" = some (some (.ref fI))) (tI : PySem.W.typeIn X.K (.ref fI) = some (.type "function"))
    (F1 : FnOk X.prog X.w X.K X.mg X.base CX k fI fd ps sp) (hr : Room (k + 1) X.A) (hb : Binds X.K fd ps ds) (hd : Vals dvs ds) (hx : Passes CX X (fun _ _ _ => False)) (hg : Gl X x) (hm : X.mg x = some (.ref C)) (ha : PA X (e :: es) ta)
    (hdb : (x == ("__debug__" : Str)) = false := by decide) (he : starEach (e :: es) X.env = (false, eval e X.env) :: starEach es X.env := by rfl) (hpl : (backTo pos (starEach es X.env)).any (·.1) = false := by rfl) :
    PMk X (.Call (.Name x p) (e :: es) [] pos) (tMkOT C sp dvs ta) := by
  intro pins s σ H Q I h
  obtain ⟨nm, q, N, bs, bm, sn, sub, ab, col, dd, k0, k1, k2, k3, k5, tl, nid, iid, hC, hbm, hto, hps, B, tl', hB, hB1, hA1, hN1⟩ := T.cls
  refine wpAny_Call_Name_kw (ld_glob I hg hm ?_ hdb)
  refine PySem.W.callWith_K (h₀ := X.base) I.ok.mod.kin T.kC (thn (ha.run pos pins s σ H _ I h) fun us s1 ⟨vs, H1, I1, r1, hz, q1⟩ => ⟨I1.kIn, ?_⟩) he hpl
  show wpAny _ _ (call (.ref C) us) _ _ _
  obtain ⟨hp, g, dr, tk, os⟩ := s1
  have hsz : hp.objs.size ≤ hp.objs.size + 1 := Nat.le_succ _
  have hn : H1 (hp.objs.size + 1) = none := I1.hok.fresh hsz
  have hq := q1 (hp.objs.size + 1) hn
  have kk : ∀ b o, hp.get? b = some o → ((hp.push (PySem.W.kdv_tup us)).push (PySem.HandSPX.excO C hp.objs.size)).get? b = some o := fun b o e => Heap.get?_push_of_some _ (Heap.get?_push_of_some _ e)
  have hget : ((hp.push (PySem.W.kdv_tup us)).push (PySem.HandSPX.excO C hp.objs.size)).get? (hp.objs.size + 1) = some (PySem.HandSPX.excO C hp.objs.size) := by heap_get
  have I2 : Inv X pins σ (upd H1 (hp.objs.size + 1) (exo (hp.objs.size + 1) C none)) ⟨(hp.push (PySem.W.kdv_tup us)).push (PySem.HandSPX.excO C hp.objs.size), g, dr, tk, os⟩ :=
    I1.laid (t' := tk) (a := hp.objs.size + 1) (o := exo (hp.objs.size + 1) C none) (h' := (hp.push (PySem.W.kdv_tup us)).push (PySem.HandSPX.excO C hp.objs.size)) kk hsz (exo_ok hget)
  have r2 : Vals (V.ref (hp.objs.size + 1) :: (vs ++ dvs)) (Value.ref (hp.objs.size + 1) :: (us ++ ds)) := .cons rfl (r1.append hd)
  have hl : (Value.ref (hp.objs.size + 1) :: us ++ ds).length = ps.length := by
    have e := r2.length
    rw [F1.len _ _ _ _ hq] at e
    exact e.symm
  have hus : us.length ≤ sizeLine := by
    rw [← Paired.length r1, sizeLine_eq]
    omega
  refine wpAny_call (PySem.HandSPX.call_ownT hB ((hbm.contains _).trans hB1) ((hbm.contains _).trans hA1) ((hbm.contains _).trans hN1) (I1.kIn _ _ hC) (PySem.W.looks_findIn I1.kIn iC) (fun self => PySem.W.bind_fn I1.kIn self tI) hus
    (codeAny_mono (F1.run _ X.stack _ _ ⟨Value.ref (hp.objs.size + 1) :: us, []⟩ (Value.ref (hp.objs.size + 1) :: (us ++ ds)) _ _ (fun _ _ _ => False) (hr.make C us []) (I2.env0.make C us []) (hb _ (Value.ref (hp.objs.size + 1) :: us) I2.kIn hl) r2 hq) fun r s' hq' => ?_))
  cases r with
  | error er => exact hx pins σ _ _ er s' I2 hq'
  | ok fl =>
    cases fl with
    | ret u =>
      obtain ⟨v, H2, os2, bare2, un2, hok2, rv, ev, d, fs, ea, ed, hd1, q2⟩ := hq'
      subst ev
      obtain ⟨h2, g2, d2, t2, os'⟩ := s'
      exact ⟨rv, mk_end (raises_own T.exC T.tyC) I1 hsz kk un2 hok2 os2 bare2 ea ed hd1 q2⟩
    | next => exact False.elim hq'
    | brk => exact False.elim hq'
    | cont => exact False.elim hq'
end
end L2
namespace Eo
open PySem L2 PySem.Spec PyProof.Rows
/-! ## raise C(e), C an own error with one field -/
/-- __init__(self, p): self.f = p, of an error -/
noncomputable def SpIn1 (K : PySem.W.Frag) (fl : Str) : Sp := fun vs H Q _ => ∃ (a C : Addr) (y : V), vs = [.ref a, y] ∧ OexT K C ∧ PySem.W.findIn K (.ref C) fl = some none ∧ H a = some (exo a C none) ∧ ∀ d, H d = none → d ≠ a → Q .non (upd (upd H d (exd d [(fl, y)])) a (exo a C (some d)))
section
variable {P : Program} {w : World} {K : PySem.W.Frag} {mg : Str → Option Value} {base : Heap}
theorem defIn1 {qual s1 p1 fl : Str} {st : Stmt} {f : Addr} {fd : FuncData} {k : Nat} {q1 q2 q3 q4 : Pos} (F : Fun K "__init__" qual st f fd) (S : FnScope [s1, p1] [s1, p1] (defScope st)) (hs : Vis (defScope st) s1) (hp : Vis (defScope st) p1)
    (hb : defBody st = [.Assign [.Attribute (.Name s1 q1) fl q2] (.Name p1 q3) q4])
    (hsw : ∀ E : PySem.Env, swapsWith (.Name p1 q3) (some (.Attribute (.Name s1 q1) fl q2)) q4.line E = pure false) (d1 : (s1 == ("__debug__" : Str)) = false := by decide) (d2 : (s1 == ("__classdict__" : Str)) = false := by decide) (d3 : (p1 == ("__debug__" : Str)) = false := by decide) (d4 : (p1 == ("__classdict__" : Str)) = false := by decide) :
    FnOk P w K mg base CX0 (k + 1) f fd [s1, p1] (SpIn1 K fl) := by
  refine fnO_of F S (fun vs H Q E h => ?_) fun cdv A outer s H vs Q E hr h => ?_
  · obtain ⟨a, C, y, rfl, _⟩ := h
    rfl
  · obtain ⟨a, C, y, rfl, T, hno, ha, q⟩ := h
    rw [hb]
    refine ⟨_, pss_one (ps_ostT (pe_var (i := 0) rfl hs d1 d2) (pe_var (i := 1) rfl hp d3 d4) (hsw _)), ?_⟩
    exact ⟨y, rfl, .ref a, rfl, a, C, rfl, T, hno, .inl ⟨ha, fun dx h1 h2 => q dx h1 h2⟩⟩
end
section
variable {G : Cg} {W : Wx}
end
section
variable {X : Cx} {W : WX}
/-- an own error of one field, as the top leaves it -/
structure ErrO (P : Program) (w : World) (K : PySem.W.Frag) (mg : Str → Option Value) (base : Heap) (k : Nat) (cn fl : Str) : Prop where
  ex : ∃ C fI fd ps, clsOf K cn = some C ∧ mg cn = some (.ref C) ∧ OexT K C ∧ PySem.W.findIn K (.ref C) fl = some none ∧ PySem.W.findIn K (.ref C) "__init__" = some (some (.ref fI)) ∧ PySem.W.typeIn K (.ref fI) = some (.type "function") ∧
    FnOk P w K mg base CX0 k fI fd ps (SpIn1 K fl) ∧ Binds K fd ps []
end
end Eo
namespace Eo
open PySem L2 PySem.Spec PyProof.Rows
/-! ## a caught error as data: isinstance and fields -/
section
variable {G : Cg} {W : Wx}
noncomputable def D.excOf : D → Option (Str × List (Str × D))
  | .exc c fs => some (c, fs)
  | _ => none
theorem Rp.excOf {F : Hp} {v : V} {d : D} {c : Str} {ds : List (Str × D)} (h : Rp G F v d) (e : d.excOf = some (c, ds)) : ∃ a C dd fs, v = .ref a ∧ F a = some (XO C dd a) ∧ F dd = some (.xd fs) ∧ G.cls c = some C ∧ Rpf G F fs ds := by
  unfold D.excOf at e
  split at e
  · cases e
    cases h with
    | exc h1 h2 h3 h4 => exact ⟨_, _, _, _, rfl, h1, h2, h3, h4⟩
  · cases e
/-- isinstance(e, T): tab tells of each class of errors -/
noncomputable def dIsX (tab : Str → Option Bool) (d : D) : Option D := d.excOf.bind fun x => (tab x.1).map .bl
theorem ev_isX {tab : Str → Option Bool} {cV : V} {cv : Value} {tx : TE} {mx : ME} (hcv : ∀ u, RelV cV u → u = cv) (ht : ∀ c C b, G.cls c = some C → tab c = some b → ExcC G.K C ∧ PySem.W.kitOne G.K (.ref C) cv = some b) (hx : EvE G W tx mx) :
    EvE G W (tCB (rIsX G.K) (tCons tx (tCons (tC cV) tNil))) (mUn (dIsX tab) mx) := fun B F H σ ρ Q g S h =>
  hx B F H σ ρ _ g S (h.fst fun v a ρ1 F1 H1 e1 S1 r1 h1 => by
    obtain ⟨d, e, q, _⟩ := lift_fits S1 h1
    unfold dIsX at e
    rw [Option.bind_eq_some_iff] at e
    obtain ⟨⟨c, ds⟩, e2, e3⟩ := e
    rw [Option.map_eq_some_iff] at e3
    obtain ⟨b, e4, rfl⟩ := e3
    obtain ⟨x, C, dd, fs, rfl, h2, h3, h4, h5⟩ := Rp.excOf r1 e2
    obtain ⟨t1, t2⟩ := ht c C b h4 e4
    exact ⟨x, C, dd, fs, cV, cv, b, rfl, S1.sub _ _ h2, S1.sub _ _ h3, t1, hcv, t2, q _ (.bl _)⟩)
/-- e.f -/
noncomputable def dXf (ok : Str → Bool) (f : Str) (d : D) : Option D := d.excOf.bind fun x => if ok x.1 then getK x.2 f else none
theorem ev_xf {ok : Str → Bool} {f : Str} {te : TE} {me : ME} (ht : ∀ c C, G.cls c = some C → ok c = true → XfC G.K C ∧ PySem.W.findIn G.K (.ref C) f = some none) (he : EvE G W te me) : EvE G W (tXfT G.K f te) (mUn (dXf ok f) me) := fun B F H σ ρ Q g S h =>
  he B F H σ ρ _ g S (h.fst fun v a ρ1 F1 H1 e1 S1 r1 h1 => by
    obtain ⟨d, e, q, _⟩ := lift_fits S1 h1
    unfold dXf at e
    rw [Option.bind_eq_some_iff] at e
    obtain ⟨⟨c, ds⟩, e2, e3⟩ := e
    dsimp only at e3
    split at e3
    · rename_i hok
      obtain ⟨x, C, dd, fs, rfl, h2, h3, h4, h5⟩ := Rp.excOf r1 e2
      obtain ⟨t1, t2⟩ := ht c C h4 hok
      obtain ⟨u, h6, h7⟩ := h5.look e3
      exact ⟨x, C, dd, fs, u, rfl, S1.sub _ _ h2, S1.sub _ _ h3, t1, t2, by rw [lookup_getK]; exact h6, q u h7⟩
    · cases e3)
end
/-! ## try: y = a() / except T as n: y2 = n -/
section
variable {G : Cg}
end
section
variable {X : Cx} {W : Wx}
end
end Eo
namespace L2
open PySem PySem.Spec PyProof.Rows
/-! ## an error made as a value -/
theorem pe_mkV {X : Cx} {e : Expr} {t : St → Hp → XK → Prop} (he : PMk X e t) : PE X e (fun σ H Q => t σ H fun cls d H' => ∀ a, H' a = none → Q (.ref a) (upd H' a (XA cls d a))) := by
  refine ⟨fun pins s σ H Q I h => ?_⟩
  refine wpAny_mono (he pins s σ H _ I h) (fun u s1 hu => ?_) fun _ _ x => x
  obtain ⟨a, oe, vs, sI, H', cls, d, rfl, J, k, hne, ha, hz, hd, h1, na, os, ag, r, q⟩ := hu
  obtain ⟨hp, g, dr, tk, o⟩ := s1
  obtain ⟨hpI, gI, drI, tkI, oI⟩ := sI
  dsimp only at os k ha ag hne
  subst os
  have J' : Inv X pins σ (upd H' a (XA cls d a)) ⟨hp, g, dr, tk, o⟩ :=
    J.call (ch := []) (Un.laidN (o := XA cls d a) k hne na) (HOk.laidN J.hok k na (xa_ok ha hz hd)) ag (fun _ z => nomatch z)
  exact ⟨.ref a, _, J', rfl, q a na⟩
end L2
namespace Eo
open PySem L2 PySem.Spec PyProof.Rows
section
variable {G : Cg} {W : Wx}
noncomputable def mMk1 (c fl : Str) (me : ME) : ME := fun ρ => (me ρ).bind fun d ρ1 => .ok (.exc c [(fl, d)]) ρ1
/-- C(e), an error with one field, as a value -/
theorem ev_mk1 {c fl : Str} {C : Addr} {te : TE} {me : ME} (hc : G.cls c = some C) (T : OexT G.K C) (hno : PySem.W.findIn G.K (.ref C) fl = some none) (he : EvE G W te me) :
    EvE G W (fun σ H Q => tMkOT C (SpIn1 G.K fl) [] (tCons te tNil) σ H fun cls d H' => ∀ a, H' a = none → Q (.ref a) (upd H' a (XA cls d a))) (mMk1 c fl me) := fun B F H σ ρ Q g S h =>
  he B F H σ ρ _ g S (h.fst fun v d ρ1 F1 H1 e1 S1 r1 h1 => by
    show [v].length ≤ 1000 ∧ _
    refine ⟨by simp, fun a ha => ⟨a, C, v, rfl, T, hno, upd_same, fun dx hdx ne => ⟨rfl, dx, [(fl, v)], upd_same, ?_, ?_, ?_⟩⟩⟩
    · rw [upd_ne ne, upd_same]
    · rw [upd_ne ne] at hdx; exact hdx
    · rw [upd_ne ne] at hdx
      have e : upd (del (upd (upd (upd H1 a (exo a C none)) dx (exd dx [(fl, v)])) a (exo a C (some dx))) a) dx (.xd [(fl, v)]) = upd H1 dx (.xd [(fl, v)]) := by
        funext b
        by_cases n : b = dx
        · rw [n, upd_same, upd_same]
        · rw [upd_ne n, upd_ne n]
          by_cases n' : b = a
          · rw [n', del_same, ha]
          · rw [del_ne n', upd_ne n', upd_ne n, upd_ne n']
      rw [e]
      intro x hx
      have S2 := S1.new (o := .xd [(fl, v)]) hdx
      have nx : dx ≠ x := fun z => by rw [z, upd_same] at hx; cases hx
      have f1 := S1.sub.free hdx
      have f2 := S2.sub.free hx
      exact h1 (.ref x) (upd (upd F1 dx (.xd [(fl, v)])) x (XA (.ref C) (some dx) x)) (upd (upd H1 dx (.xd [(fl, v)])) x (XA (.ref C) (some dx) x)) ((Ex.new f1).trans (Ex.new f2)) (S2.new hx)
        (.exc upd_same (by rw [upd_ne nx, upd_same]) hc (.cons ((r1.mono (Ex.new f1)).mono (Ex.new f2)) .nil)))
end
end Eo
/-! C(f=e): an own error made with keywords -/
namespace PySem.HandSPX
open PySem PySem.Spec PySem.Calls Builtin Builtin.ObjectAttr
section
variable {M : Model} {A : Around} {E : Value → Shared → Prop} {h : Heap} {g : Array GenState} {d : Drawn} {t : Nat} {os : OsState}
variable {nm q : Str} {C N : Addr} {bs bm bmB : List Value} {hdct : Bool} {sn : List Str} {sub : List Value} {ab : Bool} {col : Option Bool} {dd : Option Addr} {k0 k1 k2 k3 k5 : Option Value} {B newId initId : String}
theorem check_new_ownK (F : ExcBaseFacts B newId initId bmB) (hB1 : bm.contains (.type B) = true) (hA1 : bm.contains (.type "AttributeError") = false) (hN1 : bm.contains (.type "NameError") = false) {rest : List Value} {kw : List (Str × Value)} {Q : Unit → Shared → Prop}
    (hC : h.get? C = some (excClassObj nm q C N bs bm hdct sn sub ab col dd k0 k1 k2 k3 k5 newId)) (hq : Q () ⟨h, g, d, t, os⟩) : wpAny M A (checkBuiltinCall newId ⟨.ref C :: rest, kw⟩) Q E ⟨h, g, d, t, os⟩ := by
  have hcont : (Value.ref C :: bm).contains (.type B) = true := by rw [List.contains_cons, hB1, Bool.or_true]
  have hstar := F.noStar
  simp only [checkBuiltinCall, F.newKind, F.newSplit, F.newRow]
  repeat (first | refine wpAny_loadPart_at hC ?_ | (refine wpAny_isSubtype_exc hC ?_; rw [hcont]) | refine wpAny_staticBase_exc hC ?_ | refine wpAny_madeBy_exc hC ?_ | simp only [bne_self_eq_false, Bool.false_eq_true, if_false] | wp_step)
  exact hq
end
section
variable {prog : Program} {w : World} {A : Around} {E : Value → Shared → Prop} {R : Result → Shared → Prop} {h : Heap} {g : Array GenState} {d : Drawn} {t : Nat} {os : OsState}
variable {nm q : Str} {C N : Addr} {bs bm bmB : List Value} {hdct : Bool} {sn : List Str} {sub : List Value} {ab : Bool} {col : Option Bool} {dd : Option Addr} {k0 k1 k2 k3 k5 : Option Value} {B newId initId : String}
theorem new_ownK (F : ExcBaseFacts B newId initId bmB) (hB1 : bm.contains (.type B) = true) (hA1 : bm.contains (.type "AttributeError") = false) (hN1 : bm.contains (.type "NameError") = false) {rest : List Value} {kw : List (Str × Value)}
    (hC : h.get? C = some (excClassObj nm q C N bs bm hdct sn sub ab col dd k0 k1 k2 k3 k5 newId))
    (hq : R (.ok (.ret (.ref (h.objs.size + 1)))) ⟨(h.push { cls := .type "tuple", data := .seq rest.toArray }).push
      { cls := .ref C, data := .fields #[.ref h.objs.size, .none, .none, .none, .bool false, .none] }, g, d, t, os⟩) (hrest : rest.length ≤ sizeLine) :
    codeAny (model prog w) A (.builtin newId ⟨.ref C :: rest, kw⟩) R ⟨h, g, d, t, os⟩ := by
  have hends := F.ends
  have hcB : (Value.ref C :: bm).contains (.type B) = true := by rw [List.contains_cons, hB1, Bool.or_true]
  have hcA : (Value.ref C :: bm).contains (.type "AttributeError") = false := by rw [List.contains_cons, hA1]; rfl
  have hcN : (Value.ref C :: bm).contains (.type "NameError") = false := by rw [List.contains_cons, hN1]; rfl
  refine codeAny_builtinAt F.entry ?_
  unfold Builtin.«BaseException.__new__»
  refine wpAt_bind ?_
  show wpAt _ _ _ (stack >>= _) _ _ _
  refine wpAt_bind (wpAt_stack fun p below => wpAt_of_wpAny ?_)
  wp_walk
  refine wpAt_of_wpAny ?_
  rw [F.owner]
  repeat (first | with_reducible refine wpAny_madeHere_exc F.canon hC ?_ | with_reducible refine wpAny_loadPart_at hC ?_ | (with_reducible refine wpAny_isSubtype_exc hC ?_; first | rw [hcB] | rw [hcA] | rw [hcN]) | wp_step)
  show R _ _
  rw [Heap.size_push]
  exact hq
theorem type_call_ownK (F : ExcBaseFacts B newId initId bmB) (hB1 : bm.contains (.type B) = true) (hA1 : bm.contains (.type "AttributeError") = false) (hN1 : bm.contains (.type "NameError") = false) {rest : List Value} {kw : List (Str × Value)} {fI : Addr} {Q : Fin → Shared → Prop}
    (hC : h.get? C = some (excClassObj nm q C N bs bm hdct sn sub ab col dd k0 k1 k2 k3 k5 newId))
    (hi : W.Looks (model prog w) h (typeLookup (.ref C) "__init__") (some (.ref fI))) (hb : ∀ self, W.Looks (model prog w) h (bindSpecial (.ref fI) self) (.ref fI, [self])) (hrest : rest.length ≤ sizeLine)
    (hq : codeAny (model prog w) A (.call (.ref fI) ⟨.ref (h.objs.size + 1) :: rest, kw⟩)
      (fun r s' => match r with | .ok (.ret v) => v = .none ∧ Q (.done (.ret (.ref (h.objs.size + 1)))) s' | .ok _ => False | .error e => E e s')
      ⟨(h.push (W.kdv_tup rest)).push (excO C h.objs.size), g, d, t, os⟩) :
    wpAny (model prog w) A (Builtin.«type.__call__» ⟨.ref C :: rest, kw⟩) Q E ⟨h, g, d, t, os⟩ := by
  repeat (first | with_reducible refine wpAny_loadPart_at hC ?_ | with_reducible refine wpAny_madeBy_exc hC ?_ | wp_step)
  refine codeAny_call_builtin_code (Code.quiet_builtin _ F.quiet) (check_new_ownK F hB1 hA1 hN1 hC ?_)
  refine new_ownK F hB1 hA1 hN1 hC ?_ hrest
  show wpAny _ _ _ _ _ _
  have k : ∀ b o, h.get? b = some o → ((h.push (W.kdv_tup rest)).push (excO C h.objs.size)).get? b = some o := fun b o e => Heap.get?_push_of_some _ (Heap.get?_push_of_some _ e)
  have hC₁ := k _ _ hC
  have hget : ((h.push (W.kdv_tup rest)).push (excO C h.objs.size)).get? (h.objs.size + 1) = some (excO C h.objs.size) := by heap_get
  have hcC : (Value.ref C :: bm).contains (.ref C) = true := by simp
  have i1 := hi.keeps k
  have b1 := (hb (.ref (h.objs.size + 1))).keeps k
  unfold isInstance
  repeat (first | with_reducible refine wpAny_loadPart_at hget ?_ | (with_reducible refine wpAny_isSubtype_exc hC₁ ?_; rw [hcC]) | wp_step)
  show wpAny _ _ (typeLookup (.ref C) _) _ _ _
  refine i1.at ?_
  refine wpAny_holding (wpAny_bind (b1.at ?_))
  refine wpAny_bind (wpAny_call (codeAny_mono hq fun r s' z => ?_))
  rcases r with e | (v | _ | _ | _) <;> first | exact z | exact z.elim | skip
  obtain ⟨rfl, z⟩ := z
  first
    | exact wpAny_pure (wpAny_pure z)
    | (wp_walk; exact z)
theorem call_ownK (F : ExcBaseFacts B newId initId bmB) (hB1 : bm.contains (.type B) = true) (hA1 : bm.contains (.type "AttributeError") = false) (hN1 : bm.contains (.type "NameError") = false) {rest : List Value} {kw : List (Str × Value)} {fI : Addr}
    (hC : h.get? C = some (excClassObj nm q C N bs bm hdct sn sub ab col dd k0 k1 k2 k3 k5 newId))
    (hi : W.Looks (model prog w) h (typeLookup (.ref C) "__init__") (some (.ref fI))) (hb : ∀ self, W.Looks (model prog w) h (bindSpecial (.ref fI) self) (.ref fI, [self])) (hrest : rest.length ≤ sizeLine)
    (hq : codeAny (model prog w) (A.under (.builtin "type.__call__" ⟨.ref C :: rest, kw⟩)) (.call (.ref fI) ⟨.ref (h.objs.size + 1) :: rest, kw⟩) (W.InitBack (h.objs.size + 1) R)
      ⟨(h.push (W.kdv_tup rest)).push (excO C h.objs.size), g, d, t, os⟩) :
    codeAny (model prog w) A (.call (.ref C) ⟨rest, kw⟩) R ⟨h, g, d, t, os⟩ := by
  have f1 := tc_lookup
  have f2 := tc_bind (.ref C)
  have hTy : (⟨h, g, d, t, os⟩ : Shared).TypeIs (.ref C) "type" := ⟨_, hC, rfl⟩
  refine codeAny_of_tree ?_
  show wpAny _ _ (callAny (.ref C) _) _ _ _
  repeat (any_goals (first | assumption | with_reducible refine wpAny_loadPart_at hC ?_ | wp_step))
  refine ⟨rfl, ?_⟩
  refine codeAny_call_builtin_at (Code.quiet_builtin _ (by decide +kernel)) entry_typeCall (wpAny_check_type_call_sub hC (type_call_ownK F hB1 hA1 hN1 hC hi hb hrest ?_))
  refine codeAny_mono hq fun r s' z => ?_
  rcases r with e | (v | _ | _ | _) <;> exact z
end
end PySem.HandSPX
namespace L2
open PySem PySem.Spec PyProof.Rows Eo
/-- C(f = e, ..), all by name, C's own __init__ keeping sp -/
noncomputable def tMkK (C : Addr) (sp : Sp) (m : Nat) (is : List Nat) (tk : TA) : St → Hp → XK → Prop := fun σ H Q => tk σ H fun zs H1 => zs.length = m ∧ ∀ a, H1 a = none → sp (.ref a :: permL is zs) (upd H1 a (exo a C none))
  (fun v H2 => v = .non ∧ ∃ (d : Addr) (fs : List (Str × V)), H2 a = some (exo a C (some d)) ∧ H2 d = some (exd d fs) ∧ H1 d = none ∧ Q (.ref C) (some d) (upd (del H2 a) d (.xd fs))) (fun _ _ _ => False)
section
variable {X : Cx}
theorem pmk_oexK {CX : CXT} {x : Str} {C fI : Addr} {k : Nat} {fd : FuncData} {ps ks : List Str} {sp : Sp} {is : List Nat} {kws : List Keyword} {tk : TA} {p pos : Pos} (T : OexT X.K C) (iC : PySem.W.findIn X.K (.ref C) "__init__" = some (some (.ref fI))) (tI : PySem.W.typeIn X.K (.ref fI) = some (.type "function"))
    (F1 : FnOk X.prog X.w X.K X.mg X.base CX k fI fd ps sp) (hr : Room (k + 1) X.A) (hbx : ∀ (a : Addr) (ws : List Value), ws.length = ks.length → bindArgs fd ⟨[.ref a], ks.zip ws⟩ = pure (ps.zip (.ref a :: permL is ws))) (hx : Passes CX X (fun _ _ _ => False)) (hg : Gl X x) (hm : X.mg x = some (.ref C)) (hkw : PK X kws tk)
    (hall : (backToKw pos (keywordEach kws X.env)).all (·.1.isSome) = true := by rfl) (hks : (backToKw pos (keywordEach kws X.env)).filterMap (·.1) = ks := by rfl) (hdb : (x == ("__debug__" : Str)) = false := by decide)
    (hpl : ((backTo pos (starEach [] X.env)).any (·.1) || (backToKw pos (keywordEach kws X.env)).any (·.1.isNone)) = false := by rfl) :
    PMk X (.Call (.Name x p) [] kws pos) (tMkK C sp ks.length is tk) := by
  intro pins s σ H Q I h
  obtain ⟨nm, q, N, bs, bm, sn, sub, ab, col, dd, k0, k1, k2, k3, k5, tl, nid, iid, hC, hbm, hto, hps, B, tl', hB, hB1, hA1, hN1⟩ := T.cls
  refine wpAny_Call_Name_kw (ld_glob I hg hm (PySem.W.callWith_KW0 (h₀ := X.base) I.ok.mod.kin T.kC hall ?_ hpl) hdb)
  refine thn (hkw.run pos pins s σ H _ I h) fun us s1 ⟨vs, H1, I1, r1, hz, q1⟩ => ⟨I1.kIn, ?_⟩
  rw [hks]
  obtain ⟨hp, g, dr, tk0, os⟩ := s1
  have hsz : hp.objs.size ≤ hp.objs.size + 1 := Nat.le_succ _
  have hn : H1 (hp.objs.size + 1) = none := I1.hok.fresh hsz
  have hq := q1 (hp.objs.size + 1) hn
  have kk : ∀ b o, hp.get? b = some o → ((hp.push (PySem.W.kdv_tup [])).push (PySem.HandSPX.excO C hp.objs.size)).get? b = some o := fun b o e => Heap.get?_push_of_some _ (Heap.get?_push_of_some _ e)
  have hget : ((hp.push (PySem.W.kdv_tup [])).push (PySem.HandSPX.excO C hp.objs.size)).get? (hp.objs.size + 1) = some (PySem.HandSPX.excO C hp.objs.size) := by heap_get
  have I2 : Inv X pins σ (upd H1 (hp.objs.size + 1) (exo (hp.objs.size + 1) C none)) ⟨(hp.push (PySem.W.kdv_tup [])).push (PySem.HandSPX.excO C hp.objs.size), g, dr, tk0, os⟩ :=
    I1.laid (t' := tk0) (a := hp.objs.size + 1) (o := exo (hp.objs.size + 1) C none) (h' := (hp.push (PySem.W.kdv_tup [])).push (PySem.HandSPX.excO C hp.objs.size)) kk hsz (exo_ok hget)
  have r2 : Vals (V.ref (hp.objs.size + 1) :: permL is vs) (Value.ref (hp.objs.size + 1) :: permL is us) := .cons rfl (vals_perm r1 is)
  refine wpAny_call (PySem.HandSPX.call_ownK (kw := ks.zip us) hB ((hbm.contains _).trans hB1) ((hbm.contains _).trans hA1) ((hbm.contains _).trans hN1) (I1.kIn _ _ hC) (PySem.W.looks_findIn I1.kIn iC) (fun self => PySem.W.bind_fn I1.kIn self tI) (Nat.zero_le _)
    (codeAny_mono (F1.run _ X.stack _ _ ⟨[Value.ref (hp.objs.size + 1)], ks.zip us⟩ (Value.ref (hp.objs.size + 1) :: permL is us) _ _ (fun _ _ _ => False) (hr.make C [] (ks.zip us)) (I2.env0.make C [] (ks.zip us)) (.of_eq (hbx (hp.objs.size + 1) us (by rw [← r1.length]; exact hz))) r2 hq) fun r s' hq' => ?_))
  cases r with
  | error er => exact hx pins σ _ _ er s' I2 hq'
  | ok fl =>
    cases fl with
    | ret u =>
      obtain ⟨v, H2, os2, bare2, un2, hok2, rv, ev, d, fs, ea, ed, hd1, q2⟩ := hq'
      subst ev
      obtain ⟨h2, g2, d2, t2, os'⟩ := s'
      exact ⟨rv, mk_end (raises_own T.exC T.tyC) I1 hsz kk un2 hok2 os2 bare2 ea ed hd1 q2⟩
    | next => exact False.elim hq'
    | brk => exact False.elim hq'
    | cont => exact False.elim hq'
end
end L2
namespace Eo
open PySem L2 PySem.Spec PyProof.Rows
section
variable {G : Cg} {W : Wx}
/-- what comes of a made error with one field -/
theorem mk1_end {c fl : Str} {C : Addr} {B : Bg} {F1 H1 : Hp} {σ : L2.St} {ρ1 : Env} {v : V} {d : D} {Q : VK} (g : B.G = G) (hc : G.cls c = some C) (T : OexT G.K C) (hno : PySem.W.findIn G.K (.ref C) fl = some none) (S1 : Sta B F1 H1 σ ρ1) (r1 : Rp G F1 v d)
    (h1 : ∀ v F' H', Ex F1 F' → Sta B F' H' σ ρ1 → Rp G F' v (.exc c [(fl, d)]) → Q v H') : ∀ a, H1 a = none → SpIn1 G.K fl [.ref a, v] (upd H1 a (exo a C none))
      (fun v H2 => v = .non ∧ ∃ (d : Addr) (fs : List (Str × V)), H2 a = some (exo a C (some d)) ∧ H2 d = some (exd d fs) ∧ H1 d = none ∧ ∀ b, (upd (del H2 a) d (.xd fs)) b = none → Q (.ref b) (upd (upd (del H2 a) d (.xd fs)) b (XA (.ref C) (some d) b))) (fun _ _ _ => False) := fun a ha => by
  refine ⟨a, C, v, rfl, T, hno, upd_same, fun dx hdx ne => ⟨rfl, dx, [(fl, v)], upd_same, ?_, ?_, ?_⟩⟩
  · rw [upd_ne ne, upd_same]
  · rw [upd_ne ne] at hdx; exact hdx
  · rw [upd_ne ne] at hdx
    have e : upd (del (upd (upd (upd H1 a (exo a C none)) dx (exd dx [(fl, v)])) a (exo a C (some dx))) a) dx (.xd [(fl, v)]) = upd H1 dx (.xd [(fl, v)]) := by
      funext b
      by_cases n : b = dx
      · rw [n, upd_same, upd_same]
      · rw [upd_ne n, upd_ne n]
        by_cases n' : b = a
        · rw [n', del_same, ha]
        · rw [del_ne n', upd_ne n', upd_ne n, upd_ne n']
    rw [e]
    intro x hx
    have S2 := S1.new (o := .xd [(fl, v)]) hdx
    have nx : dx ≠ x := fun z => by rw [z, upd_same] at hx; cases hx
    have f1 := S1.sub.free hdx
    have f2 := S2.sub.free hx
    exact h1 (.ref x) (upd (upd F1 dx (.xd [(fl, v)])) x (XA (.ref C) (some dx) x)) (upd (upd H1 dx (.xd [(fl, v)])) x (XA (.ref C) (some dx) x)) ((Ex.new f1).trans (Ex.new f2)) (S2.new hx)
      (.exc upd_same (by rw [upd_ne nx, upd_same]) hc (.cons ((r1.mono (Ex.new f1)).mono (Ex.new f2)) .nil))
noncomputable def mMkK1 (c fl : Str) (mk : MA) : ME := fun ρ => (mk ρ).bind fun ds ρ1 => match ds with
  | [d] => .ok (.exc c [(fl, d)]) ρ1
  | _ => .bad
/-- C(f=e), an error with one field, as a value -/
theorem ev_mkK1 {c fl : Str} {C : Addr} {tk : TA} {mk : MA} (hc : G.cls c = some C) (T : OexT G.K C) (hno : PySem.W.findIn G.K (.ref C) fl = some none) (he : EvA G W tk mk) :
    EvE G W (fun σ H Q => tMkK C (SpIn1 G.K fl) 1 [0] tk σ H fun cls d H' => ∀ a, H' a = none → Q (.ref a) (upd H' a (XA cls d a))) (mMkK1 c fl mk) := fun B F H σ ρ Q g S h =>
  he B F H σ ρ _ g S (h.fst fun vs ds ρ1 F1 H1 e1 S1 r1 h1 => by
    split at h1
    · rename_i d
      cases r1 with
      | cons r t =>
        cases t
        refine ⟨rfl, fun a ha => ?_⟩
        exact mk1_end g hc T hno S1 r (fun v F' H' x S' rv => h1 v F' H' x S' rv) a ha
    · exact h1.elim)
end
end Eo
namespace Eo
open PySem L2 PySem.Spec PyProof.Rows
section
variable {X : Cx}
/-- C(e), an error as a value -/
theorem pe_mkV1 {k j : Nat} {cn fl : Str} {C : Addr} {e : Expr} {te : TE} {p pos : Pos} (c : ErrO X.prog X.w X.K X.mg X.base j cn fl) (hC : clsOf X.K cn = some C) (hr : Room (k + 1) X.A) (hj : j ≤ k) (hg : Gl X cn) (he : PE X e te)
    (hdb : (cn == ("__debug__" : Str)) = false := by decide) (hst : starEach [e] X.env = (false, eval e X.env) :: starEach [] X.env := by rfl) :
    PE X (.Call (.Name cn p) [e] [] pos) (fun σ H Q => tMkOT C (SpIn1 X.K fl) [] (tCons te tNil) σ H fun cls d H' => ∀ a, H' a = none → Q (.ref a) (upd H' a (XA cls d a))) := by
  obtain ⟨C', fI, fd, ps, h1, h2, h3, h4, h5, h6, h7, h8⟩ := c.ex
  rw [hC] at h1
  cases h1
  exact pe_mkV (pmk_oexT h3 h5 h6 h7 (hr.mono (by omega)) h8 .nil pass0 hg h2 (pa_cons (hs := hst) he pa_nil) hdb hst rfl)
/-- the same error class, its field also given by name -/
structure ErrK (P : Program) (w : World) (K : PySem.W.Frag) (mg : Str → Option Value) (base : Heap) (k : Nat) (cn fl : Str) : Prop where
  ex : ∃ C fI fd ps, clsOf K cn = some C ∧ mg cn = some (.ref C) ∧ OexT K C ∧ PySem.W.findIn K (.ref C) fl = some none ∧ PySem.W.findIn K (.ref C) "__init__" = some (some (.ref fI)) ∧ PySem.W.typeIn K (.ref fI) = some (.type "function") ∧
    FnOk P w K mg base CX0 k fI fd ps (SpIn1 K fl) ∧ ∀ (a : Addr) (ws : List Value), ws.length = [fl].length → bindArgs fd ⟨[.ref a], [fl].zip ws⟩ = pure (ps.zip (.ref a :: permL [0] ws))
theorem pe_mkVK {k j : Nat} {cn fl : Str} {C : Addr} {tk : TA} {kws : List Keyword} {p pos : Pos} (c : ErrK X.prog X.w X.K X.mg X.base j cn fl) (hC : clsOf X.K cn = some C) (hr : Room (k + 1) X.A) (hj : j ≤ k) (hg : Gl X cn) (hkw : PK X kws tk)
    (hall : (backToKw pos (keywordEach kws X.env)).all (·.1.isSome) = true := by rfl) (hks : (backToKw pos (keywordEach kws X.env)).filterMap (·.1) = [fl] := by rfl) (hdb : (cn == ("__debug__" : Str)) = false := by decide)
    (hpl : ((backTo pos (starEach [] X.env)).any (·.1) || (backToKw pos (keywordEach kws X.env)).any (·.1.isNone)) = false := by rfl) :
    PE X (.Call (.Name cn p) [] kws pos) (fun σ H Q => tMkK C (SpIn1 X.K fl) 1 [0] tk σ H fun cls d H' => ∀ a, H' a = none → Q (.ref a) (upd H' a (XA cls d a))) := by
  obtain ⟨C', fI, fd, ps, h1, h2, h3, h4, h5, h6, h7, h8⟩ := c.ex
  rw [hC] at h1
  cases h1
  exact pe_mkV (pmk_oexK (ks := [fl]) h3 h5 h6 h7 (hr.mono (by omega)) h8 pass0 hg h2 hkw hall hks hdb hpl)
end
end Eo
namespace Eo
open PySem L2 PySem.Spec PyProof.Rows
/-! ## an error with two fields -/
/-- __init__(self, p, q): self.f = p; self.g = q -/
noncomputable def SpIn2 (K : PySem.W.Frag) (f g : Str) : Sp := fun vs H Q _ => ∃ (a C : Addr) (y z : V), vs = [.ref a, y, z] ∧ OexT K C ∧ PySem.W.findIn K (.ref C) f = some none ∧ PySem.W.findIn K (.ref C) g = some none ∧ H a = some (exo a C none) ∧
  ∀ d, H d = none → d ≠ a → Q .non (upd (upd H d (exd d [(g, z), (f, y)])) a (exo a C (some d)))
section
variable {P : Program} {w : World} {K : PySem.W.Frag} {mg : Str → Option Value} {base : Heap}
theorem defIn2 {qual s1 p1 p2 f1 f2 : Str} {st : Stmt} {f : Addr} {fd : FuncData} {k : Nat} {q1 q2 q3 q4 q5 q6 q7 q8 : Pos} (F : Fun K "__init__" qual st f fd) (S : FnScope [s1, p1, p2] [s1, p1, p2] (defScope st)) (hs : Vis (defScope st) s1) (hp1 : Vis (defScope st) p1) (hp2 : Vis (defScope st) p2)
    (hb : defBody st = [.Assign [.Attribute (.Name s1 q1) f1 q2] (.Name p1 q3) q4, .Assign [.Attribute (.Name s1 q5) f2 q6] (.Name p2 q7) q8])
    (hsw : ∀ E : PySem.Env, swapsWith (.Name p1 q3) (some (.Attribute (.Name s1 q1) f1 q2)) q4.line E = pure false) (hsw2 : ∀ E : PySem.Env, swapsWith (.Name p2 q7) (some (.Attribute (.Name s1 q5) f2 q6)) q8.line E = pure false)
    (d1 : (s1 == ("__debug__" : Str)) = false := by decide) (d2 : (s1 == ("__classdict__" : Str)) = false := by decide) (d3 : (p1 == ("__debug__" : Str)) = false := by decide) (d4 : (p1 == ("__classdict__" : Str)) = false := by decide) (d5 : (p2 == ("__debug__" : Str)) = false := by decide) (d6 : (p2 == ("__classdict__" : Str)) = false := by decide) :
    FnOk P w K mg base CX0 (k + 1) f fd [s1, p1, p2] (SpIn2 K f1 f2) := by
  refine fnO_of F S (fun vs H Q E h => ?_) fun cdv A outer s H vs Q E hr h => ?_
  · obtain ⟨a, C, y, z, rfl, _⟩ := h
    rfl
  · obtain ⟨a, C, y, z, rfl, T, hno, hno2, ha, q⟩ := h
    rw [hb]
    refine ⟨_, pss_cons (ps_ostT (pe_var (i := 0) rfl hs d1 d2) (pe_var (i := 1) rfl hp1 d3 d4) (hsw _)) (pss_one (ps_ostT (pe_var (i := 0) rfl hs d1 d2) (pe_var (i := 2) rfl hp2 d5 d6) (hsw2 _))), ?_⟩
    refine ⟨y, rfl, .ref a, rfl, a, C, rfl, T, hno, .inl ⟨ha, fun dx h1 h2 => ?_⟩⟩
    refine ⟨z, rfl, .ref a, rfl, a, C, rfl, T, hno2, .inr ⟨dx, [(f1, y)], upd_same, by rw [upd_ne h2, upd_same], by simp, ?_⟩⟩
    have e : upd (upd (upd H dx (exd dx [(f1, y)])) a (exo a C (some dx))) dx (exd dx [(f2, z), (f1, y)]) = upd (upd H dx (exd dx [(f2, z), (f1, y)])) a (exo a C (some dx)) := by
      funext b
      by_cases n : b = dx
      · rw [n, upd_same, upd_ne h2, upd_same]
      · rw [upd_ne n]
        by_cases n' : b = a
        · rw [n', upd_same, upd_same]
        · rw [upd_ne n', upd_ne n', upd_ne n, upd_ne n]
    rw [e]
    exact q dx h1 h2
end
section
variable {G : Cg} {W : Wx}
theorem mk2_end {c f1 f2 : Str} {C : Addr} {B : Bg} {F1 H1 : Hp} {σ : L2.St} {ρ1 : Env} {v u : V} {d d2 : D} {Q : VK} (g : B.G = G) (hc : G.cls c = some C) (T : OexT G.K C) (hno : PySem.W.findIn G.K (.ref C) f1 = some none) (hno2 : PySem.W.findIn G.K (.ref C) f2 = some none) (S1 : Sta B F1 H1 σ ρ1) (r1 : Rp G F1 v d) (r2 : Rp G F1 u d2)
    (h1 : ∀ v F' H', Ex F1 F' → Sta B F' H' σ ρ1 → Rp G F' v (.exc c [(f2, d2), (f1, d)]) → Q v H') : ∀ a, H1 a = none → SpIn2 G.K f1 f2 [.ref a, v, u] (upd H1 a (exo a C none))
      (fun v H2 => v = .non ∧ ∃ (d : Addr) (fs : List (Str × V)), H2 a = some (exo a C (some d)) ∧ H2 d = some (exd d fs) ∧ H1 d = none ∧ ∀ b, (upd (del H2 a) d (.xd fs)) b = none → Q (.ref b) (upd (upd (del H2 a) d (.xd fs)) b (XA (.ref C) (some d) b))) (fun _ _ _ => False) := fun a ha => by
  refine ⟨a, C, v, u, rfl, T, hno, hno2, upd_same, fun dx hdx ne => ⟨rfl, dx, [(f2, u), (f1, v)], upd_same, ?_, ?_, ?_⟩⟩
  · rw [upd_ne ne, upd_same]
  · rw [upd_ne ne] at hdx; exact hdx
  · rw [upd_ne ne] at hdx
    have e : upd (del (upd (upd (upd H1 a (exo a C none)) dx (exd dx [(f2, u), (f1, v)])) a (exo a C (some dx))) a) dx (.xd [(f2, u), (f1, v)]) = upd H1 dx (.xd [(f2, u), (f1, v)]) := by
      funext b
      by_cases n : b = dx
      · rw [n, upd_same, upd_same]
      · rw [upd_ne n, upd_ne n]
        by_cases n' : b = a
        · rw [n', del_same, ha]
        · rw [del_ne n', upd_ne n', upd_ne n, upd_ne n']
    rw [e]
    intro x hx
    have S2 := S1.new (o := .xd [(f2, u), (f1, v)]) hdx
    have nx : dx ≠ x := fun z => by rw [z, upd_same] at hx; cases hx
    have g1 := S1.sub.free hdx
    have g2 := S2.sub.free hx
    exact h1 (.ref x) (upd (upd F1 dx (.xd [(f2, u), (f1, v)])) x (XA (.ref C) (some dx) x)) (upd (upd H1 dx (.xd [(f2, u), (f1, v)])) x (XA (.ref C) (some dx) x)) ((Ex.new g1).trans (Ex.new g2)) (S2.new hx)
      (.exc upd_same (by rw [upd_ne nx, upd_same]) hc (.cons ((r2.mono (Ex.new g1)).mono (Ex.new g2)) (.cons ((r1.mono (Ex.new g1)).mono (Ex.new g2)) .nil)))
noncomputable def mMk2 (c f1 f2 : Str) (ma : MA) : ME := fun ρ => (ma ρ).bind fun ds ρ1 => match ds with
  | [d, e] => .ok (.exc c [(f2, e), (f1, d)]) ρ1
  | _ => .bad
theorem ev_mk2 {c f1 f2 : Str} {C : Addr} {ta : TA} {ma : MA} (hc : G.cls c = some C) (T : OexT G.K C) (hno : PySem.W.findIn G.K (.ref C) f1 = some none) (hno2 : PySem.W.findIn G.K (.ref C) f2 = some none) (he : EvA G W ta ma) :
    EvE G W (fun σ H Q => tMkOT C (SpIn2 G.K f1 f2) [] ta σ H fun cls d H' => ∀ a, H' a = none → Q (.ref a) (upd H' a (XA cls d a))) (mMk2 c f1 f2 ma) := fun B F H σ ρ Q g S h =>
  he B F H σ ρ _ g S (h.fst fun vs ds ρ1 F1 H1 e1 S1 r1 h1 => by
    split at h1
    · rename_i d e
      cases r1 with
      | cons r t =>
        cases t with
        | cons r' t =>
          cases t
          exact ⟨by simp, fun a ha => mk2_end g hc T hno hno2 S1 r r' (fun v F' H' x S' rv => h1 v F' H' x S' rv) a ha⟩
    · exact h1.elim)
/-- C(g=e2, f=e1): by name, the second one first -/
noncomputable def mMkK2 (c f1 f2 : Str) (mk : MA) : ME := fun ρ => (mk ρ).bind fun ds ρ1 => match ds with
  | [e, d] => .ok (.exc c [(f2, e), (f1, d)]) ρ1
  | _ => .bad
theorem ev_mkK2 {c f1 f2 : Str} {C : Addr} {tk : TA} {mk : MA} (hc : G.cls c = some C) (T : OexT G.K C) (hno : PySem.W.findIn G.K (.ref C) f1 = some none) (hno2 : PySem.W.findIn G.K (.ref C) f2 = some none) (he : EvA G W tk mk) :
    EvE G W (fun σ H Q => tMkK C (SpIn2 G.K f1 f2) 2 [1, 0] tk σ H fun cls d H' => ∀ a, H' a = none → Q (.ref a) (upd H' a (XA cls d a))) (mMkK2 c f1 f2 mk) := fun B F H σ ρ Q g S h =>
  he B F H σ ρ _ g S (h.fst fun vs ds ρ1 F1 H1 e1 S1 r1 h1 => by
    split at h1
    · rename_i e d
      cases r1 with
      | cons r t =>
        cases t with
        | cons r' t =>
          cases t
          exact ⟨rfl, fun a ha => mk2_end g hc T hno hno2 S1 r' r (fun v F' H' x S' rv => h1 v F' H' x S' rv) a ha⟩
    · exact h1.elim)
end
end Eo
namespace Eo
open PySem L2 PySem.Spec PyProof.Rows
/-! ## an own error class, as the top leaves it -/
structure ErrAt (K : PySem.W.Frag) (mg : Str → Option Value) (cn qual : Str) (st : Stmt) : Prop where
  ex : ∃ C fI fd, clsOf K cn = some C ∧ mg cn = some (.ref C) ∧ OexT K C ∧ PySem.W.findIn K (.ref C) "__init__" = some (some (.ref fI)) ∧ PySem.W.typeIn K (.ref fI) = some (.type "function") ∧ Fun K "__init__" qual st fI fd
/-- the parameters by name, behind self -/
noncomputable def ArgsK (st : Stmt) (qual : Str) (ps ks : List Str) (is : List Nat) : Prop := ∀ (kV doc pm : Value) (an : Option Addr) (cdv ct : Value) (a : Addr) (ws : List Value), ws.length = ks.length →
  bindArgs (PySem.W.fnOf "__init__" qual (defArgs st) (defBody st) (defScope st) .none kV doc pm an cdv ct) ⟨[.ref a], ks.zip ws⟩ = pure (ps.zip (.ref a :: permL is ws))
section
variable {P : Program} {w : World} {K : PySem.W.Frag} {mg : Str → Option Value} {base : Heap} {cn qual s1 p1 fl : Str} {st : Stmt} {k : Nat} {q1 q2 q3 q4 : Pos}
theorem errO_of (c : ErrAt K mg cn qual st) (nf : FldAt K cn fl) (S : FnScope [s1, p1] [s1, p1] (defScope st)) (b : ArgsM st "__init__" qual [s1, p1]) (hs : Vis (defScope st) s1) (hp : Vis (defScope st) p1)
    (hb : defBody st = [.Assign [.Attribute (.Name s1 q1) fl q2] (.Name p1 q3) q4])
    (hsw : ∀ E : PySem.Env, swapsWith (.Name p1 q3) (some (.Attribute (.Name s1 q1) fl q2)) q4.line E = pure false) (d1 : (s1 == ("__debug__" : Str)) = false := by decide) (d2 : (s1 == ("__classdict__" : Str)) = false := by decide) (d3 : (p1 == ("__debug__" : Str)) = false := by decide) (d4 : (p1 == ("__classdict__" : Str)) = false := by decide) :
    ErrO P w K mg base (k + 1) cn fl := by
  obtain ⟨C, fI, fd, h1, h2, h3, h4, h5, F⟩ := c.ex
  refine ⟨C, fI, fd, [s1, p1], h1, h2, h3, nf C h1, h4, h5, defIn1 F S hs hp hb hsw d1 d2 d3 d4, ?_⟩
  obtain ⟨oc, od, kV, doc, pm, an, cdv, ct, osl, rfl, lk, cd⟩ := F.ex
  exact Binds.all fun us hl => b kV doc pm an cdv ct us hl
theorem errK_of (c : ErrAt K mg cn qual st) (nf : FldAt K cn fl) (S : FnScope [s1, p1] [s1, p1] (defScope st)) (b : ArgsK st qual [s1, p1] [fl] [0]) (hs : Vis (defScope st) s1) (hp : Vis (defScope st) p1)
    (hb : defBody st = [.Assign [.Attribute (.Name s1 q1) fl q2] (.Name p1 q3) q4])
    (hsw : ∀ E : PySem.Env, swapsWith (.Name p1 q3) (some (.Attribute (.Name s1 q1) fl q2)) q4.line E = pure false) (d1 : (s1 == ("__debug__" : Str)) = false := by decide) (d2 : (s1 == ("__classdict__" : Str)) = false := by decide) (d3 : (p1 == ("__debug__" : Str)) = false := by decide) (d4 : (p1 == ("__classdict__" : Str)) = false := by decide) :
    ErrK P w K mg base (k + 1) cn fl := by
  obtain ⟨C, fI, fd, h1, h2, h3, h4, h5, F⟩ := c.ex
  refine ⟨C, fI, fd, [s1, p1], h1, h2, h3, nf C h1, h4, h5, defIn1 F S hs hp hb hsw d1 d2 d3 d4, ?_⟩
  obtain ⟨oc, od, kV, doc, pm, an, cdv, ct, osl, rfl, lk, cd⟩ := F.ex
  exact fun a ws hl => b kV doc pm an cdv ct a ws hl
end
/-! ## what isinstance tells of error classes -/
/-- T's class value is cv; tab: of which classes of errors -/
noncomputable def IsX (K : PySem.W.Frag) (cv : Value) (tab : Str → Option Bool) : Prop := ∀ c C b, clsOf K c = some C → tab c = some b → ExcC K C ∧ PySem.W.kitOne K (.ref C) cv = some b
noncomputable def tabL (l : List (Str × Bool)) (c : Str) : Option Bool := l.lookup c
end Eo
namespace Eo
open PySem L2 PySem.Spec PyProof.Rows
/-! ## the facts of an error class, by computation -/
noncomputable def refsTB (tl : List Value) : List Value → Bool
  | [] => [] == tl
  | .ref C :: l => (.ref C :: l) == tl || refsTB tl l
  | v :: l => (v :: l) == tl
theorem refsTB_ok {tl : List Value} : ∀ {l : List Value}, refsTB tl l = true → PySem.HandSPX.RefsT tl l
  | [], h => by
    have e : ([] : List Value) = tl := beq_iff_eq.mp h
    subst e; exact .nil
  | v :: l, h => by
    by_cases e : v :: l = tl
    · subst e; exact .nil
    · have ne : ((v :: l) == tl) = false := by simpa using e
      cases v with
      | ref C =>
        unfold refsTB at h
        rw [ne, Bool.false_or] at h
        exact .cons (refsTB_ok h)
      | _ => exact absurd (show ((_ :: l) == tl) = true from h) (by rw [ne]; exact Bool.false_ne_true)
/-- the class at C: own classes, then tl; made by nid -/
noncomputable def exTB (K : PySem.W.Frag) (C : Addr) (tl : List Value) (nid : String) : Bool := match K.lookup C with
  | some ⟨.type "type", _, .cls cd, sl⟩ => (match cd.mro, sl.toList with
    | .ref C' :: bm, [_, _, _, _, some (.builtin n), _] => C' == C && (n == nid && (!cd.hasDel && (cd.hasDict && refsTB tl bm)))
    | _, _ => false)
  | _ => false
theorem exTB_ok {K : PySem.W.Frag} {C : Addr} {tl : List Value} {nid : String} (q : exTB K C tl nid = true) :
    ∃ nm qn N bs bm sn sub ab col dd k0 k1 k2 k3 k5, K.lookup C = some (excClassObj nm qn C N bs bm true sn sub ab col dd k0 k1 k2 k3 k5 nid) ∧ PySem.HandSPX.RefsT tl bm := by
  unfold exTB at q
  split at q
  · rename_i dd cd sl ho
    split at q
    · rename_i C' bm k0 k1 k2 k3 n k5 hm hs
      simp only [Bool.and_eq_true, beq_iff_eq, Bool.not_eq_true'] at q
      obtain ⟨rfl, rfl, hdel, hdi, ht⟩ := q
      obtain ⟨nm, bs, mro, ns, qn, hd, sn, sub, ab, col, del⟩ := cd
      dsimp only at hm hdel hdi
      subst hm hdel hdi
      have hsl : sl = #[k0, k1, k2, k3, some (.builtin n), k5] := by
        obtain ⟨l⟩ := sl
        simp only at hs
        rw [hs]
      subst hsl
      exact ⟨nm, qn, ns, bs, bm, sn, sub, ab, col, dd, k0, k1, k2, k3, k5, ho, refsTB_ok ht⟩
    · cases q
  · cases q
/-- a built-in base: its mro, its __new__ -/
structure BaseX (tl : List Value) (nid : String) : Prop where
  ob : tl.contains (.type "object") = true
  ps : ∀ self : Value, refuseLoop self "__setattr__" tl = pure ()
  ex : ∃ iid B tl', ExcBaseFacts B nid iid tl' ∧ tl.contains (.type B) = true ∧ tl.contains (.type "AttributeError") = false ∧ tl.contains (.type "NameError") = false
theorem oexT_mk {K : PySem.W.Frag} {C : Addr} {tl : List Value} {nid : String} (b : BaseX tl nid) (q : exTB K C tl nid = true) (sa : PySem.W.findIn K (.ref C) "__setattr__" = some (some (.builtin "object.__setattr__"))) (exC : PySem.W.subIn K (.ref C) (.type "BaseException") = some true) (tyC : PySem.W.typeIn K (.ref C) = some (.type "type")) (kC : PySem.W.keepIn K (.ref C) = true) : OexT K C := by
  obtain ⟨nm, qn, N, bs, bm, sn, sub, ab, col, dd, k0, k1, k2, k3, k5, h, r⟩ := exTB_ok q
  obtain ⟨iid, e⟩ := b.ex
  exact ⟨⟨nm, qn, N, bs, bm, sn, sub, ab, col, dd, k0, k1, k2, k3, k5, tl, nid, iid, h, r, b.ob, b.ps, e⟩, sa, exC, tyC, kC⟩
theorem errAt_mk {K : PySem.W.Frag} {h : Heap} {mg : Str → Option Value} {cn qual : Str} {st : Stmt} {C fI : Addr} {oc kV doc pm cdv ct : Value} {od an : Option Addr} {osl : Array (Option Value)} (X : K.In h) (G : h.Ns mainGlobals mg) (a : PySem.W.nsIn K mainGlobals cn = some (some (.ref C))) (T : OexT K C) (b : PySem.W.findIn K (.ref C) "__init__" = some (some (.ref fI))) (t : PySem.W.typeIn K (.ref fI) = some (.type "function"))
    (l : K.lookup fI = some ⟨oc, od, .func (PySem.W.fnOf "__init__" qual (defArgs st) (defBody st) (defScope st) .none kV doc pm an cdv ct), osl⟩) (c : PySem.W.codeIn K cdv qual = true) (k : PySem.W.keepIn K (.ref fI) = true) : ErrAt K mg cn qual st := ⟨C, fI, _, clsOf_mk a, PySem.W.mg_of X G a, T, b, t, fun_mk l c k⟩
theorem baseX_VE : BaseX [.type "ValueError", .type "Exception", .type "BaseException", .type "object"] "ValueError.__new__" := ⟨by decide +kernel, fun self => by kernel_rfl, _, _, _, PySem.F.excBase_ValueError, by decide +kernel, by decide +kernel, by decide +kernel⟩
theorem baseX_KE : BaseX [.type "KeyError", .type "LookupError", .type "Exception", .type "BaseException", .type "object"] "LookupError.__new__" := ⟨by decide +kernel, fun self => by kernel_rfl, _, _, _, PySem.F.excBase_LookupError, by decide +kernel, by decide +kernel, by decide +kernel⟩
theorem baseX_IE : BaseX [.type "IndexError", .type "LookupError", .type "Exception", .type "BaseException", .type "object"] "IndexError.__new__" := ⟨by decide +kernel, fun self => by kernel_rfl, _, _, _, PySem.F.excBase_IndexError, by decide +kernel, by decide +kernel, by decide +kernel⟩
theorem baseX_LE : BaseX [.type "LookupError", .type "Exception", .type "BaseException", .type "object"] "LookupError.__new__" := ⟨by decide +kernel, fun self => by kernel_rfl, _, _, _, PySem.F.excBase_LookupError, by decide +kernel, by decide +kernel, by decide +kernel⟩
theorem baseX_RE : BaseX [.type "RuntimeError", .type "Exception", .type "BaseException", .type "object"] "RuntimeError.__new__" := ⟨by decide +kernel, fun self => by kernel_rfl, _, _, _, PySem.F.excBase_RuntimeError, by decide +kernel, by decide +kernel, by decide +kernel⟩
end Eo
namespace Eo
open PySem L2 PySem.Spec PyProof.Rows
theorem baseX_OE : BaseX [.type "OverflowError", .type "ArithmeticError", .type "Exception", .type "BaseException", .type "object"] "OverflowError.__new__" := ⟨by decide +kernel, fun self => by kernel_rfl, _, _, _, PySem.F.excBase_OverflowError, by decide +kernel, by decide +kernel, by decide +kernel⟩
/-- everything that isinstance and the fields want of an error class -/
theorem excC_mk {K : PySem.W.Frag} {D : Addr} (a : PySem.W.findIn K (.ref D) "__getattribute__" = some (some (.builtin "BaseException.__getattribute__"))) (b : PySem.W.findIn K (.ref D) "__getattr__" = some none) (c : PySem.W.subIn K (.ref D) (.type "BaseException") = some true) (d : PySem.W.hasDictIn K D = true)
    (e : PySem.W.findIn K (.ref D) "__class__" = some (some (.builtin "object.__class__"))) (f : PySem.W.specialIn K (.builtin "object.__class__") "__get__" = some (some (.builtin "getset_descriptor.__get__"))) (g : PySem.W.takesIn K (.builtin "object.__class__") = some true) (h : PySem.W.mroIn K D (.type "object") = some true) : ExcC K D ∧ XfC K D :=
  ⟨⟨a, b, c, d, e, f, g, h⟩, ⟨a, b, c, d⟩⟩
/-- InvalidText's like: two fields -/
structure Err2 (P : Program) (w : World) (K : PySem.W.Frag) (mg : Str → Option Value) (base : Heap) (k : Nat) (cn f1 f2 : Str) : Prop where
  ex : ∃ C fI fd ps, clsOf K cn = some C ∧ mg cn = some (.ref C) ∧ OexT K C ∧ PySem.W.findIn K (.ref C) f1 = some none ∧ PySem.W.findIn K (.ref C) f2 = some none ∧ PySem.W.findIn K (.ref C) "__init__" = some (some (.ref fI)) ∧ PySem.W.typeIn K (.ref fI) = some (.type "function") ∧
    FnOk P w K mg base CX0 k fI fd ps (SpIn2 K f1 f2) ∧ Binds K fd ps [] ∧ ∀ (a : Addr) (ws : List Value), ws.length = [f2, f1].length → bindArgs fd ⟨[.ref a], [f2, f1].zip ws⟩ = pure (ps.zip (.ref a :: permL [1, 0] ws))
section
variable {P : Program} {w : World} {K : PySem.W.Frag} {mg : Str → Option Value} {base : Heap} {cn qual s1 p1 p2 f1 f2 : Str} {st : Stmt} {k : Nat} {q1 q2 q3 q4 q5 q6 q7 q8 : Pos}
theorem err2_of (c : ErrAt K mg cn qual st) (n1 : FldAt K cn f1) (n2 : FldAt K cn f2) (S : FnScope [s1, p1, p2] [s1, p1, p2] (defScope st)) (b : ArgsM st "__init__" qual [s1, p1, p2]) (bk : ArgsK st qual [s1, p1, p2] [f2, f1] [1, 0]) (hs : Vis (defScope st) s1) (hp1 : Vis (defScope st) p1) (hp2 : Vis (defScope st) p2)
    (hb : defBody st = [.Assign [.Attribute (.Name s1 q1) f1 q2] (.Name p1 q3) q4, .Assign [.Attribute (.Name s1 q5) f2 q6] (.Name p2 q7) q8])
    (hsw : ∀ E : PySem.Env, swapsWith (.Name p1 q3) (some (.Attribute (.Name s1 q1) f1 q2)) q4.line E = pure false) (hsw2 : ∀ E : PySem.Env, swapsWith (.Name p2 q7) (some (.Attribute (.Name s1 q5) f2 q6)) q8.line E = pure false)
    (d1 : (s1 == ("__debug__" : Str)) = false := by decide) (d2 : (s1 == ("__classdict__" : Str)) = false := by decide) (d3 : (p1 == ("__debug__" : Str)) = false := by decide) (d4 : (p1 == ("__classdict__" : Str)) = false := by decide) (d5 : (p2 == ("__debug__" : Str)) = false := by decide) (d6 : (p2 == ("__classdict__" : Str)) = false := by decide) :
    Err2 P w K mg base (k + 1) cn f1 f2 := by
  obtain ⟨C, fI, fd, h1, h2, h3, h4, h5, F⟩ := c.ex
  refine ⟨C, fI, fd, [s1, p1, p2], h1, h2, h3, n1 C h1, n2 C h1, h4, h5, defIn2 F S hs hp1 hp2 hb hsw hsw2 d1 d2 d3 d4 d5 d6, ?_, ?_⟩
  · obtain ⟨oc, od, kV, doc, pm, an, cdv, ct, osl, rfl, lk, cd⟩ := F.ex
    exact Binds.all fun us hl => b kV doc pm an cdv ct us hl
  · obtain ⟨oc, od, kV, doc, pm, an, cdv, ct, osl, rfl, lk, cd⟩ := F.ex
    exact fun a ws hl => bk kV doc pm an cdv ct a ws hl
end
section
variable {X : Cx}
theorem pe_mkV2 {k j : Nat} {cn f1 f2 : Str} {C : Addr} {e : Expr} {es : List Expr} {ta : TA} {p pos : Pos} (c : Err2 X.prog X.w X.K X.mg X.base j cn f1 f2) (hC : clsOf X.K cn = some C) (hr : Room (k + 1) X.A) (hj : j ≤ k) (hg : Gl X cn) (ha : PA X (e :: es) ta)
    (hdb : (cn == ("__debug__" : Str)) = false := by decide) (hst : starEach (e :: es) X.env = (false, eval e X.env) :: starEach es X.env := by rfl) (hpl : (backTo pos (starEach es X.env)).any (·.1) = false := by rfl) :
    PE X (.Call (.Name cn p) (e :: es) [] pos) (fun σ H Q => tMkOT C (SpIn2 X.K f1 f2) [] ta σ H fun cls d H' => ∀ a, H' a = none → Q (.ref a) (upd H' a (XA cls d a))) := by
  obtain ⟨C', fI, fd, ps, h1, h2, h3, h4, h4', h5, h6, h7, h8, h9⟩ := c.ex
  rw [hC] at h1
  cases h1
  exact pe_mkV (pmk_oexT h3 h5 h6 h7 (hr.mono (by omega)) h8 .nil pass0 hg h2 ha hdb hst hpl)
theorem pe_mkVK2 {k j : Nat} {cn f1 f2 : Str} {C : Addr} {tk : TA} {kws : List Keyword} {p pos : Pos} (c : Err2 X.prog X.w X.K X.mg X.base j cn f1 f2) (hC : clsOf X.K cn = some C) (hr : Room (k + 1) X.A) (hj : j ≤ k) (hg : Gl X cn) (hkw : PK X kws tk)
    (hall : (backToKw pos (keywordEach kws X.env)).all (·.1.isSome) = true := by rfl) (hks : (backToKw pos (keywordEach kws X.env)).filterMap (·.1) = [f2, f1] := by rfl) (hdb : (cn == ("__debug__" : Str)) = false := by decide)
    (hpl : ((backTo pos (starEach [] X.env)).any (·.1) || (backToKw pos (keywordEach kws X.env)).any (·.1.isNone)) = false := by rfl) :
    PE X (.Call (.Name cn p) [] kws pos) (fun σ H Q => tMkK C (SpIn2 X.K f1 f2) 2 [1, 0] tk σ H fun cls d H' => ∀ a, H' a = none → Q (.ref a) (upd H' a (XA cls d a))) := by
  obtain ⟨C', fI, fd, ps, h1, h2, h3, h4, h4', h5, h6, h7, h8, h9⟩ := c.ex
  rw [hC] at h1
  cases h1
  exact pe_mkV (pmk_oexK (ks := [f2, f1]) h3 h5 h6 h7 (hr.mono (by omega)) h9 pass0 hg h2 hkw hall hks hdb hpl)
end
end Eo
namespace Eo
open PySem L2 PySem.Spec PyProof.Rows
/-! ## own lists made by + -/
section
variable {G : Cg} {W : Wx}
noncomputable def mWAddL (ma mb : ME) : MW := fun ρ => (ma ρ).bind fun a ρ1 => (mb ρ1).bind fun b ρ2 => match a, b with
  | .lst i, .lst j => if i.length + j.length ≤ sizeLine then .ok (.lst (leafs (i ++ j))) ρ2 else .bad
  | _, _ => .bad
theorem ew_addL {ta tb : TE} {ma mb : ME} (ha : EvE G W ta ma) (hb : EvE G W tb mb) : EvW G W (tOp (rAddAny G.K) ta tb) (mWAddL ma mb) := fun B F H σ ρ Q g S h =>
  ha B F H σ ρ _ g S (FitW.fst1 h fun v a ρ1 F1 H1 e1 S1 r1 h1 => hb B F1 H1 σ ρ1 _ g S1 (FitW.fst1 h1 fun u b ρ2 F2 H2 e2 S2 r2 h2 => by
    split at h2
    · split at h2
      · rename_i hl
        obtain ⟨a, vs, rfl, ha, ra⟩ := RpF.lst_inv (.inl (Rp.mono e2 r1)) S2.sub
        obtain ⟨b, ws, rfl, hb, rb⟩ := RpF.lst_inv (.inl r2) S2.sub
        refine .inr (.inr (.inl ⟨a, b, vs, ws, rfl, rfl, ha, hb, by rw [ra.length, rb.length]; exact hl, fun p hp => ?_⟩))
        refine h2 (.ref p) F2 _ [p] (upd B.X p (.lst (vs ++ ws))) (Ex.refl F2) (Ex.new (S2.xfree hp)) S2.lk (S2.also hp) (.lst upd_same (g ▸ (ra.append rb).own)) (by simp) fun a m => ?_
        cases List.mem_singleton.mp m
        exact ⟨S2.xfree hp, S2.fresh hp⟩
      · exact h2.elim
    · exact h2.elim))
end
/-! ## errors as values, by their names -/
section
variable {P : Program} {w : World} {K : PySem.W.Frag} {mg : Str → Option Value} {base : Heap} {cn qual : Str} {st : Stmt}
theorem ErrAt.cl (c : ErrAt K mg cn qual st) : ∃ C, clsOf K cn = some C ∧ mg cn = some (.ref C) := by
  obtain ⟨C, fI, fd, h1, h2, _⟩ := c.ex
  exact ⟨C, h1, h2⟩
end
section
variable {X : Cx} {P : Program} {w : World} {K : PySem.W.Frag} {mg : Str → Option Value} {base : Heap} {j k : Nat} {C : Addr} {cn fl f1 f2 : Str} {e : Expr} {es : List Expr} {kws : List Keyword} {te : TE} {ta tk : TA} {p pos : Pos}
theorem mkV1K (c : ErrO P w K mg base j cn fl) (hC : clsOf K cn = some C) (h : Same X P w K mg base) (hr : Room k X.A) (he : PE X e te) (hj : j + 1 ≤ k := by first | decide | omega) (hg : Gl X cn := by rfl)
    (hdb : (cn == ("__debug__" : Str)) = false := by decide) (hst : starEach [e] X.env = (false, eval e X.env) :: starEach [] X.env := by rfl) :
    PE X (.Call (.Name cn p) [e] [] pos) (fun σ H Q => tMkOT C (SpIn1 K fl) [] (tCons te tNil) σ H fun cls d H' => ∀ a, H' a = none → Q (.ref a) (upd H' a (XA cls d a))) := by
  obtain ⟨rfl, rfl, rfl, rfl, rfl⟩ := h
  exact pe_mkV1 c hC (hr.mono hj) (Nat.le_refl _) hg he hdb hst
theorem mkVKK (c : ErrK P w K mg base j cn fl) (hC : clsOf K cn = some C) (h : Same X P w K mg base) (hr : Room k X.A) (hkw : PK X kws tk) (hj : j + 1 ≤ k := by first | decide | omega) (hg : Gl X cn := by rfl)
    (hall : (backToKw pos (keywordEach kws X.env)).all (·.1.isSome) = true := by rfl) (hks : (backToKw pos (keywordEach kws X.env)).filterMap (·.1) = [fl] := by rfl) (hdb : (cn == ("__debug__" : Str)) = false := by decide)
    (hpl : ((backTo pos (starEach [] X.env)).any (·.1) || (backToKw pos (keywordEach kws X.env)).any (·.1.isNone)) = false := by rfl) :
    PE X (.Call (.Name cn p) [] kws pos) (fun σ H Q => tMkK C (SpIn1 K fl) 1 [0] tk σ H fun cls d H' => ∀ a, H' a = none → Q (.ref a) (upd H' a (XA cls d a))) := by
  obtain ⟨rfl, rfl, rfl, rfl, rfl⟩ := h
  exact pe_mkVK c hC (hr.mono hj) (Nat.le_refl _) hg hkw hall hks hdb hpl
theorem mkV2K (c : Err2 P w K mg base j cn f1 f2) (hC : clsOf K cn = some C) (h : Same X P w K mg base) (hr : Room k X.A) (ha : PA X (e :: es) ta) (hj : j + 1 ≤ k := by first | decide | omega) (hg : Gl X cn := by rfl)
    (hdb : (cn == ("__debug__" : Str)) = false := by decide) (hst : starEach (e :: es) X.env = (false, eval e X.env) :: starEach es X.env := by rfl) (hpl : (backTo pos (starEach es X.env)).any (·.1) = false := by rfl) :
    PE X (.Call (.Name cn p) (e :: es) [] pos) (fun σ H Q => tMkOT C (SpIn2 K f1 f2) [] ta σ H fun cls d H' => ∀ a, H' a = none → Q (.ref a) (upd H' a (XA cls d a))) := by
  obtain ⟨rfl, rfl, rfl, rfl, rfl⟩ := h
  exact pe_mkV2 c hC (hr.mono hj) (Nat.le_refl _) hg ha hdb hst hpl
theorem mkVK2K (c : Err2 P w K mg base j cn f1 f2) (hC : clsOf K cn = some C) (h : Same X P w K mg base) (hr : Room k X.A) (hkw : PK X kws tk) (hj : j + 1 ≤ k := by first | decide | omega) (hg : Gl X cn := by rfl)
    (hall : (backToKw pos (keywordEach kws X.env)).all (·.1.isSome) = true := by rfl) (hks : (backToKw pos (keywordEach kws X.env)).filterMap (·.1) = [f2, f1] := by rfl) (hdb : (cn == ("__debug__" : Str)) = false := by decide)
    (hpl : ((backTo pos (starEach [] X.env)).any (·.1) || (backToKw pos (keywordEach kws X.env)).any (·.1.isNone)) = false := by rfl) :
    PE X (.Call (.Name cn p) [] kws pos) (fun σ H Q => tMkK C (SpIn2 K f1 f2) 2 [1, 0] tk σ H fun cls d H' => ∀ a, H' a = none → Q (.ref a) (upd H' a (XA cls d a))) := by
  obtain ⟨rfl, rfl, rfl, rfl, rfl⟩ := h
  exact pe_mkVK2 c hC (hr.mono hj) (Nat.le_refl _) hg hkw hall hks hdb hpl
end
section
variable {G : Cg} {W : Wx} {P : Program} {w : World} {mg : Str → Option Value} {base : Heap} {j : Nat} {C : Addr} {cn fl f1 f2 : Str} {te : TE} {me : ME} {ta tk : TA} {ma mk : MA}
theorem ev_mk1K (c : ErrO P w G.K mg base j cn fl) (hC : clsOf G.K cn = some C) (hc : G.cls cn = some C) (he : EvE G W te me) : EvE G W (fun σ H Q => tMkOT C (SpIn1 G.K fl) [] (tCons te tNil) σ H fun cls d H' => ∀ a, H' a = none → Q (.ref a) (upd H' a (XA cls d a))) (mMk1 cn fl me) := by
  obtain ⟨C', fI, fd, ps, h1, h2, h3, h4, h5, h6, h7, h8⟩ := c.ex
  rw [hC] at h1
  cases h1
  exact ev_mk1 hc h3 h4 he
theorem ev_mkK1K (c : ErrK P w G.K mg base j cn fl) (hC : clsOf G.K cn = some C) (hc : G.cls cn = some C) (he : EvA G W tk mk) : EvE G W (fun σ H Q => tMkK C (SpIn1 G.K fl) 1 [0] tk σ H fun cls d H' => ∀ a, H' a = none → Q (.ref a) (upd H' a (XA cls d a))) (mMkK1 cn fl mk) := by
  obtain ⟨C', fI, fd, ps, h1, h2, h3, h4, h5, h6, h7, h8⟩ := c.ex
  rw [hC] at h1
  cases h1
  exact ev_mkK1 hc h3 h4 he
theorem ev_mk2K (c : Err2 P w G.K mg base j cn f1 f2) (hC : clsOf G.K cn = some C) (hc : G.cls cn = some C) (he : EvA G W ta ma) : EvE G W (fun σ H Q => tMkOT C (SpIn2 G.K f1 f2) [] ta σ H fun cls d H' => ∀ a, H' a = none → Q (.ref a) (upd H' a (XA cls d a))) (mMk2 cn f1 f2 ma) := by
  obtain ⟨C', fI, fd, ps, h1, h2, h3, h4, h4', h5, h6, h7, h8, h9⟩ := c.ex
  rw [hC] at h1
  cases h1
  exact ev_mk2 hc h3 h4 h4' he
theorem ev_mkK2K (c : Err2 P w G.K mg base j cn f1 f2) (hC : clsOf G.K cn = some C) (hc : G.cls cn = some C) (he : EvA G W tk mk) : EvE G W (fun σ H Q => tMkK C (SpIn2 G.K f1 f2) 2 [1, 0] tk σ H fun cls d H' => ∀ a, H' a = none → Q (.ref a) (upd H' a (XA cls d a))) (mMkK2 cn f1 f2 mk) := by
  obtain ⟨C', fI, fd, ps, h1, h2, h3, h4, h4', h5, h6, h7, h8, h9⟩ := c.ex
  rw [hC] at h1
  cases h1
  exact ev_mkK2 hc h3 h4 h4' he
end
/-! ## facts of many classes at once, by computation -/
noncomputable def clsB (K : PySem.W.Frag) (c : Str) (p : Addr → Bool) : Bool := match PySem.W.nsIn K mainGlobals c with
  | some (some (.ref C)) => p C
  | _ => false
theorem clsB_ok {K : PySem.W.Frag} {c : Str} {p : Addr → Bool} {C : Addr} (h : clsB K c p = true) (hc : clsOf K c = some C) : p C = true := by
  unfold clsB at h
  unfold clsOf at hc
  split at h
  · rename_i C' e
    rw [e] at hc
    cases hc
    exact h
  · cases h
noncomputable def excCB (K : PySem.W.Frag) (D : Addr) : Bool :=
  PySem.W.findIn K (.ref D) "__getattribute__" == some (some (.builtin "BaseException.__getattribute__")) && (PySem.W.findIn K (.ref D) "__getattr__" == some none && (PySem.W.subIn K (.ref D) (.type "BaseException") == some true && (PySem.W.hasDictIn K D &&
    (PySem.W.findIn K (.ref D) "__class__" == some (some (.builtin "object.__class__")) && (PySem.W.specialIn K (.builtin "object.__class__") "__get__" == some (some (.builtin "getset_descriptor.__get__")) && (PySem.W.takesIn K (.builtin "object.__class__") == some true && PySem.W.mroIn K D (.type "object") == some true))))))
theorem excCB_ok {K : PySem.W.Frag} {D : Addr} (h : excCB K D = true) : ExcC K D ∧ XfC K D := by
  unfold excCB at h
  simp only [Bool.and_eq_true, beq_iff_eq] at h
  obtain ⟨a, b, c, d, e, f, g, i⟩ := h
  exact excC_mk a b c d e f g i
structure ExcAll (K : PySem.W.Frag) (l : List Str) : Prop where
  h : ∀ c ∈ l, ∀ C, clsOf K c = some C → ExcC K C ∧ XfC K C
theorem excAll_mk {K : PySem.W.Frag} {l : List Str} (h : (l.all fun c => clsB K c (excCB K)) = true) : ExcAll K l := ⟨fun c m C hc => excCB_ok (clsB_ok (List.all_eq_true.mp h c m) hc)⟩
noncomputable def isXB (K : PySem.W.Frag) (cv : Value) (l : List (Str × Bool)) : Bool := l.all fun x => clsB K x.1 fun C => PySem.W.kitOne K (.ref C) cv == some x.2
theorem lookup_mem {c : Str} {b : Bool} : ∀ {l : List (Str × Bool)}, l.lookup c = some b → (c, b) ∈ l
  | [], h => by cases h
  | (c', b') :: l, h => by
    rw [List.lookup_cons] at h
    by_cases e : c = c'
    · subst e
      simp at h
      subst h
      exact List.mem_cons_self ..
    · rw [show (c == c') = false from by simpa using e] at h
      exact List.mem_cons_of_mem _ (lookup_mem h)
theorem isX_mk {K : PySem.W.Frag} {cv : Value} {l : List (Str × Bool)} {ns : List Str} (e : ExcAll K ns) (h : isXB K cv l = true) (hs : (l.all fun x => ns.contains x.1) = true) : IsX K cv (tabL l) := fun c C b hc ht => by
  have m := lookup_mem ht
  have h1 := clsB_ok (List.all_eq_true.mp h _ m) hc
  have h2 := List.all_eq_true.mp hs _ m
  exact ⟨(e.h c (List.contains_iff_mem.mp h2) C hc).1, beq_iff_eq.mp h1⟩
/-- of an own class -/
structure IsXo (K : PySem.W.Frag) (cn : Str) (tab : Str → Option Bool) : Prop where
  h : ∀ D, clsOf K cn = some D → IsX K (.ref D) tab
noncomputable def isXoB (K : PySem.W.Frag) (cn : Str) (l : List (Str × Bool)) : Bool := clsB K cn fun D => isXB K (.ref D) l
theorem isXo_mk {K : PySem.W.Frag} {cn : Str} {l : List (Str × Bool)} {ns : List Str} (e : ExcAll K ns) (h : isXoB K cn l = true) (hs : (l.all fun x => ns.contains x.1) = true) : IsXo K cn (tabL l) := ⟨fun D hD => isX_mk e (clsB_ok h hD) hs⟩
structure XfAt (K : PySem.W.Frag) (f : Str) (l : List Str) : Prop where
  h : ∀ c C, clsOf K c = some C → l.contains c = true → XfC K C ∧ PySem.W.findIn K (.ref C) f = some none
theorem xfAt_mk {K : PySem.W.Frag} {f : Str} {l ns : List Str} (e : ExcAll K ns) (h : (l.all fun c => clsB K c fun C => PySem.W.findIn K (.ref C) f == some none) = true) (hs : (l.all fun c => ns.contains c) = true) : XfAt K f l := ⟨fun c C hc hm => by
  have m := List.contains_iff_mem.mp hm
  exact ⟨(e.h c (List.contains_iff_mem.mp (List.all_eq_true.mp hs _ m)) C hc).2, beq_iff_eq.mp (clsB_ok (List.all_eq_true.mp h _ m) hc)⟩⟩
section
variable {G : Cg} {W : Wx} {tab : Str → Option Bool} {tx : TE} {mx : ME} {K : PySem.W.Frag} {mg : Str → Option Value}
theorem ev_isXo {cn : Str} {D : Addr} (h : IsXo G.K cn tab) (hcl : G.cls = clsOf G.K) (hc : clsOf G.K cn = some D) (hx : EvE G W tx mx) : EvE G W (tCB (rIsX G.K) (tCons tx (tCons (tC (.ref D)) tNil))) (mUn (dIsX tab) mx) :=
  ev_isX (cv := .ref D) (fun u r => by cases r; rfl) (fun c C b h1 h2 => h.h D hc c C b (by rw [← hcl]; exact h1) h2) hx
theorem ev_isXb {T : String} (h : IsX G.K (.type T) tab) (hcl : G.cls = clsOf G.K) (hx : EvE G W tx mx) : EvE G W (tCB (rIsX G.K) (tCons tx (tCons (tC (.ty T)) tNil))) (mUn (dIsX tab) mx) :=
  ev_isX (cv := .type T) (fun u r => by cases r; rfl) (fun c C b h1 h2 => h c C b (by rw [← hcl]; exact h1) h2) hx
theorem ev_xfA {f : Str} {l : List Str} (h : XfAt G.K f l) (hcl : G.cls = clsOf G.K) (hx : EvE G W tx mx) : EvE G W (tXfT G.K f tx) (mUn (dXf (fun c => l.contains c) f) mx) :=
  ev_xf (fun c C h1 h2 => h.h c C (by rw [← hcl]; exact h1) h2) hx
end
section
variable {X : Cx} {K : PySem.W.Frag}
theorem isXK (h : X.K = K) : CallR X (.builtin "isinstance") (rIsX K) := h ▸ cr_isX
theorem xfK (h : X.K = K) {e : Expr} {te : TE} {pos : Pos} {n : Str} (he : PE X e te) (hb : attributeBase e n X.env (eval e X.env) = eval e X.env := by rfl) : PE X (.Attribute e n pos) (tXfT K n te) := h ▸ pe_xfT he hb
end
end Eo
namespace W08
open PySem L2 PySem.Spec PyProof.Rows StX Eo
noncomputable def top (i : Nat) : Stmt := PySem.Challenge.pw_jamtally_k08_errors_of_all_classes.main.body.getD i (.Pass ⟨0, 0, 0, 0⟩)
noncomputable def inCls (st : Stmt) (j : Nat) : Stmt := match st with
  | .ClassDef _ _ _ body _ _ _ _ _ _ _ => body.getD j (.Pass ⟨0, 0, 0, 0⟩)
  | _ => .Pass ⟨0, 0, 0, 0⟩
noncomputable abbrev s_law_pen : Stmt := top 29
noncomputable abbrev s_law_draw : Stmt := top 30
noncomputable abbrev s_law_odd : Stmt := top 31
noncomputable abbrev s_law_errors : Stmt := top 33
noncomputable abbrev s_law_named : Stmt := top 34
noncomputable abbrev s_law_classes : Stmt := top 36
noncomputable abbrev s_law_bases : Stmt := top 37
noncomputable abbrev s_law_fields : Stmt := top 35
noncomputable abbrev s_law : Stmt := top 38
noncomputable def plT (c f : Str) : Bool := false
noncomputable abbrev s_CannotGo : Stmt := inCls (top 26) 0
noncomputable abbrev s_InvalidDuo : Stmt := inCls (top 3) 0
noncomputable abbrev s_InvalidDurations : Stmt := inCls (top 10) 0
noncomputable abbrev s_InvalidEdit : Stmt := inCls (top 12) 0
noncomputable abbrev s_InvalidGuide : Stmt := inCls (top 7) 0
noncomputable abbrev s_InvalidLetter : Stmt := inCls (top 11) 0
noncomputable abbrev s_InvalidLimit : Stmt := inCls (top 13) 0
noncomputable abbrev s_InvalidProgram : Stmt := inCls (top 2) 0
noncomputable abbrev s_InvalidRounds : Stmt := inCls (top 9) 0
noncomputable abbrev s_InvalidSize : Stmt := inCls (top 4) 0
noncomputable abbrev s_InvalidTeam : Stmt := inCls (top 8) 0
noncomputable abbrev s_InvalidTerms : Stmt := inCls (top 5) 0
noncomputable abbrev s_InvalidText : Stmt := inCls (top 14) 0
noncomputable abbrev s_InvalidTurn : Stmt := inCls (top 6) 0
noncomputable abbrev s_NoMark : Stmt := inCls (top 25) 0
noncomputable abbrev s_NoPair : Stmt := inCls (top 21) 0
noncomputable abbrev s_NoPipe : Stmt := inCls (top 20) 0
noncomputable abbrev s_NoStep : Stmt := inCls (top 22) 0
noncomputable abbrev s_NotStuck : Stmt := inCls (top 17) 0
noncomputable abbrev s_NothingToRedo : Stmt := inCls (top 24) 0
noncomputable abbrev s_NothingToUndo : Stmt := inCls (top 23) 0
noncomputable abbrev s_Ringed : Stmt := inCls (top 15) 0
noncomputable abbrev s_SamePipe : Stmt := inCls (top 16) 0
noncomputable abbrev s_Starved : Stmt := inCls (top 18) 0
noncomputable abbrev s_TooMany : Stmt := inCls (top 27) 0
noncomputable abbrev s_UnknownCommand : Stmt := inCls (top 19) 0
noncomputable def errN : List Str := ["CannotGo", "InvalidDuo", "InvalidDurations", "InvalidEdit", "InvalidGuide", "InvalidLetter", "InvalidLimit", "InvalidProgram", "InvalidRounds", "InvalidSize", "InvalidTeam", "InvalidTerms", "InvalidText", "InvalidTurn", "NoMark", "NoPair", "NoPipe", "NoStep", "NotStuck", "NothingToRedo", "NothingToUndo", "Ringed", "SamePipe", "Starved", "TooMany", "UnknownCommand"]
noncomputable def tb_CannotGo : List (Str × Bool) := [("CannotGo", true), ("InvalidDuo", false), ("InvalidDurations", false), ("InvalidEdit", false), ("InvalidGuide", false), ("InvalidLetter", false), ("InvalidLimit", false), ("InvalidProgram", false), ("InvalidRounds", false), ("InvalidSize", false), ("InvalidTeam", false), ("InvalidTerms", false), ("InvalidText", false), ("InvalidTurn", false), ("NoMark", false), ("NoPair", false), ("NoPipe", false), ("NoStep", false), ("NotStuck", false), ("NothingToRedo", false), ("NothingToUndo", false), ("Ringed", false), ("SamePipe", false), ("Starved", false), ("TooMany", false), ("UnknownCommand", false)]
noncomputable def tb_IndexError : List (Str × Bool) := [("CannotGo", false), ("InvalidDuo", false), ("InvalidDurations", false), ("InvalidEdit", false), ("InvalidGuide", false), ("InvalidLetter", false), ("InvalidLimit", false), ("InvalidProgram", false), ("InvalidRounds", false), ("InvalidSize", false), ("InvalidTeam", false), ("InvalidTerms", false), ("InvalidText", false), ("InvalidTurn", false), ("NoMark", false), ("NoPair", true), ("NoPipe", false), ("NoStep", true), ("NotStuck", false), ("NothingToRedo", false), ("NothingToUndo", false), ("Ringed", false), ("SamePipe", false), ("Starved", false), ("TooMany", false), ("UnknownCommand", false)]
noncomputable def tb_InvalidDuo : List (Str × Bool) := [("CannotGo", false), ("InvalidDuo", true), ("InvalidDurations", false), ("InvalidEdit", false), ("InvalidGuide", false), ("InvalidLetter", false), ("InvalidLimit", false), ("InvalidProgram", false), ("InvalidRounds", false), ("InvalidSize", false), ("InvalidTeam", false), ("InvalidTerms", false), ("InvalidText", false), ("InvalidTurn", false), ("NoMark", false), ("NoPair", false), ("NoPipe", false), ("NoStep", false), ("NotStuck", false), ("NothingToRedo", false), ("NothingToUndo", false), ("Ringed", false), ("SamePipe", false), ("Starved", false), ("TooMany", false), ("UnknownCommand", false)]
noncomputable def tb_InvalidDurations : List (Str × Bool) := [("CannotGo", false), ("InvalidDuo", false), ("InvalidDurations", true), ("InvalidEdit", false), ("InvalidGuide", false), ("InvalidLetter", false), ("InvalidLimit", false), ("InvalidProgram", false), ("InvalidRounds", false), ("InvalidSize", false), ("InvalidTeam", false), ("InvalidTerms", false), ("InvalidText", false), ("InvalidTurn", false), ("NoMark", false), ("NoPair", false), ("NoPipe", false), ("NoStep", false), ("NotStuck", false), ("NothingToRedo", false), ("NothingToUndo", false), ("Ringed", false), ("SamePipe", false), ("Starved", false), ("TooMany", false), ("UnknownCommand", false)]
noncomputable def tb_InvalidEdit : List (Str × Bool) := [("CannotGo", false), ("InvalidDuo", false), ("InvalidDurations", false), ("InvalidEdit", true), ("InvalidGuide", false), ("InvalidLetter", false), ("InvalidLimit", false), ("InvalidProgram", false), ("InvalidRounds", false), ("InvalidSize", false), ("InvalidTeam", false), ("InvalidTerms", false), ("InvalidText", false), ("InvalidTurn", false), ("NoMark", false), ("NoPair", false), ("NoPipe", false), ("NoStep", false), ("NotStuck", false), ("NothingToRedo", false), ("NothingToUndo", false), ("Ringed", false), ("SamePipe", false), ("Starved", false), ("TooMany", false), ("UnknownCommand", false)]
noncomputable def tb_InvalidGuide : List (Str × Bool) := [("CannotGo", false), ("InvalidDuo", false), ("InvalidDurations", false), ("InvalidEdit", false), ("InvalidGuide", true), ("InvalidLetter", false), ("InvalidLimit", false), ("InvalidProgram", false), ("InvalidRounds", false), ("InvalidSize", false), ("InvalidTeam", false), ("InvalidTerms", false), ("InvalidText", false), ("InvalidTurn", false), ("NoMark", false), ("NoPair", false), ("NoPipe", false), ("NoStep", false), ("NotStuck", false), ("NothingToRedo", false), ("NothingToUndo", false), ("Ringed", false), ("SamePipe", false), ("Starved", false), ("TooMany", false), ("UnknownCommand", false)]
noncomputable def tb_InvalidLetter : List (Str × Bool) := [("CannotGo", false), ("InvalidDuo", false), ("InvalidDurations", false), ("InvalidEdit", false), ("InvalidGuide", false), ("InvalidLetter", true), ("InvalidLimit", false), ("InvalidProgram", false), ("InvalidRounds", false), ("InvalidSize", false), ("InvalidTeam", false), ("InvalidTerms", false), ("InvalidText", false), ("InvalidTurn", false), ("NoMark", false), ("NoPair", false), ("NoPipe", false), ("NoStep", false), ("NotStuck", false), ("NothingToRedo", false), ("NothingToUndo", false), ("Ringed", false), ("SamePipe", false), ("Starved", false), ("TooMany", false), ("UnknownCommand", false)]
noncomputable def tb_InvalidLimit : List (Str × Bool) := [("CannotGo", false), ("InvalidDuo", false), ("InvalidDurations", false), ("InvalidEdit", false), ("InvalidGuide", false), ("InvalidLetter", false), ("InvalidLimit", true), ("InvalidProgram", false), ("InvalidRounds", false), ("InvalidSize", false), ("InvalidTeam", false), ("InvalidTerms", false), ("InvalidText", false), ("InvalidTurn", false), ("NoMark", false), ("NoPair", false), ("NoPipe", false), ("NoStep", false), ("NotStuck", false), ("NothingToRedo", false), ("NothingToUndo", false), ("Ringed", false), ("SamePipe", false), ("Starved", false), ("TooMany", false), ("UnknownCommand", false)]
noncomputable def tb_InvalidProgram : List (Str × Bool) := [("CannotGo", false), ("InvalidDuo", false), ("InvalidDurations", false), ("InvalidEdit", false), ("InvalidGuide", false), ("InvalidLetter", false), ("InvalidLimit", false), ("InvalidProgram", true), ("InvalidRounds", false), ("InvalidSize", false), ("InvalidTeam", false), ("InvalidTerms", false), ("InvalidText", false), ("InvalidTurn", false), ("NoMark", false), ("NoPair", false), ("NoPipe", false), ("NoStep", false), ("NotStuck", false), ("NothingToRedo", false), ("NothingToUndo", false), ("Ringed", false), ("SamePipe", false), ("Starved", false), ("TooMany", false), ("UnknownCommand", false)]
noncomputable def tb_InvalidRounds : List (Str × Bool) := [("CannotGo", false), ("InvalidDuo", false), ("InvalidDurations", false), ("InvalidEdit", false), ("InvalidGuide", false), ("InvalidLetter", false), ("InvalidLimit", false), ("InvalidProgram", false), ("InvalidRounds", true), ("InvalidSize", false), ("InvalidTeam", false), ("InvalidTerms", false), ("InvalidText", false), ("InvalidTurn", false), ("NoMark", false), ("NoPair", false), ("NoPipe", false), ("NoStep", false), ("NotStuck", false), ("NothingToRedo", false), ("NothingToUndo", false), ("Ringed", false), ("SamePipe", false), ("Starved", false), ("TooMany", false), ("UnknownCommand", false)]
noncomputable def tb_InvalidSize : List (Str × Bool) := [("CannotGo", false), ("InvalidDuo", false), ("InvalidDurations", false), ("InvalidEdit", false), ("InvalidGuide", false), ("InvalidLetter", false), ("InvalidLimit", false), ("InvalidProgram", false), ("InvalidRounds", false), ("InvalidSize", true), ("InvalidTeam", false), ("InvalidTerms", false), ("InvalidText", false), ("InvalidTurn", false), ("NoMark", false), ("NoPair", false), ("NoPipe", false), ("NoStep", false), ("NotStuck", false), ("NothingToRedo", false), ("NothingToUndo", false), ("Ringed", false), ("SamePipe", false), ("Starved", false), ("TooMany", false), ("UnknownCommand", false)]
noncomputable def tb_InvalidTeam : List (Str × Bool) := [("CannotGo", false), ("InvalidDuo", false), ("InvalidDurations", false), ("InvalidEdit", false), ("InvalidGuide", false), ("InvalidLetter", false), ("InvalidLimit", false), ("InvalidProgram", false), ("InvalidRounds", false), ("InvalidSize", false), ("InvalidTeam", true), ("InvalidTerms", false), ("InvalidText", false), ("InvalidTurn", false), ("NoMark", false), ("NoPair", false), ("NoPipe", false), ("NoStep", false), ("NotStuck", false), ("NothingToRedo", false), ("NothingToUndo", false), ("Ringed", false), ("SamePipe", false), ("Starved", false), ("TooMany", false), ("UnknownCommand", false)]
noncomputable def tb_InvalidTerms : List (Str × Bool) := [("CannotGo", false), ("InvalidDuo", false), ("InvalidDurations", false), ("InvalidEdit", false), ("InvalidGuide", false), ("InvalidLetter", false), ("InvalidLimit", false), ("InvalidProgram", false), ("InvalidRounds", false), ("InvalidSize", false), ("InvalidTeam", false), ("InvalidTerms", true), ("InvalidText", false), ("InvalidTurn", false), ("NoMark", false), ("NoPair", false), ("NoPipe", false), ("NoStep", false), ("NotStuck", false), ("NothingToRedo", false), ("NothingToUndo", false), ("Ringed", false), ("SamePipe", false), ("Starved", false), ("TooMany", false), ("UnknownCommand", false)]
noncomputable def tb_InvalidText : List (Str × Bool) := [("CannotGo", false), ("InvalidDuo", false), ("InvalidDurations", false), ("InvalidEdit", false), ("InvalidGuide", false), ("InvalidLetter", false), ("InvalidLimit", false), ("InvalidProgram", false), ("InvalidRounds", false), ("InvalidSize", false), ("InvalidTeam", false), ("InvalidTerms", false), ("InvalidText", true), ("InvalidTurn", false), ("NoMark", false), ("NoPair", false), ("NoPipe", false), ("NoStep", false), ("NotStuck", false), ("NothingToRedo", false), ("NothingToUndo", false), ("Ringed", false), ("SamePipe", false), ("Starved", false), ("TooMany", false), ("UnknownCommand", false)]
noncomputable def tb_InvalidTurn : List (Str × Bool) := [("CannotGo", false), ("InvalidDuo", false), ("InvalidDurations", false), ("InvalidEdit", false), ("InvalidGuide", false), ("InvalidLetter", false), ("InvalidLimit", false), ("InvalidProgram", false), ("InvalidRounds", false), ("InvalidSize", false), ("InvalidTeam", false), ("InvalidTerms", false), ("InvalidText", false), ("InvalidTurn", true), ("NoMark", false), ("NoPair", false), ("NoPipe", false), ("NoStep", false), ("NotStuck", false), ("NothingToRedo", false), ("NothingToUndo", false), ("Ringed", false), ("SamePipe", false), ("Starved", false), ("TooMany", false), ("UnknownCommand", false)]
noncomputable def tb_KeyError : List (Str × Bool) := [("CannotGo", false), ("InvalidDuo", false), ("InvalidDurations", false), ("InvalidEdit", false), ("InvalidGuide", false), ("InvalidLetter", false), ("InvalidLimit", false), ("InvalidProgram", false), ("InvalidRounds", false), ("InvalidSize", false), ("InvalidTeam", false), ("InvalidTerms", false), ("InvalidText", false), ("InvalidTurn", false), ("NoMark", false), ("NoPair", false), ("NoPipe", true), ("NoStep", false), ("NotStuck", false), ("NothingToRedo", false), ("NothingToUndo", false), ("Ringed", false), ("SamePipe", false), ("Starved", false), ("TooMany", false), ("UnknownCommand", false)]
noncomputable def tb_LookupError : List (Str × Bool) := [("CannotGo", false), ("InvalidDuo", false), ("InvalidDurations", false), ("InvalidEdit", false), ("InvalidGuide", false), ("InvalidLetter", false), ("InvalidLimit", false), ("InvalidProgram", false), ("InvalidRounds", false), ("InvalidSize", false), ("InvalidTeam", false), ("InvalidTerms", false), ("InvalidText", false), ("InvalidTurn", false), ("NoMark", true), ("NoPair", true), ("NoPipe", true), ("NoStep", true), ("NotStuck", false), ("NothingToRedo", true), ("NothingToUndo", true), ("Ringed", false), ("SamePipe", false), ("Starved", false), ("TooMany", false), ("UnknownCommand", false)]
noncomputable def tb_NoMark : List (Str × Bool) := [("CannotGo", false), ("InvalidDuo", false), ("InvalidDurations", false), ("InvalidEdit", false), ("InvalidGuide", false), ("InvalidLetter", false), ("InvalidLimit", false), ("InvalidProgram", false), ("InvalidRounds", false), ("InvalidSize", false), ("InvalidTeam", false), ("InvalidTerms", false), ("InvalidText", false), ("InvalidTurn", false), ("NoMark", true), ("NoPair", false), ("NoPipe", false), ("NoStep", false), ("NotStuck", false), ("NothingToRedo", false), ("NothingToUndo", false), ("Ringed", false), ("SamePipe", false), ("Starved", false), ("TooMany", false), ("UnknownCommand", false)]
noncomputable def tb_NoPair : List (Str × Bool) := [("CannotGo", false), ("InvalidDuo", false), ("InvalidDurations", false), ("InvalidEdit", false), ("InvalidGuide", false), ("InvalidLetter", false), ("InvalidLimit", false), ("InvalidProgram", false), ("InvalidRounds", false), ("InvalidSize", false), ("InvalidTeam", false), ("InvalidTerms", false), ("InvalidText", false), ("InvalidTurn", false), ("NoMark", false), ("NoPair", true), ("NoPipe", false), ("NoStep", false), ("NotStuck", false), ("NothingToRedo", false), ("NothingToUndo", false), ("Ringed", false), ("SamePipe", false), ("Starved", false), ("TooMany", false), ("UnknownCommand", false)]
noncomputable def tb_NoPipe : List (Str × Bool) := [("CannotGo", false), ("InvalidDuo", false), ("InvalidDurations", false), ("InvalidEdit", false), ("InvalidGuide", false), ("InvalidLetter", false), ("InvalidLimit", false), ("InvalidProgram", false), ("InvalidRounds", false), ("InvalidSize", false), ("InvalidTeam", false), ("InvalidTerms", false), ("InvalidText", false), ("InvalidTurn", false), ("NoMark", false), ("NoPair", false), ("NoPipe", true), ("NoStep", false), ("NotStuck", false), ("NothingToRedo", false), ("NothingToUndo", false), ("Ringed", false), ("SamePipe", false), ("Starved", false), ("TooMany", false), ("UnknownCommand", false)]
noncomputable def tb_NoStep : List (Str × Bool) := [("CannotGo", false), ("InvalidDuo", false), ("InvalidDurations", false), ("InvalidEdit", false), ("InvalidGuide", false), ("InvalidLetter", false), ("InvalidLimit", false), ("InvalidProgram", false), ("InvalidRounds", false), ("InvalidSize", false), ("InvalidTeam", false), ("InvalidTerms", false), ("InvalidText", false), ("InvalidTurn", false), ("NoMark", false), ("NoPair", false), ("NoPipe", false), ("NoStep", true), ("NotStuck", false), ("NothingToRedo", false), ("NothingToUndo", false), ("Ringed", false), ("SamePipe", false), ("Starved", false), ("TooMany", false), ("UnknownCommand", false)]
noncomputable def tb_NotStuck : List (Str × Bool) := [("CannotGo", false), ("InvalidDuo", false), ("InvalidDurations", false), ("InvalidEdit", false), ("InvalidGuide", false), ("InvalidLetter", false), ("InvalidLimit", false), ("InvalidProgram", false), ("InvalidRounds", false), ("InvalidSize", false), ("InvalidTeam", false), ("InvalidTerms", false), ("InvalidText", false), ("InvalidTurn", false), ("NoMark", false), ("NoPair", false), ("NoPipe", false), ("NoStep", false), ("NotStuck", true), ("NothingToRedo", false), ("NothingToUndo", false), ("Ringed", false), ("SamePipe", false), ("Starved", false), ("TooMany", false), ("UnknownCommand", false)]
noncomputable def tb_NothingToRedo : List (Str × Bool) := [("CannotGo", false), ("InvalidDuo", false), ("InvalidDurations", false), ("InvalidEdit", false), ("InvalidGuide", false), ("InvalidLetter", false), ("InvalidLimit", false), ("InvalidProgram", false), ("InvalidRounds", false), ("InvalidSize", false), ("InvalidTeam", false), ("InvalidTerms", false), ("InvalidText", false), ("InvalidTurn", false), ("NoMark", false), ("NoPair", false), ("NoPipe", false), ("NoStep", false), ("NotStuck", false), ("NothingToRedo", true), ("NothingToUndo", false), ("Ringed", false), ("SamePipe", false), ("Starved", false), ("TooMany", false), ("UnknownCommand", false)]
noncomputable def tb_NothingToUndo : List (Str × Bool) := [("CannotGo", false), ("InvalidDuo", false), ("InvalidDurations", false), ("InvalidEdit", false), ("InvalidGuide", false), ("InvalidLetter", false), ("InvalidLimit", false), ("InvalidProgram", false), ("InvalidRounds", false), ("InvalidSize", false), ("InvalidTeam", false), ("InvalidTerms", false), ("InvalidText", false), ("InvalidTurn", false), ("NoMark", false), ("NoPair", false), ("NoPipe", false), ("NoStep", false), ("NotStuck", false), ("NothingToRedo", false), ("NothingToUndo", true), ("Ringed", false), ("SamePipe", false), ("Starved", false), ("TooMany", false), ("UnknownCommand", false)]
noncomputable def tb_OverflowError : List (Str × Bool) := [("CannotGo", false), ("InvalidDuo", false), ("InvalidDurations", false), ("InvalidEdit", false), ("InvalidGuide", false), ("InvalidLetter", false), ("InvalidLimit", false), ("InvalidProgram", false), ("InvalidRounds", false), ("InvalidSize", false), ("InvalidTeam", false), ("InvalidTerms", false), ("InvalidText", false), ("InvalidTurn", false), ("NoMark", false), ("NoPair", false), ("NoPipe", false), ("NoStep", false), ("NotStuck", false), ("NothingToRedo", false), ("NothingToUndo", false), ("Ringed", false), ("SamePipe", false), ("Starved", false), ("TooMany", true), ("UnknownCommand", false)]
noncomputable def tb_Ringed : List (Str × Bool) := [("CannotGo", false), ("InvalidDuo", false), ("InvalidDurations", false), ("InvalidEdit", false), ("InvalidGuide", false), ("InvalidLetter", false), ("InvalidLimit", false), ("InvalidProgram", false), ("InvalidRounds", false), ("InvalidSize", false), ("InvalidTeam", false), ("InvalidTerms", false), ("InvalidText", false), ("InvalidTurn", false), ("NoMark", false), ("NoPair", false), ("NoPipe", false), ("NoStep", false), ("NotStuck", false), ("NothingToRedo", false), ("NothingToUndo", false), ("Ringed", true), ("SamePipe", false), ("Starved", false), ("TooMany", false), ("UnknownCommand", false)]
noncomputable def tb_RuntimeError : List (Str × Bool) := [("CannotGo", true), ("InvalidDuo", false), ("InvalidDurations", false), ("InvalidEdit", false), ("InvalidGuide", false), ("InvalidLetter", false), ("InvalidLimit", false), ("InvalidProgram", false), ("InvalidRounds", false), ("InvalidSize", false), ("InvalidTeam", false), ("InvalidTerms", false), ("InvalidText", false), ("InvalidTurn", false), ("NoMark", false), ("NoPair", false), ("NoPipe", false), ("NoStep", false), ("NotStuck", false), ("NothingToRedo", false), ("NothingToUndo", false), ("Ringed", false), ("SamePipe", false), ("Starved", false), ("TooMany", false), ("UnknownCommand", false)]
noncomputable def tb_SamePipe : List (Str × Bool) := [("CannotGo", false), ("InvalidDuo", false), ("InvalidDurations", false), ("InvalidEdit", false), ("InvalidGuide", false), ("InvalidLetter", false), ("InvalidLimit", false), ("InvalidProgram", false), ("InvalidRounds", false), ("InvalidSize", false), ("InvalidTeam", false), ("InvalidTerms", false), ("InvalidText", false), ("InvalidTurn", false), ("NoMark", false), ("NoPair", false), ("NoPipe", false), ("NoStep", false), ("NotStuck", false), ("NothingToRedo", false), ("NothingToUndo", false), ("Ringed", false), ("SamePipe", true), ("Starved", false), ("TooMany", false), ("UnknownCommand", false)]
noncomputable def tb_Starved : List (Str × Bool) := [("CannotGo", false), ("InvalidDuo", false), ("InvalidDurations", false), ("InvalidEdit", false), ("InvalidGuide", false), ("InvalidLetter", false), ("InvalidLimit", false), ("InvalidProgram", false), ("InvalidRounds", false), ("InvalidSize", false), ("InvalidTeam", false), ("InvalidTerms", false), ("InvalidText", false), ("InvalidTurn", false), ("NoMark", false), ("NoPair", false), ("NoPipe", false), ("NoStep", false), ("NotStuck", false), ("NothingToRedo", false), ("NothingToUndo", false), ("Ringed", false), ("SamePipe", false), ("Starved", true), ("TooMany", false), ("UnknownCommand", false)]
noncomputable def tb_TallyError : List (Str × Bool) := [("CannotGo", false), ("InvalidDuo", true), ("InvalidDurations", true), ("InvalidEdit", true), ("InvalidGuide", true), ("InvalidLetter", true), ("InvalidLimit", true), ("InvalidProgram", true), ("InvalidRounds", true), ("InvalidSize", true), ("InvalidTeam", true), ("InvalidTerms", true), ("InvalidText", true), ("InvalidTurn", true), ("NoMark", false), ("NoPair", false), ("NoPipe", false), ("NoStep", false), ("NotStuck", true), ("NothingToRedo", false), ("NothingToUndo", false), ("Ringed", true), ("SamePipe", true), ("Starved", true), ("TooMany", false), ("UnknownCommand", true)]
noncomputable def tb_TooMany : List (Str × Bool) := [("CannotGo", false), ("InvalidDuo", false), ("InvalidDurations", false), ("InvalidEdit", false), ("InvalidGuide", false), ("InvalidLetter", false), ("InvalidLimit", false), ("InvalidProgram", false), ("InvalidRounds", false), ("InvalidSize", false), ("InvalidTeam", false), ("InvalidTerms", false), ("InvalidText", false), ("InvalidTurn", false), ("NoMark", false), ("NoPair", false), ("NoPipe", false), ("NoStep", false), ("NotStuck", false), ("NothingToRedo", false), ("NothingToUndo", false), ("Ringed", false), ("SamePipe", false), ("Starved", false), ("TooMany", true), ("UnknownCommand", false)]
noncomputable def tb_UnknownCommand : List (Str × Bool) := [("CannotGo", false), ("InvalidDuo", false), ("InvalidDurations", false), ("InvalidEdit", false), ("InvalidGuide", false), ("InvalidLetter", false), ("InvalidLimit", false), ("InvalidProgram", false), ("InvalidRounds", false), ("InvalidSize", false), ("InvalidTeam", false), ("InvalidTerms", false), ("InvalidText", false), ("InvalidTurn", false), ("NoMark", false), ("NoPair", false), ("NoPipe", false), ("NoStep", false), ("NotStuck", false), ("NothingToRedo", false), ("NothingToUndo", false), ("Ringed", false), ("SamePipe", false), ("Starved", false), ("TooMany", false), ("UnknownCommand", true)]
noncomputable def tb_ValueError : List (Str × Bool) := [("CannotGo", false), ("InvalidDuo", true), ("InvalidDurations", true), ("InvalidEdit", true), ("InvalidGuide", true), ("InvalidLetter", true), ("InvalidLimit", true), ("InvalidProgram", true), ("InvalidRounds", true), ("InvalidSize", true), ("InvalidTeam", true), ("InvalidTerms", true), ("InvalidText", true), ("InvalidTurn", true), ("NoMark", false), ("NoPair", false), ("NoPipe", false), ("NoStep", false), ("NotStuck", true), ("NothingToRedo", false), ("NothingToUndo", false), ("Ringed", true), ("SamePipe", true), ("Starved", true), ("TooMany", false), ("UnknownCommand", true)]
noncomputable def fl_command : List Str := ["UnknownCommand"]
noncomputable def fl_count : List Str := ["NothingToRedo", "NothingToUndo"]
noncomputable def fl_index : List Str := ["InvalidEdit", "InvalidProgram", "InvalidTurn", "NoStep", "SamePipe"]
noncomputable def fl_letter : List Str := ["InvalidDurations", "InvalidLetter"]
noncomputable def fl_line : List Str := ["InvalidText"]
noncomputable def fl_members : List Str := ["Ringed"]
noncomputable def fl_most : List Str := ["TooMany"]
noncomputable def fl_name : List Str := ["InvalidSize", "InvalidTerms", "NoMark", "NoPipe"]
noncomputable def fl_number : List Str := ["InvalidLimit", "InvalidRounds"]
noncomputable def fl_pair : List Str := ["InvalidGuide", "NoPair", "NotStuck", "Starved"]
noncomputable def fl_pipe : List Str := ["InvalidDuo", "InvalidTeam"]
noncomputable def fl_who : List Str := ["CannotGo"]
noncomputable def fl_word : List Str := ["InvalidText"]
structure Txt (K : PySem.W.Frag) (mg : Str → Option Value) : Prop where
  d_law_pen : DefAt K mg "_law_pen" s_law_pen
  d_law_draw : DefAt K mg "_law_draw" s_law_draw
  d_law_odd : DefAt K mg "_law_odd" s_law_odd
  d_law_errors : DefAt K mg "_law_errors" s_law_errors
  d_law_named : DefAt K mg "_law_named" s_law_named
  d_law_classes : DefAt K mg "_law_classes" s_law_classes
  d_law_bases : DefAt K mg "_law_bases" s_law_bases
  d_law_fields : DefAt K mg "_law_fields" s_law_fields
  d_law : DefAt K mg "law" s_law
  x_CannotGo : ErrAt K mg "CannotGo" "CannotGo.__init__" s_CannotGo
  y_CannotGo_who : FldAt K "CannotGo" "who"
  x_InvalidDuo : ErrAt K mg "InvalidDuo" "InvalidDuo.__init__" s_InvalidDuo
  y_InvalidDuo_pipe : FldAt K "InvalidDuo" "pipe"
  x_InvalidDurations : ErrAt K mg "InvalidDurations" "InvalidDurations.__init__" s_InvalidDurations
  y_InvalidDurations_letter : FldAt K "InvalidDurations" "letter"
  x_InvalidEdit : ErrAt K mg "InvalidEdit" "InvalidEdit.__init__" s_InvalidEdit
  y_InvalidEdit_index : FldAt K "InvalidEdit" "index"
  x_InvalidGuide : ErrAt K mg "InvalidGuide" "InvalidGuide.__init__" s_InvalidGuide
  y_InvalidGuide_pair : FldAt K "InvalidGuide" "pair"
  x_InvalidLetter : ErrAt K mg "InvalidLetter" "InvalidLetter.__init__" s_InvalidLetter
  y_InvalidLetter_letter : FldAt K "InvalidLetter" "letter"
  x_InvalidLimit : ErrAt K mg "InvalidLimit" "InvalidLimit.__init__" s_InvalidLimit
  y_InvalidLimit_number : FldAt K "InvalidLimit" "number"
  x_InvalidProgram : ErrAt K mg "InvalidProgram" "InvalidProgram.__init__" s_InvalidProgram
  y_InvalidProgram_index : FldAt K "InvalidProgram" "index"
  x_InvalidRounds : ErrAt K mg "InvalidRounds" "InvalidRounds.__init__" s_InvalidRounds
  y_InvalidRounds_number : FldAt K "InvalidRounds" "number"
  x_InvalidSize : ErrAt K mg "InvalidSize" "InvalidSize.__init__" s_InvalidSize
  y_InvalidSize_name : FldAt K "InvalidSize" "name"
  x_InvalidTeam : ErrAt K mg "InvalidTeam" "InvalidTeam.__init__" s_InvalidTeam
  y_InvalidTeam_pipe : FldAt K "InvalidTeam" "pipe"
  x_InvalidTerms : ErrAt K mg "InvalidTerms" "InvalidTerms.__init__" s_InvalidTerms
  y_InvalidTerms_name : FldAt K "InvalidTerms" "name"
  x_InvalidText : ErrAt K mg "InvalidText" "InvalidText.__init__" s_InvalidText
  y_InvalidText_line : FldAt K "InvalidText" "line"
  y_InvalidText_word : FldAt K "InvalidText" "word"
  x_InvalidTurn : ErrAt K mg "InvalidTurn" "InvalidTurn.__init__" s_InvalidTurn
  y_InvalidTurn_index : FldAt K "InvalidTurn" "index"
  x_NoMark : ErrAt K mg "NoMark" "NoMark.__init__" s_NoMark
  y_NoMark_name : FldAt K "NoMark" "name"
  x_NoPair : ErrAt K mg "NoPair" "NoPair.__init__" s_NoPair
  y_NoPair_pair : FldAt K "NoPair" "pair"
  x_NoPipe : ErrAt K mg "NoPipe" "NoPipe.__init__" s_NoPipe
  y_NoPipe_name : FldAt K "NoPipe" "name"
  x_NoStep : ErrAt K mg "NoStep" "NoStep.__init__" s_NoStep
  y_NoStep_index : FldAt K "NoStep" "index"
  x_NotStuck : ErrAt K mg "NotStuck" "NotStuck.__init__" s_NotStuck
  y_NotStuck_pair : FldAt K "NotStuck" "pair"
  x_NothingToRedo : ErrAt K mg "NothingToRedo" "NothingToRedo.__init__" s_NothingToRedo
  y_NothingToRedo_count : FldAt K "NothingToRedo" "count"
  x_NothingToUndo : ErrAt K mg "NothingToUndo" "NothingToUndo.__init__" s_NothingToUndo
  y_NothingToUndo_count : FldAt K "NothingToUndo" "count"
  x_Ringed : ErrAt K mg "Ringed" "Ringed.__init__" s_Ringed
  y_Ringed_members : FldAt K "Ringed" "members"
  x_SamePipe : ErrAt K mg "SamePipe" "SamePipe.__init__" s_SamePipe
  y_SamePipe_index : FldAt K "SamePipe" "index"
  x_Starved : ErrAt K mg "Starved" "Starved.__init__" s_Starved
  y_Starved_pair : FldAt K "Starved" "pair"
  x_TooMany : ErrAt K mg "TooMany" "TooMany.__init__" s_TooMany
  y_TooMany_most : FldAt K "TooMany" "most"
  x_UnknownCommand : ErrAt K mg "UnknownCommand" "UnknownCommand.__init__" s_UnknownCommand
  y_UnknownCommand_command : FldAt K "UnknownCommand" "command"
  ex_all : ExcAll K errN
  ie_CannotGo : IsXo K "CannotGo" (tabL tb_CannotGo)
  ib_IndexError : IsX K (.type "IndexError") (tabL tb_IndexError)
  ie_InvalidDuo : IsXo K "InvalidDuo" (tabL tb_InvalidDuo)
  ie_InvalidDurations : IsXo K "InvalidDurations" (tabL tb_InvalidDurations)
  ie_InvalidEdit : IsXo K "InvalidEdit" (tabL tb_InvalidEdit)
  ie_InvalidGuide : IsXo K "InvalidGuide" (tabL tb_InvalidGuide)
  ie_InvalidLetter : IsXo K "InvalidLetter" (tabL tb_InvalidLetter)
  ie_InvalidLimit : IsXo K "InvalidLimit" (tabL tb_InvalidLimit)
  ie_InvalidProgram : IsXo K "InvalidProgram" (tabL tb_InvalidProgram)
  ie_InvalidRounds : IsXo K "InvalidRounds" (tabL tb_InvalidRounds)
  ie_InvalidSize : IsXo K "InvalidSize" (tabL tb_InvalidSize)
  ie_InvalidTeam : IsXo K "InvalidTeam" (tabL tb_InvalidTeam)
  ie_InvalidTerms : IsXo K "InvalidTerms" (tabL tb_InvalidTerms)
  ie_InvalidText : IsXo K "InvalidText" (tabL tb_InvalidText)
  ie_InvalidTurn : IsXo K "InvalidTurn" (tabL tb_InvalidTurn)
  ib_KeyError : IsX K (.type "KeyError") (tabL tb_KeyError)
  ib_LookupError : IsX K (.type "LookupError") (tabL tb_LookupError)
  ie_NoMark : IsXo K "NoMark" (tabL tb_NoMark)
  ie_NoPair : IsXo K "NoPair" (tabL tb_NoPair)
  ie_NoPipe : IsXo K "NoPipe" (tabL tb_NoPipe)
  ie_NoStep : IsXo K "NoStep" (tabL tb_NoStep)
  ie_NotStuck : IsXo K "NotStuck" (tabL tb_NotStuck)
  ie_NothingToRedo : IsXo K "NothingToRedo" (tabL tb_NothingToRedo)
  ie_NothingToUndo : IsXo K "NothingToUndo" (tabL tb_NothingToUndo)
  ib_OverflowError : IsX K (.type "OverflowError") (tabL tb_OverflowError)
  ie_Ringed : IsXo K "Ringed" (tabL tb_Ringed)
  ib_RuntimeError : IsX K (.type "RuntimeError") (tabL tb_RuntimeError)
  ie_SamePipe : IsXo K "SamePipe" (tabL tb_SamePipe)
  ie_Starved : IsXo K "Starved" (tabL tb_Starved)
  q_TallyError : ∃ C, clsOf K "TallyError" = some C ∧ mg "TallyError" = some (.ref C)
  ie_TallyError : IsXo K "TallyError" (tabL tb_TallyError)
  ie_TooMany : IsXo K "TooMany" (tabL tb_TooMany)
  ie_UnknownCommand : IsXo K "UnknownCommand" (tabL tb_UnknownCommand)
  ib_ValueError : IsX K (.type "ValueError") (tabL tb_ValueError)
  xf_command : XfAt K "command" fl_command
  xf_count : XfAt K "count" fl_count
  xf_index : XfAt K "index" fl_index
  xf_letter : XfAt K "letter" fl_letter
  xf_line : XfAt K "line" fl_line
  xf_members : XfAt K "members" fl_members
  xf_most : XfAt K "most" fl_most
  xf_name : XfAt K "name" fl_name
  xf_number : XfAt K "number" fl_number
  xf_pair : XfAt K "pair" fl_pair
  xf_pipe : XfAt K "pipe" fl_pipe
  xf_who : XfAt K "who" fl_who
  xf_word : XfAt K "word" fl_word
  n_IndexError : mg "IndexError" = none
  n_KeyError : mg "KeyError" = none
  n_LookupError : mg "LookupError" = none
  n_OverflowError : mg "OverflowError" = none
  n_RuntimeError : mg "RuntimeError" = none
  n_ValueError : mg "ValueError" = none
  n_abs : mg "abs" = none
  n_int : mg "int" = none
  n_isinstance : mg "isinstance" = none
  n_len : mg "len" = none
  n_list : mg "list" = none
  n_range : mg "range" = none
  n_repr : mg "repr" = none
section
variable {P : Program} {w : World} {K : PySem.W.Frag} {mg : Str → Option Value} {base : Heap} {G : Cg}
theorem sc_CannotGo : FnScope ["self", "who"] ["self", "who"] (defScope s_CannotGo) := ⟨rfl, rfl, rfl, by decide +kernel, rfl, by decide +kernel, by decide +kernel⟩
theorem am_CannotGo : ArgsM s_CannotGo "__init__" "CannotGo.__init__" ["self", "who"] := fun _ _ _ _ _ _ us h => match us, h with
  | [_, _], _ => rfl
theorem ak_CannotGo : ArgsK s_CannotGo "CannotGo.__init__" ["self", "who"] ["who"] [0] := fun _ _ _ _ _ _ _ ws h => match ws, h with
  | [_], _ => rfl
theorem eo_CannotGo (T : Txt K mg) : ErrO P w K mg base 1 "CannotGo" "who" := errO_of T.x_CannotGo T.y_CannotGo_who sc_CannotGo am_CannotGo (by first | exact Or.inl rfl | exact Or.inr rfl) (by first | exact Or.inl rfl | exact Or.inr rfl) rfl (fun _ => rfl)
theorem ek_CannotGo (T : Txt K mg) : ErrK P w K mg base 1 "CannotGo" "who" := errK_of T.x_CannotGo T.y_CannotGo_who sc_CannotGo ak_CannotGo (by first | exact Or.inl rfl | exact Or.inr rfl) (by first | exact Or.inl rfl | exact Or.inr rfl) rfl (fun _ => rfl)
theorem sc_InvalidDuo : FnScope ["self", "pipe"] ["self", "pipe"] (defScope s_InvalidDuo) := ⟨rfl, rfl, rfl, by decide +kernel, rfl, by decide +kernel, by decide +kernel⟩
theorem am_InvalidDuo : ArgsM s_InvalidDuo "__init__" "InvalidDuo.__init__" ["self", "pipe"] := fun _ _ _ _ _ _ us h => match us, h with
  | [_, _], _ => rfl
theorem ak_InvalidDuo : ArgsK s_InvalidDuo "InvalidDuo.__init__" ["self", "pipe"] ["pipe"] [0] := fun _ _ _ _ _ _ _ ws h => match ws, h with
  | [_], _ => rfl
theorem eo_InvalidDuo (T : Txt K mg) : ErrO P w K mg base 1 "InvalidDuo" "pipe" := errO_of T.x_InvalidDuo T.y_InvalidDuo_pipe sc_InvalidDuo am_InvalidDuo (by first | exact Or.inl rfl | exact Or.inr rfl) (by first | exact Or.inl rfl | exact Or.inr rfl) rfl (fun _ => rfl)
theorem ek_InvalidDuo (T : Txt K mg) : ErrK P w K mg base 1 "InvalidDuo" "pipe" := errK_of T.x_InvalidDuo T.y_InvalidDuo_pipe sc_InvalidDuo ak_InvalidDuo (by first | exact Or.inl rfl | exact Or.inr rfl) (by first | exact Or.inl rfl | exact Or.inr rfl) rfl (fun _ => rfl)
theorem sc_InvalidDurations : FnScope ["self", "letter"] ["self", "letter"] (defScope s_InvalidDurations) := ⟨rfl, rfl, rfl, by decide +kernel, rfl, by decide +kernel, by decide +kernel⟩
theorem am_InvalidDurations : ArgsM s_InvalidDurations "__init__" "InvalidDurations.__init__" ["self", "letter"] := fun _ _ _ _ _ _ us h => match us, h with
  | [_, _], _ => rfl
theorem ak_InvalidDurations : ArgsK s_InvalidDurations "InvalidDurations.__init__" ["self", "letter"] ["letter"] [0] := fun _ _ _ _ _ _ _ ws h => match ws, h with
  | [_], _ => rfl
theorem eo_InvalidDurations (T : Txt K mg) : ErrO P w K mg base 1 "InvalidDurations" "letter" := errO_of T.x_InvalidDurations T.y_InvalidDurations_letter sc_InvalidDurations am_InvalidDurations (by first | exact Or.inl rfl | exact Or.inr rfl) (by first | exact Or.inl rfl | exact Or.inr rfl) rfl (fun _ => rfl)
theorem ek_InvalidDurations (T : Txt K mg) : ErrK P w K mg base 1 "InvalidDurations" "letter" := errK_of T.x_InvalidDurations T.y_InvalidDurations_letter sc_InvalidDurations ak_InvalidDurations (by first | exact Or.inl rfl | exact Or.inr rfl) (by first | exact Or.inl rfl | exact Or.inr rfl) rfl (fun _ => rfl)
theorem sc_InvalidEdit : FnScope ["self", "index"] ["self", "index"] (defScope s_InvalidEdit) := ⟨rfl, rfl, rfl, by decide +kernel, rfl, by decide +kernel, by decide +kernel⟩
theorem am_InvalidEdit : ArgsM s_InvalidEdit "__init__" "InvalidEdit.__init__" ["self", "index"] := fun _ _ _ _ _ _ us h => match us, h with
  | [_, _], _ => rfl
theorem ak_InvalidEdit : ArgsK s_InvalidEdit "InvalidEdit.__init__" ["self", "index"] ["index"] [0] := fun _ _ _ _ _ _ _ ws h => match ws, h with
  | [_], _ => rfl
theorem eo_InvalidEdit (T : Txt K mg) : ErrO P w K mg base 1 "InvalidEdit" "index" := errO_of T.x_InvalidEdit T.y_InvalidEdit_index sc_InvalidEdit am_InvalidEdit (by first | exact Or.inl rfl | exact Or.inr rfl) (by first | exact Or.inl rfl | exact Or.inr rfl) rfl (fun _ => rfl)
theorem ek_InvalidEdit (T : Txt K mg) : ErrK P w K mg base 1 "InvalidEdit" "index" := errK_of T.x_InvalidEdit T.y_InvalidEdit_index sc_InvalidEdit ak_InvalidEdit (by first | exact Or.inl rfl | exact Or.inr rfl) (by first | exact Or.inl rfl | exact Or.inr rfl) rfl (fun _ => rfl)
theorem sc_InvalidGuide : FnScope ["self", "pair"] ["self", "pair"] (defScope s_InvalidGuide) := ⟨rfl, rfl, rfl, by decide +kernel, rfl, by decide +kernel, by decide +kernel⟩
theorem am_InvalidGuide : ArgsM s_InvalidGuide "__init__" "InvalidGuide.__init__" ["self", "pair"] := fun _ _ _ _ _ _ us h => match us, h with
  | [_, _], _ => rfl
theorem ak_InvalidGuide : ArgsK s_InvalidGuide "InvalidGuide.__init__" ["self", "pair"] ["pair"] [0] := fun _ _ _ _ _ _ _ ws h => match ws, h with
  | [_], _ => rfl
theorem eo_InvalidGuide (T : Txt K mg) : ErrO P w K mg base 1 "InvalidGuide" "pair" := errO_of T.x_InvalidGuide T.y_InvalidGuide_pair sc_InvalidGuide am_InvalidGuide (by first | exact Or.inl rfl | exact Or.inr rfl) (by first | exact Or.inl rfl | exact Or.inr rfl) rfl (fun _ => rfl)
theorem ek_InvalidGuide (T : Txt K mg) : ErrK P w K mg base 1 "InvalidGuide" "pair" := errK_of T.x_InvalidGuide T.y_InvalidGuide_pair sc_InvalidGuide ak_InvalidGuide (by first | exact Or.inl rfl | exact Or.inr rfl) (by first | exact Or.inl rfl | exact Or.inr rfl) rfl (fun _ => rfl)
theorem sc_InvalidLetter : FnScope ["self", "letter"] ["self", "letter"] (defScope s_InvalidLetter) := ⟨rfl, rfl, rfl, by decide +kernel, rfl, by decide +kernel, by decide +kernel⟩
theorem am_InvalidLetter : ArgsM s_InvalidLetter "__init__" "InvalidLetter.__init__" ["self", "letter"] := fun _ _ _ _ _ _ us h => match us, h with
  | [_, _], _ => rfl
theorem ak_InvalidLetter : ArgsK s_InvalidLetter "InvalidLetter.__init__" ["self", "letter"] ["letter"] [0] := fun _ _ _ _ _ _ _ ws h => match ws, h with
  | [_], _ => rfl
theorem eo_InvalidLetter (T : Txt K mg) : ErrO P w K mg base 1 "InvalidLetter" "letter" := errO_of T.x_InvalidLetter T.y_InvalidLetter_letter sc_InvalidLetter am_InvalidLetter (by first | exact Or.inl rfl | exact Or.inr rfl) (by first | exact Or.inl rfl | exact Or.inr rfl) rfl (fun _ => rfl)
theorem ek_InvalidLetter (T : Txt K mg) : ErrK P w K mg base 1 "InvalidLetter" "letter" := errK_of T.x_InvalidLetter T.y_InvalidLetter_letter sc_InvalidLetter ak_InvalidLetter (by first | exact Or.inl rfl | exact Or.inr rfl) (by first | exact Or.inl rfl | exact Or.inr rfl) rfl (fun _ => rfl)
theorem sc_InvalidLimit : FnScope ["self", "number"] ["self", "number"] (defScope s_InvalidLimit) := ⟨rfl, rfl, rfl, by decide +kernel, rfl, by decide +kernel, by decide +kernel⟩
theorem am_InvalidLimit : ArgsM s_InvalidLimit "__init__" "InvalidLimit.__init__" ["self", "number"] := fun _ _ _ _ _ _ us h => match us, h with
  | [_, _], _ => rfl
theorem ak_InvalidLimit : ArgsK s_InvalidLimit "InvalidLimit.__init__" ["self", "number"] ["number"] [0] := fun _ _ _ _ _ _ _ ws h => match ws, h with
  | [_], _ => rfl
theorem eo_InvalidLimit (T : Txt K mg) : ErrO P w K mg base 1 "InvalidLimit" "number" := errO_of T.x_InvalidLimit T.y_InvalidLimit_number sc_InvalidLimit am_InvalidLimit (by first | exact Or.inl rfl | exact Or.inr rfl) (by first | exact Or.inl rfl | exact Or.inr rfl) rfl (fun _ => rfl)
theorem ek_InvalidLimit (T : Txt K mg) : ErrK P w K mg base 1 "InvalidLimit" "number" := errK_of T.x_InvalidLimit T.y_InvalidLimit_number sc_InvalidLimit ak_InvalidLimit (by first | exact Or.inl rfl | exact Or.inr rfl) (by first | exact Or.inl rfl | exact Or.inr rfl) rfl (fun _ => rfl)
theorem sc_InvalidProgram : FnScope ["self", "index"] ["self", "index"] (defScope s_InvalidProgram) := ⟨rfl, rfl, rfl, by decide +kernel, rfl, by decide +kernel, by decide +kernel⟩
theorem am_InvalidProgram : ArgsM s_InvalidProgram "__init__" "InvalidProgram.__init__" ["self", "index"] := fun _ _ _ _ _ _ us h => match us, h with
  | [_, _], _ => rfl
theorem ak_InvalidProgram : ArgsK s_InvalidProgram "InvalidProgram.__init__" ["self", "index"] ["index"] [0] := fun _ _ _ _ _ _ _ ws h => match ws, h with
  | [_], _ => rfl
theorem eo_InvalidProgram (T : Txt K mg) : ErrO P w K mg base 1 "InvalidProgram" "index" := errO_of T.x_InvalidProgram T.y_InvalidProgram_index sc_InvalidProgram am_InvalidProgram (by first | exact Or.inl rfl | exact Or.inr rfl) (by first | exact Or.inl rfl | exact Or.inr rfl) rfl (fun _ => rfl)
theorem ek_InvalidProgram (T : Txt K mg) : ErrK P w K mg base 1 "InvalidProgram" "index" := errK_of T.x_InvalidProgram T.y_InvalidProgram_index sc_InvalidProgram ak_InvalidProgram (by first | exact Or.inl rfl | exact Or.inr rfl) (by first | exact Or.inl rfl | exact Or.inr rfl) rfl (fun _ => rfl)
theorem sc_InvalidRounds : FnScope ["self", "number"] ["self", "number"] (defScope s_InvalidRounds) := ⟨rfl, rfl, rfl, by decide +kernel, rfl, by decide +kernel, by decide +kernel⟩
theorem am_InvalidRounds : ArgsM s_InvalidRounds "__init__" "InvalidRounds.__init__" ["self", "number"] := fun _ _ _ _ _ _ us h => match us, h with
  | [_, _], _ => rfl
theorem ak_InvalidRounds : ArgsK s_InvalidRounds "InvalidRounds.__init__" ["self", "number"] ["number"] [0] := fun _ _ _ _ _ _ _ ws h => match ws, h with
  | [_], _ => rfl
theorem eo_InvalidRounds (T : Txt K mg) : ErrO P w K mg base 1 "InvalidRounds" "number" := errO_of T.x_InvalidRounds T.y_InvalidRounds_number sc_InvalidRounds am_InvalidRounds (by first | exact Or.inl rfl | exact Or.inr rfl) (by first | exact Or.inl rfl | exact Or.inr rfl) rfl (fun _ => rfl)
theorem ek_InvalidRounds (T : Txt K mg) : ErrK P w K mg base 1 "InvalidRounds" "number" := errK_of T.x_InvalidRounds T.y_InvalidRounds_number sc_InvalidRounds ak_InvalidRounds (by first | exact Or.inl rfl | exact Or.inr rfl) (by first | exact Or.inl rfl | exact Or.inr rfl) rfl (fun _ => rfl)
theorem sc_InvalidSize : FnScope ["self", "name"] ["self", "name"] (defScope s_InvalidSize) := ⟨rfl, rfl, rfl, by decide +kernel, rfl, by decide +kernel, by decide +kernel⟩
theorem am_InvalidSize : ArgsM s_InvalidSize "__init__" "InvalidSize.__init__" ["self", "name"] := fun _ _ _ _ _ _ us h => match us, h with
  | [_, _], _ => rfl
theorem ak_InvalidSize : ArgsK s_InvalidSize "InvalidSize.__init__" ["self", "name"] ["name"] [0] := fun _ _ _ _ _ _ _ ws h => match ws, h with
  | [_], _ => rfl
theorem eo_InvalidSize (T : Txt K mg) : ErrO P w K mg base 1 "InvalidSize" "name" := errO_of T.x_InvalidSize T.y_InvalidSize_name sc_InvalidSize am_InvalidSize (by first | exact Or.inl rfl | exact Or.inr rfl) (by first | exact Or.inl rfl | exact Or.inr rfl) rfl (fun _ => rfl)
theorem ek_InvalidSize (T : Txt K mg) : ErrK P w K mg base 1 "InvalidSize" "name" := errK_of T.x_InvalidSize T.y_InvalidSize_name sc_InvalidSize ak_InvalidSize (by first | exact Or.inl rfl | exact Or.inr rfl) (by first | exact Or.inl rfl | exact Or.inr rfl) rfl (fun _ => rfl)
theorem sc_InvalidTeam : FnScope ["self", "pipe"] ["self", "pipe"] (defScope s_InvalidTeam) := ⟨rfl, rfl, rfl, by decide +kernel, rfl, by decide +kernel, by decide +kernel⟩
theorem am_InvalidTeam : ArgsM s_InvalidTeam "__init__" "InvalidTeam.__init__" ["self", "pipe"] := fun _ _ _ _ _ _ us h => match us, h with
  | [_, _], _ => rfl
theorem ak_InvalidTeam : ArgsK s_InvalidTeam "InvalidTeam.__init__" ["self", "pipe"] ["pipe"] [0] := fun _ _ _ _ _ _ _ ws h => match ws, h with
  | [_], _ => rfl
theorem eo_InvalidTeam (T : Txt K mg) : ErrO P w K mg base 1 "InvalidTeam" "pipe" := errO_of T.x_InvalidTeam T.y_InvalidTeam_pipe sc_InvalidTeam am_InvalidTeam (by first | exact Or.inl rfl | exact Or.inr rfl) (by first | exact Or.inl rfl | exact Or.inr rfl) rfl (fun _ => rfl)
theorem ek_InvalidTeam (T : Txt K mg) : ErrK P w K mg base 1 "InvalidTeam" "pipe" := errK_of T.x_InvalidTeam T.y_InvalidTeam_pipe sc_InvalidTeam ak_InvalidTeam (by first | exact Or.inl rfl | exact Or.inr rfl) (by first | exact Or.inl rfl | exact Or.inr rfl) rfl (fun _ => rfl)
theorem sc_InvalidTerms : FnScope ["self", "name"] ["self", "name"] (defScope s_InvalidTerms) := ⟨rfl, rfl, rfl, by decide +kernel, rfl, by decide +kernel, by decide +kernel⟩
theorem am_InvalidTerms : ArgsM s_InvalidTerms "__init__" "InvalidTerms.__init__" ["self", "name"] := fun _ _ _ _ _ _ us h => match us, h with
  | [_, _], _ => rfl
theorem ak_InvalidTerms : ArgsK s_InvalidTerms "InvalidTerms.__init__" ["self", "name"] ["name"] [0] := fun _ _ _ _ _ _ _ ws h => match ws, h with
  | [_], _ => rfl
theorem eo_InvalidTerms (T : Txt K mg) : ErrO P w K mg base 1 "InvalidTerms" "name" := errO_of T.x_InvalidTerms T.y_InvalidTerms_name sc_InvalidTerms am_InvalidTerms (by first | exact Or.inl rfl | exact Or.inr rfl) (by first | exact Or.inl rfl | exact Or.inr rfl) rfl (fun _ => rfl)
theorem ek_InvalidTerms (T : Txt K mg) : ErrK P w K mg base 1 "InvalidTerms" "name" := errK_of T.x_InvalidTerms T.y_InvalidTerms_name sc_InvalidTerms ak_InvalidTerms (by first | exact Or.inl rfl | exact Or.inr rfl) (by first | exact Or.inl rfl | exact Or.inr rfl) rfl (fun _ => rfl)
theorem sc_InvalidText : FnScope ["self", "line", "word"] ["self", "line", "word"] (defScope s_InvalidText) := ⟨rfl, rfl, rfl, by decide +kernel, rfl, by decide +kernel, by decide +kernel⟩
theorem am_InvalidText : ArgsM s_InvalidText "__init__" "InvalidText.__init__" ["self", "line", "word"] := fun _ _ _ _ _ _ us h => match us, h with
  | [_, _, _], _ => rfl
theorem ak_InvalidText : ArgsK s_InvalidText "InvalidText.__init__" ["self", "line", "word"] ["word", "line"] [1, 0] := fun _ _ _ _ _ _ _ ws h => match ws, h with
  | [_, _], _ => rfl
theorem eo_InvalidText (T : Txt K mg) : Err2 P w K mg base 1 "InvalidText" "line" "word" := err2_of T.x_InvalidText T.y_InvalidText_line T.y_InvalidText_word sc_InvalidText am_InvalidText ak_InvalidText (by first | exact Or.inl rfl | exact Or.inr rfl) (by first | exact Or.inl rfl | exact Or.inr rfl) (by first | exact Or.inl rfl | exact Or.inr rfl) rfl (fun _ => rfl) (fun _ => rfl)
theorem sc_InvalidTurn : FnScope ["self", "index"] ["self", "index"] (defScope s_InvalidTurn) := ⟨rfl, rfl, rfl, by decide +kernel, rfl, by decide +kernel, by decide +kernel⟩
theorem am_InvalidTurn : ArgsM s_InvalidTurn "__init__" "InvalidTurn.__init__" ["self", "index"] := fun _ _ _ _ _ _ us h => match us, h with
  | [_, _], _ => rfl
theorem ak_InvalidTurn : ArgsK s_InvalidTurn "InvalidTurn.__init__" ["self", "index"] ["index"] [0] := fun _ _ _ _ _ _ _ ws h => match ws, h with
  | [_], _ => rfl
theorem eo_InvalidTurn (T : Txt K mg) : ErrO P w K mg base 1 "InvalidTurn" "index" := errO_of T.x_InvalidTurn T.y_InvalidTurn_index sc_InvalidTurn am_InvalidTurn (by first | exact Or.inl rfl | exact Or.inr rfl) (by first | exact Or.inl rfl | exact Or.inr rfl) rfl (fun _ => rfl)
theorem ek_InvalidTurn (T : Txt K mg) : ErrK P w K mg base 1 "InvalidTurn" "index" := errK_of T.x_InvalidTurn T.y_InvalidTurn_index sc_InvalidTurn ak_InvalidTurn (by first | exact Or.inl rfl | exact Or.inr rfl) (by first | exact Or.inl rfl | exact Or.inr rfl) rfl (fun _ => rfl)
theorem sc_NoMark : FnScope ["self", "name"] ["self", "name"] (defScope s_NoMark) := ⟨rfl, rfl, rfl, by decide +kernel, rfl, by decide +kernel, by decide +kernel⟩
theorem am_NoMark : ArgsM s_NoMark "__init__" "NoMark.__init__" ["self", "name"] := fun _ _ _ _ _ _ us h => match us, h with
  | [_, _], _ => rfl
theorem ak_NoMark : ArgsK s_NoMark "NoMark.__init__" ["self", "name"] ["name"] [0] := fun _ _ _ _ _ _ _ ws h => match ws, h with
  | [_], _ => rfl
theorem eo_NoMark (T : Txt K mg) : ErrO P w K mg base 1 "NoMark" "name" := errO_of T.x_NoMark T.y_NoMark_name sc_NoMark am_NoMark (by first | exact Or.inl rfl | exact Or.inr rfl) (by first | exact Or.inl rfl | exact Or.inr rfl) rfl (fun _ => rfl)
theorem ek_NoMark (T : Txt K mg) : ErrK P w K mg base 1 "NoMark" "name" := errK_of T.x_NoMark T.y_NoMark_name sc_NoMark ak_NoMark (by first | exact Or.inl rfl | exact Or.inr rfl) (by first | exact Or.inl rfl | exact Or.inr rfl) rfl (fun _ => rfl)
theorem sc_NoPair : FnScope ["self", "pair"] ["self", "pair"] (defScope s_NoPair) := ⟨rfl, rfl, rfl, by decide +kernel, rfl, by decide +kernel, by decide +kernel⟩
theorem am_NoPair : ArgsM s_NoPair "__init__" "NoPair.__init__" ["self", "pair"] := fun _ _ _ _ _ _ us h => match us, h with
  | [_, _], _ => rfl
theorem ak_NoPair : ArgsK s_NoPair "NoPair.__init__" ["self", "pair"] ["pair"] [0] := fun _ _ _ _ _ _ _ ws h => match ws, h with
  | [_], _ => rfl
theorem eo_NoPair (T : Txt K mg) : ErrO P w K mg base 1 "NoPair" "pair" := errO_of T.x_NoPair T.y_NoPair_pair sc_NoPair am_NoPair (by first | exact Or.inl rfl | exact Or.inr rfl) (by first | exact Or.inl rfl | exact Or.inr rfl) rfl (fun _ => rfl)
theorem ek_NoPair (T : Txt K mg) : ErrK P w K mg base 1 "NoPair" "pair" := errK_of T.x_NoPair T.y_NoPair_pair sc_NoPair ak_NoPair (by first | exact Or.inl rfl | exact Or.inr rfl) (by first | exact Or.inl rfl | exact Or.inr rfl) rfl (fun _ => rfl)
theorem sc_NoPipe : FnScope ["self", "name"] ["self", "name"] (defScope s_NoPipe) := ⟨rfl, rfl, rfl, by decide +kernel, rfl, by decide +kernel, by decide +kernel⟩
theorem am_NoPipe : ArgsM s_NoPipe "__init__" "NoPipe.__init__" ["self", "name"] := fun _ _ _ _ _ _ us h => match us, h with
  | [_, _], _ => rfl
theorem ak_NoPipe : ArgsK s_NoPipe "NoPipe.__init__" ["self", "name"] ["name"] [0] := fun _ _ _ _ _ _ _ ws h => match ws, h with
  | [_], _ => rfl
theorem eo_NoPipe (T : Txt K mg) : ErrO P w K mg base 1 "NoPipe" "name" := errO_of T.x_NoPipe T.y_NoPipe_name sc_NoPipe am_NoPipe (by first | exact Or.inl rfl | exact Or.inr rfl) (by first | exact Or.inl rfl | exact Or.inr rfl) rfl (fun _ => rfl)
theorem ek_NoPipe (T : Txt K mg) : ErrK P w K mg base 1 "NoPipe" "name" := errK_of T.x_NoPipe T.y_NoPipe_name sc_NoPipe ak_NoPipe (by first | exact Or.inl rfl | exact Or.inr rfl) (by first | exact Or.inl rfl | exact Or.inr rfl) rfl (fun _ => rfl)
theorem sc_NoStep : FnScope ["self", "index"] ["self", "index"] (defScope s_NoStep) := ⟨rfl, rfl, rfl, by decide +kernel, rfl, by decide +kernel, by decide +kernel⟩
theorem am_NoStep : ArgsM s_NoStep "__init__" "NoStep.__init__" ["self", "index"] := fun _ _ _ _ _ _ us h => match us, h with
  | [_, _], _ => rfl
theorem ak_NoStep : ArgsK s_NoStep "NoStep.__init__" ["self", "index"] ["index"] [0] := fun _ _ _ _ _ _ _ ws h => match ws, h with
  | [_], _ => rfl
theorem eo_NoStep (T : Txt K mg) : ErrO P w K mg base 1 "NoStep" "index" := errO_of T.x_NoStep T.y_NoStep_index sc_NoStep am_NoStep (by first | exact Or.inl rfl | exact Or.inr rfl) (by first | exact Or.inl rfl | exact Or.inr rfl) rfl (fun _ => rfl)
theorem ek_NoStep (T : Txt K mg) : ErrK P w K mg base 1 "NoStep" "index" := errK_of T.x_NoStep T.y_NoStep_index sc_NoStep ak_NoStep (by first | exact Or.inl rfl | exact Or.inr rfl) (by first | exact Or.inl rfl | exact Or.inr rfl) rfl (fun _ => rfl)
theorem sc_NotStuck : FnScope ["self", "pair"] ["self", "pair"] (defScope s_NotStuck) := ⟨rfl, rfl, rfl, by decide +kernel, rfl, by decide +kernel, by decide +kernel⟩
theorem am_NotStuck : ArgsM s_NotStuck "__init__" "NotStuck.__init__" ["self", "pair"] := fun _ _ _ _ _ _ us h => match us, h with
  | [_, _], _ => rfl
theorem ak_NotStuck : ArgsK s_NotStuck "NotStuck.__init__" ["self", "pair"] ["pair"] [0] := fun _ _ _ _ _ _ _ ws h => match ws, h with
  | [_], _ => rfl
theorem eo_NotStuck (T : Txt K mg) : ErrO P w K mg base 1 "NotStuck" "pair" := errO_of T.x_NotStuck T.y_NotStuck_pair sc_NotStuck am_NotStuck (by first | exact Or.inl rfl | exact Or.inr rfl) (by first | exact Or.inl rfl | exact Or.inr rfl) rfl (fun _ => rfl)
theorem ek_NotStuck (T : Txt K mg) : ErrK P w K mg base 1 "NotStuck" "pair" := errK_of T.x_NotStuck T.y_NotStuck_pair sc_NotStuck ak_NotStuck (by first | exact Or.inl rfl | exact Or.inr rfl) (by first | exact Or.inl rfl | exact Or.inr rfl) rfl (fun _ => rfl)
theorem sc_NothingToRedo : FnScope ["self", "count"] ["self", "count"] (defScope s_NothingToRedo) := ⟨rfl, rfl, rfl, by decide +kernel, rfl, by decide +kernel, by decide +kernel⟩
theorem am_NothingToRedo : ArgsM s_NothingToRedo "__init__" "NothingToRedo.__init__" ["self", "count"] := fun _ _ _ _ _ _ us h => match us, h with
  | [_, _], _ => rfl
theorem ak_NothingToRedo : ArgsK s_NothingToRedo "NothingToRedo.__init__" ["self", "count"] ["count"] [0] := fun _ _ _ _ _ _ _ ws h => match ws, h with
  | [_], _ => rfl
theorem eo_NothingToRedo (T : Txt K mg) : ErrO P w K mg base 1 "NothingToRedo" "count" := errO_of T.x_NothingToRedo T.y_NothingToRedo_count sc_NothingToRedo am_NothingToRedo (by first | exact Or.inl rfl | exact Or.inr rfl) (by first | exact Or.inl rfl | exact Or.inr rfl) rfl (fun _ => rfl)
theorem ek_NothingToRedo (T : Txt K mg) : ErrK P w K mg base 1 "NothingToRedo" "count" := errK_of T.x_NothingToRedo T.y_NothingToRedo_count sc_NothingToRedo ak_NothingToRedo (by first | exact Or.inl rfl | exact Or.inr rfl) (by first | exact Or.inl rfl | exact Or.inr rfl) rfl (fun _ => rfl)
theorem sc_NothingToUndo : FnScope ["self", "count"] ["self", "count"] (defScope s_NothingToUndo) := ⟨rfl, rfl, rfl, by decide +kernel, rfl, by decide +kernel, by decide +kernel⟩
theorem am_NothingToUndo : ArgsM s_NothingToUndo "__init__" "NothingToUndo.__init__" ["self", "count"] := fun _ _ _ _ _ _ us h => match us, h with
  | [_, _], _ => rfl
theorem ak_NothingToUndo : ArgsK s_NothingToUndo "NothingToUndo.__init__" ["self", "count"] ["count"] [0] := fun _ _ _ _ _ _ _ ws h => match ws, h with
  | [_], _ => rfl
theorem eo_NothingToUndo (T : Txt K mg) : ErrO P w K mg base 1 "NothingToUndo" "count" := errO_of T.x_NothingToUndo T.y_NothingToUndo_count sc_NothingToUndo am_NothingToUndo (by first | exact Or.inl rfl | exact Or.inr rfl) (by first | exact Or.inl rfl | exact Or.inr rfl) rfl (fun _ => rfl)
theorem ek_NothingToUndo (T : Txt K mg) : ErrK P w K mg base 1 "NothingToUndo" "count" := errK_of T.x_NothingToUndo T.y_NothingToUndo_count sc_NothingToUndo ak_NothingToUndo (by first | exact Or.inl rfl | exact Or.inr rfl) (by first | exact Or.inl rfl | exact Or.inr rfl) rfl (fun _ => rfl)
theorem sc_Ringed : FnScope ["self", "members"] ["self", "members"] (defScope s_Ringed) := ⟨rfl, rfl, rfl, by decide +kernel, rfl, by decide +kernel, by decide +kernel⟩
theorem am_Ringed : ArgsM s_Ringed "__init__" "Ringed.__init__" ["self", "members"] := fun _ _ _ _ _ _ us h => match us, h with
  | [_, _], _ => rfl
theorem ak_Ringed : ArgsK s_Ringed "Ringed.__init__" ["self", "members"] ["members"] [0] := fun _ _ _ _ _ _ _ ws h => match ws, h with
  | [_], _ => rfl
theorem eo_Ringed (T : Txt K mg) : ErrO P w K mg base 1 "Ringed" "members" := errO_of T.x_Ringed T.y_Ringed_members sc_Ringed am_Ringed (by first | exact Or.inl rfl | exact Or.inr rfl) (by first | exact Or.inl rfl | exact Or.inr rfl) rfl (fun _ => rfl)
theorem ek_Ringed (T : Txt K mg) : ErrK P w K mg base 1 "Ringed" "members" := errK_of T.x_Ringed T.y_Ringed_members sc_Ringed ak_Ringed (by first | exact Or.inl rfl | exact Or.inr rfl) (by first | exact Or.inl rfl | exact Or.inr rfl) rfl (fun _ => rfl)
theorem sc_SamePipe : FnScope ["self", "index"] ["self", "index"] (defScope s_SamePipe) := ⟨rfl, rfl, rfl, by decide +kernel, rfl, by decide +kernel, by decide +kernel⟩
theorem am_SamePipe : ArgsM s_SamePipe "__init__" "SamePipe.__init__" ["self", "index"] := fun _ _ _ _ _ _ us h => match us, h with
  | [_, _], _ => rfl
theorem ak_SamePipe : ArgsK s_SamePipe "SamePipe.__init__" ["self", "index"] ["index"] [0] := fun _ _ _ _ _ _ _ ws h => match ws, h with
  | [_], _ => rfl
theorem eo_SamePipe (T : Txt K mg) : ErrO P w K mg base 1 "SamePipe" "index" := errO_of T.x_SamePipe T.y_SamePipe_index sc_SamePipe am_SamePipe (by first | exact Or.inl rfl | exact Or.inr rfl) (by first | exact Or.inl rfl | exact Or.inr rfl) rfl (fun _ => rfl)
theorem ek_SamePipe (T : Txt K mg) : ErrK P w K mg base 1 "SamePipe" "index" := errK_of T.x_SamePipe T.y_SamePipe_index sc_SamePipe ak_SamePipe (by first | exact Or.inl rfl | exact Or.inr rfl) (by first | exact Or.inl rfl | exact Or.inr rfl) rfl (fun _ => rfl)
theorem sc_Starved : FnScope ["self", "pair"] ["self", "pair"] (defScope s_Starved) := ⟨rfl, rfl, rfl, by decide +kernel, rfl, by decide +kernel, by decide +kernel⟩
theorem am_Starved : ArgsM s_Starved "__init__" "Starved.__init__" ["self", "pair"] := fun _ _ _ _ _ _ us h => match us, h with
  | [_, _], _ => rfl
theorem ak_Starved : ArgsK s_Starved "Starved.__init__" ["self", "pair"] ["pair"] [0] := fun _ _ _ _ _ _ _ ws h => match ws, h with
  | [_], _ => rfl
theorem eo_Starved (T : Txt K mg) : ErrO P w K mg base 1 "Starved" "pair" := errO_of T.x_Starved T.y_Starved_pair sc_Starved am_Starved (by first | exact Or.inl rfl | exact Or.inr rfl) (by first | exact Or.inl rfl | exact Or.inr rfl) rfl (fun _ => rfl)
theorem ek_Starved (T : Txt K mg) : ErrK P w K mg base 1 "Starved" "pair" := errK_of T.x_Starved T.y_Starved_pair sc_Starved ak_Starved (by first | exact Or.inl rfl | exact Or.inr rfl) (by first | exact Or.inl rfl | exact Or.inr rfl) rfl (fun _ => rfl)
theorem sc_TooMany : FnScope ["self", "most"] ["self", "most"] (defScope s_TooMany) := ⟨rfl, rfl, rfl, by decide +kernel, rfl, by decide +kernel, by decide +kernel⟩
theorem am_TooMany : ArgsM s_TooMany "__init__" "TooMany.__init__" ["self", "most"] := fun _ _ _ _ _ _ us h => match us, h with
  | [_, _], _ => rfl
theorem ak_TooMany : ArgsK s_TooMany "TooMany.__init__" ["self", "most"] ["most"] [0] := fun _ _ _ _ _ _ _ ws h => match ws, h with
  | [_], _ => rfl
theorem eo_TooMany (T : Txt K mg) : ErrO P w K mg base 1 "TooMany" "most" := errO_of T.x_TooMany T.y_TooMany_most sc_TooMany am_TooMany (by first | exact Or.inl rfl | exact Or.inr rfl) (by first | exact Or.inl rfl | exact Or.inr rfl) rfl (fun _ => rfl)
theorem ek_TooMany (T : Txt K mg) : ErrK P w K mg base 1 "TooMany" "most" := errK_of T.x_TooMany T.y_TooMany_most sc_TooMany ak_TooMany (by first | exact Or.inl rfl | exact Or.inr rfl) (by first | exact Or.inl rfl | exact Or.inr rfl) rfl (fun _ => rfl)
theorem sc_UnknownCommand : FnScope ["self", "command"] ["self", "command"] (defScope s_UnknownCommand) := ⟨rfl, rfl, rfl, by decide +kernel, rfl, by decide +kernel, by decide +kernel⟩
theorem am_UnknownCommand : ArgsM s_UnknownCommand "__init__" "UnknownCommand.__init__" ["self", "command"] := fun _ _ _ _ _ _ us h => match us, h with
  | [_, _], _ => rfl
theorem ak_UnknownCommand : ArgsK s_UnknownCommand "UnknownCommand.__init__" ["self", "command"] ["command"] [0] := fun _ _ _ _ _ _ _ ws h => match ws, h with
  | [_], _ => rfl
theorem eo_UnknownCommand (T : Txt K mg) : ErrO P w K mg base 1 "UnknownCommand" "command" := errO_of T.x_UnknownCommand T.y_UnknownCommand_command sc_UnknownCommand am_UnknownCommand (by first | exact Or.inl rfl | exact Or.inr rfl) (by first | exact Or.inl rfl | exact Or.inr rfl) rfl (fun _ => rfl)
theorem ek_UnknownCommand (T : Txt K mg) : ErrK P w K mg base 1 "UnknownCommand" "command" := errK_of T.x_UnknownCommand T.y_UnknownCommand_command sc_UnknownCommand ak_UnknownCommand (by first | exact Or.inl rfl | exact Or.inr rfl) (by first | exact Or.inl rfl | exact Or.inr rfl) rfl (fun _ => rfl)
/-! ### _law_pen -/
noncomputable abbrev N_law_pen : List Str := ["_law_script"]
theorem sc_law_pen : FnScope N_law_pen ["_law_script"] (defScope s_law_pen) := ⟨rfl, rfl, rfl, by decide +kernel, rfl, by decide +kernel, by decide +kernel⟩
theorem at_law_pen : ArgsTo s_law_pen "_law_pen" ["_law_script"] := fun _ _ _ _ _ _ us ws h => match us, ws, h with
  | [], [_], _ => rfl
  | [_], [], _ => rfl
noncomputable def m_law_pen : MS :=
  (mRetW (mWLst (mWCons (mLf (mCB dList (mCons (mSl (mVar 0) (mC none) (mPart (mC (.int 63)))) mNil))) (mWCons (mLf (mC (.int 0))) (mWCons (mLf (mC (.int 0))) mWNil)))))
noncomputable def f_law_pen : List D → Option AV := fnP N_law_pen 1 m_law_pen
theorem k_law_pen (T : Txt K mg) (hG : G.K = K) (hcl : G.cls = clsOf K) (hp : G.pl = plT) (hs : ∃ o, base.get? sysModules = some o) : Cao P w K mg base 1 "_law_pen" ["_law_script"] (SpP G f_law_pen) := by
  subst hG
  have sc := sc_law_pen
  refine caoP (k := 0) T.d_law_pen sc at_law_pen (fun f cdv A outer s H E hr => ?_)
  refine ⟨_, (pss_one (ps_ret (pe_lst (pa_cons (pe_callTy (listK (K := G.K) rfl) (by rfl) T.n_list (by decide +kernel) (pa_cons (pe_slice (slK (K := G.K) rfl) (pv 0) po_none (po_some pe_int)) pa_nil)) (pa_cons pe_int (pa_cons pe_int pa_nil)))))), ?_⟩
  unfold m_law_pen
  exact (es_retW (ew_lst (ew_cons (ew_leaf (ev_cb cd_list (ea_cons (ev_sl (ev_var 0) eo_none (eo_some (ev_int 63))) ea_nil))) (ew_cons (ew_leaf (ev_int 0)) (ew_cons (ew_leaf (ev_int 0)) ew_nil)))))
/-! ### _law_draw -/
noncomputable abbrev N_law_draw : List Str := ["_law_pen_here", "_law_many", "_law_turn", "_law_cell", "_law_mash", "_law_digit", "_law_great"]
theorem sc_law_draw : FnScope N_law_draw ["_law_pen_here", "_law_many"] (defScope s_law_draw) := ⟨rfl, rfl, rfl, by decide +kernel, rfl, by decide +kernel, by decide +kernel⟩
theorem at_law_draw : ArgsTo s_law_draw "_law_draw" ["_law_pen_here", "_law_many"] := fun _ _ _ _ _ _ us ws h => match us, ws, h with
  | [], [_, _], _ => rfl
  | [_], [_], _ => rfl
  | [_, _], [], _ => rfl
noncomputable def m_law_draw : MS :=
  (mSeq (mIf (mTB (mOp (pur dGt) (mLeaf 0 (mPIxC 0 2 (mPV 0))) (mC (.int 0)))) (mSeq (mAsg (mOp (pur dMod) (mLeaf 0 (mPIxC 0 2 (mPV 0))) (mVar 1)) (gSet 5))
    (mSeq (mPutP 0 (mPV 0) (mC (.int 2)) (mOp (pur dFdiv) (mLeaf 0 (mPIxC 0 2 (mPV 0))) (mVar 1)))
    (mRet (mVar 5)))) mNext)
    (mSeq (mAsg (mLeaf 0 (mPIxC 0 1 (mPV 0))) (gSet 2))
    (mSeq (mPutP 0 (mPV 0) (mC (.int 1)) (mOp (pur dAdd) (mVar 2) (mC (.int 1))))
    (mSeq (mAsg (mOp (pur dAdd) (mOp (pur dMul) (mC (.int 7121)) (mVar 2)) (mC (.int 31))) (gSet 3))
    (mSeq (mIf (mTB (mOp (pur dNeX) (mLeaf 0 (mPIxC 0 0 (mPV 0))) (mLst mNil))) (mAsg (mOp (pur dIx) (mLeaf 0 (mPIxC 0 0 (mPV 0))) (mOp (pur dMod) (mVar 2) (mCB dLen (mCons (mLeaf 0 (mPIxC 0 0 (mPV 0))) mNil)))) (gSet 3)) mNext)
    (mSeq (mIf (mAnd (mTB (mOp (pur dLt) (mVar 2) (mCB dLen (mCons (mLeaf 0 (mPIxC 0 0 (mPV 0))) mNil)))) (mTB (mOp (pur dGe) (mCB dAbs (mCons (mVar 3) mNil)) (mOp (pur dPow) (mC (.int 10)) (mC (.int 18)))))) (mSeq (mAsg (mOp (pur dAdd) (mOp (pur dMul) (mC (.int 2)) (mOp (pur dSub) (mCB dAbs (mCons (mVar 3) mNil)) (mOp (pur dPow) (mC (.int 10)) (mC (.int 18))))) (mCB dInt (mCons (mOp (pur dLt) (mVar 3) (mC (.int 0))) mNil))) (gSet 6))
    (mSeq (mPutP 0 (mPV 0) (mC (.int 2)) (mOp (pur dFdiv) (mVar 6) (mVar 1)))
    (mRet (mOp (pur dMod) (mVar 6) (mVar 1))))) mNext)
    (mSeq (mAsg (mOp (pur dMod) (mOp (pur dPow) (mOp (pur dAdd) (mOp (pur dAdd) (mOp (pur dAdd) (mOp (pur dMod) (mVar 3) (mC (.int 2147483477))) (mOp (pur dMul) (mOp (pur dMul) (mC (.int 30011)) (mVar 2)) (mVar 2))) (mOp (pur dMul) (mC (.int 20011)) (mVar 2))) (mC (.int 7))) (mC (.int 3))) (mC (.int 2147483647))) (gSet 4))
    (mSeq (mAsg (mOp (pur dMod) (mOp (pur dPow) (mOp (pur dAdd) (mOp (pur dAdd) (mOp (pur dMul) (mVar 4) (mOp (pur dAdd) (mOp (pur dMul) (mC (.int 2)) (mVar 2)) (mC (.int 15)))) (mOp (pur dMul) (mC (.int 50021)) (mVar 2))) (mC (.int 3))) (mC (.int 5))) (mC (.int 2147483563))) (gSet 4))
    (mRet (mOp (pur dMod) (mOp (pur dFdiv) (mVar 4) (mC (.int 32))) (mVar 1)))))))))))
noncomputable def f_law_draw : OT → List D → Option (AV × OT) := fnI N_law_draw 2 m_law_draw
theorem k_law_draw (T : Txt K mg) (hG : G.K = K) (hcl : G.cls = clsOf K) (hp : G.pl = plT) (hs : ∃ o, base.get? sysModules = some o) : Cao P w K mg base 1 "_law_draw" ["_law_pen_here", "_law_many"] (SpI G f_law_draw) := by
  subst hG
  have sc := sc_law_draw
  refine caoI (k := 0) T.d_law_draw sc at_law_draw (fun f cdv A outer s H E hr => ?_)
  refine ⟨_, (pss_cons (ps_if (pt_cmpR op_gtA (pe_ix (ixK (K := G.K) rfl) (pv 0) pe_int (fun _ _ => rfl)) pe_int (nomark _)) (pss_cons (ps_set (i := 5) sc.nd rfl (Or.inl rfl) (pe_op op_modN (pe_ix (ixK (K := G.K) rfl) (pv 0) pe_int (fun _ _ => rfl)) (pv 1)))
    (pss_cons (ps_asg (pe_op op_fdivN (pe_ix (ixK (K := G.K) rfl) (pv 0) pe_int (fun _ _ => rfl)) (pv 1)) (pg_sub (pv 0) pe_int set_list))
    (pss_one (ps_ret (pv 5))))) pss_nil)
    (pss_cons (ps_set (i := 2) sc.nd rfl (Or.inl rfl) (pe_ix (ixK (K := G.K) rfl) (pv 0) pe_int (fun _ _ => rfl)))
    (pss_cons (ps_asg (pe_op (addK (K := G.K) rfl) (pv 2) pe_int) (pg_sub (pv 0) pe_int set_list))
    (pss_cons (ps_set (i := 3) sc.nd rfl (Or.inl rfl) (pe_op (addK (K := G.K) rfl) (pe_op op_mul pe_int (pv 2)) pe_int))
    (pss_cons (ps_if (pt_cmpR (neK (K := G.K) rfl hr) (pe_ix (ixK (K := G.K) rfl) (pv 0) pe_int (fun _ _ => rfl)) (pe_lst pa_nil) (nomark _)) (pss_one (ps_set (i := 3) sc.nd rfl (Or.inl rfl) (pe_ix (ixK (K := G.K) rfl) (pe_ix (ixK (K := G.K) rfl) (pv 0) pe_int (fun _ _ => rfl)) (pe_op op_modN (pv 2) (pe_callB (lenK (K := G.K) rfl) (by rfl) T.n_len PySem.boot_len (pa_cons (pe_ix (ixK (K := G.K) rfl) (pv 0) pe_int (fun _ _ => rfl)) pa_nil))) (fun _ _ => rfl)))) pss_nil)
    (pss_cons (ps_if (PW.pt (pw_and (pt_cmpR op_ltA (pv 2) (pe_callB (lenK (K := G.K) rfl) (by rfl) T.n_len PySem.boot_len (pa_cons (pe_ix (ixK (K := G.K) rfl) (pv 0) pe_int (fun _ _ => rfl)) pa_nil)) (nomark _)) (pw_and1 (pt_cmpR op_geA (pe_callB call_abs (by rfl) T.n_abs (by decide +kernel) (pa_cons (pv 3) pa_nil)) (pe_op op_pow pe_int pe_int) (nomark _))))) (pss_cons (ps_set (i := 6) sc.nd rfl (Or.inl rfl) (pe_op (addK (K := G.K) rfl) (pe_op op_mul pe_int (pe_op op_sub (pe_callB call_abs (by rfl) T.n_abs (by decide +kernel) (pa_cons (pv 3) pa_nil)) (pe_op op_pow pe_int pe_int))) (pe_callTy call_int1 (by rfl) T.n_int (by decide +kernel) (pa_cons (pe_cmpR op_ltA (pv 3) pe_int (nomark _)) pa_nil))))
    (pss_cons (ps_asg (pe_op op_fdivN (pv 6) (pv 1)) (pg_sub (pv 0) pe_int set_list))
    (pss_one (ps_ret (pe_op op_modN (pv 6) (pv 1)))))) pss_nil)
    (pss_cons (ps_set (i := 4) sc.nd rfl (Or.inl rfl) (pe_op op_modN (pe_op op_pow (pe_op (addK (K := G.K) rfl) (pe_op (addK (K := G.K) rfl) (pe_op (addK (K := G.K) rfl) (pe_op op_modN (pv 3) pe_int) (pe_op op_mul (pe_op op_mul pe_int (pv 2)) (pv 2))) (pe_op op_mul pe_int (pv 2))) pe_int) pe_int) pe_int))
    (pss_cons (ps_set (i := 4) sc.nd rfl (Or.inl rfl) (pe_op op_modN (pe_op op_pow (pe_op (addK (K := G.K) rfl) (pe_op (addK (K := G.K) rfl) (pe_op op_mul (pv 4) (pe_op (addK (K := G.K) rfl) (pe_op op_mul pe_int (pv 2)) pe_int)) (pe_op op_mul pe_int (pv 2))) pe_int) pe_int) pe_int))
    (pss_one (ps_ret (pe_op op_modN (pe_op op_fdivN (pv 4) pe_int) (pv 1)))))))))))), ?_⟩
  unfold m_law_draw
  exact (es_seq (es_if (et_B (ev_op od_gt (ev_leaf (ep_ixC 2 (ep_var 0))) (ev_int 0))) (es_seq (es_asg (ev_op od_mod (ev_leaf (ep_ixC 2 (ep_var 0))) (ev_var 1)) (eg_name 5))
    (es_seq (es_putP (ep_var 0) (ev_op od_fdiv (ev_leaf (ep_ixC 2 (ep_var 0))) (ev_var 1)) (ev_int 2))
    (es_ret (ev_var 5)))) es_next)
    (es_seq (es_asg (ev_leaf (ep_ixC 1 (ep_var 0))) (eg_name 2))
    (es_seq (es_putP (ep_var 0) (ev_op od_add (ev_var 2) (ev_int 1)) (ev_int 1))
    (es_seq (es_asg (ev_op od_add (ev_op od_mul (ev_int 7121) (ev_var 2)) (ev_int 31)) (eg_name 3))
    (es_seq (es_if (et_B (ev_op od_neX (ev_leaf (ep_ixC 0 (ep_var 0))) (ev_lst ea_nil))) (es_asg (ev_op od_ix (ev_leaf (ep_ixC 0 (ep_var 0))) (ev_op od_mod (ev_var 2) (ev_cb cd_len (ea_cons (ev_leaf (ep_ixC 0 (ep_var 0))) ea_nil)))) (eg_name 3)) es_next)
    (es_seq (es_if (et_and (et_B (ev_op od_lt (ev_var 2) (ev_cb cd_len (ea_cons (ev_leaf (ep_ixC 0 (ep_var 0))) ea_nil)))) (et_B (ev_op od_ge (ev_cb cd_abs (ea_cons (ev_var 3) ea_nil)) (ev_op od_pow (ev_int 10) (ev_int 18))))) (es_seq (es_asg (ev_op od_add (ev_op od_mul (ev_int 2) (ev_op od_sub (ev_cb cd_abs (ea_cons (ev_var 3) ea_nil)) (ev_op od_pow (ev_int 10) (ev_int 18)))) (ev_cb cd_int (ea_cons (ev_op od_lt (ev_var 3) (ev_int 0)) ea_nil))) (eg_name 6))
    (es_seq (es_putP (ep_var 0) (ev_op od_fdiv (ev_var 6) (ev_var 1)) (ev_int 2))
    (es_ret (ev_op od_mod (ev_var 6) (ev_var 1))))) es_next)
    (es_seq (es_asg (ev_op od_mod (ev_op od_pow (ev_op od_add (ev_op od_add (ev_op od_add (ev_op od_mod (ev_var 3) (ev_int 2147483477)) (ev_op od_mul (ev_op od_mul (ev_int 30011) (ev_var 2)) (ev_var 2))) (ev_op od_mul (ev_int 20011) (ev_var 2))) (ev_int 7)) (ev_int 3)) (ev_int 2147483647)) (eg_name 4))
    (es_seq (es_asg (ev_op od_mod (ev_op od_pow (ev_op od_add (ev_op od_add (ev_op od_mul (ev_var 4) (ev_op od_add (ev_op od_mul (ev_int 2) (ev_var 2)) (ev_int 15))) (ev_op od_mul (ev_int 50021) (ev_var 2))) (ev_int 3)) (ev_int 5)) (ev_int 2147483563)) (eg_name 4))
    (es_ret (ev_op od_mod (ev_op od_fdiv (ev_var 4) (ev_int 32)) (ev_var 1)))))))))))
/-! ### _law_odd -/
noncomputable abbrev N_law_odd : List Str := ["_law_pen_here", "_law_some"]
theorem sc_law_odd : FnScope N_law_odd ["_law_pen_here"] (defScope s_law_odd) := ⟨rfl, rfl, rfl, by decide +kernel, rfl, by decide +kernel, by decide +kernel⟩
theorem at_law_odd : ArgsTo s_law_odd "_law_odd" ["_law_pen_here"] := fun _ _ _ _ _ _ us ws h => match us, ws, h with
  | [], [_], _ => rfl
  | [_], [], _ => rfl
noncomputable def m_law_odd : MS :=
  (mSeq (mAsg (mLst (mCons (mC .non) (mCons (mC (.bl true)) (mCons (mC (.bl false)) (mCons (mC (.int 0)) (mCons (mUn dNeg (mC (.int 1))) (mCons (mC (.str "")) (mCons (mC (.str "a")) (mCons (mC (.str "A")) (mCons (mC (.str "a\n")) (mCons (mC (.str "abcdefghi")) (mCons (mC (.str "abcdefgh")) (mCons (mC (.str "self")) (mCons (mTup mNil) (mCons (mLst mNil) (mCons (mC (.dct [])) (mCons (mTup (mCons (mC (.str "a")) mNil)) mNil))))))))))))))))) (gSet 1))
    (mSeq (mAsg (mOp (pur dAdd) (mVar 1) (mLst (mCons (mOp (pur dPow) (mC (.int 10)) (mC (.int 18))) (mCons (mOp (pur dAdd) (mOp (pur dPow) (mC (.int 10)) (mC (.int 18))) (mC (.int 1))) (mCons (mOp (pur dSub) (mOp (pur dSub) (mC (.int 0)) (mOp (pur dPow) (mC (.int 10)) (mC (.int 18)))) (mC (.int 1))) (mCons (mOp (pur dAdd) (mOp (pur dPow) (mC (.int 10)) (mC (.int 40))) (mC (.int 1))) (mCons (mC (.str "get")) (mCons (mLst (mCons (mC (.str "get")) (mCons (mC (.str "a")) mNil))) (mCons (mDict1 "a" (mC (.int 1))) (mCons (mTup (mCons (mC (.str "put")) (mCons (mC (.str "a")) mNil))) mNil)))))))))) (gSet 1))
    (mRet (mOp (pur dIx) (mOp (pur dAdd) (mVar 1) (mLst (mCons (mC (.str "F")) (mCons (mC (.str "S")) (mCons (mC (.str "f")) (mCons (mTup (mCons (mC (.str "F")) mNil)) (mCons (mOp (pur dMulW) (mOp (pur dPow) (mC (.int 10)) (mC (.int 50))) (mOp (pur dPow) (mC (.int 10)) (mC (.int 49)))) (mCons (mC (.int 1)) mNil)))))))) (mCallI f_law_draw 0 (mPV 0) (mCons (mC (.int 30)) mNil))))))
noncomputable def f_law_odd : OT → List D → Option (AV × OT) := fnI N_law_odd 1 m_law_odd
theorem k_law_odd (T : Txt K mg) (hG : G.K = K) (hcl : G.cls = clsOf K) (hp : G.pl = plT) (hs : ∃ o, base.get? sysModules = some o) (c_law_draw : Cao P w K mg base 1 "_law_draw" ["_law_pen_here", "_law_many"] (SpI G f_law_draw)) : Cao P w K mg base 2 "_law_odd" ["_law_pen_here"] (SpI G f_law_odd) := by
  subst hG
  have sc := sc_law_odd
  refine caoI (k := 1) T.d_law_odd sc at_law_odd (fun f cdv A outer s H E hr => ?_)
  refine ⟨_, (pss_cons (ps_set (i := 1) sc.nd rfl (Or.inl rfl) (pe_lst (pa_cons pe_non (pa_cons pe_bl (pa_cons pe_bl (pa_cons pe_int (pa_cons (pe_un un_neg pe_int) (pa_cons pe_str (pa_cons pe_str (pa_cons pe_str (pa_cons pe_str (pa_cons pe_str (pa_cons pe_str (pa_cons pe_str (pa_cons (pe_tup pa_nil) (pa_cons (pe_lst pa_nil) (pa_cons pe_dnewK (pa_cons (pe_tup (pa_cons pe_str pa_nil)) pa_nil))))))))))))))))))
    (pss_cons (ps_set (i := 1) sc.nd rfl (Or.inl rfl) (pe_op (addK (K := G.K) rfl) (pv 1) (pe_lst (pa_cons (pe_op op_pow pe_int pe_int) (pa_cons (pe_op (addK (K := G.K) rfl) (pe_op op_pow pe_int pe_int) pe_int) (pa_cons (pe_op op_sub (pe_op op_sub pe_int (pe_op op_pow pe_int pe_int)) pe_int) (pa_cons (pe_op (addK (K := G.K) rfl) (pe_op op_pow pe_int pe_int) pe_int) (pa_cons pe_str (pa_cons (pe_lst (pa_cons pe_str (pa_cons pe_str pa_nil))) (pa_cons (pe_disp (pps_cons pe_str pe_int pps_nil) (by rfl) (by rfl) (fun z => by cases z) (by decide)) (pa_cons (pe_tup (pa_cons pe_str (pa_cons pe_str pa_nil))) pa_nil)))))))))))
    (pss_one (ps_ret (pe_ix (ixK (K := G.K) rfl) (pe_op (addK (K := G.K) rfl) (pv 1) (pe_lst (pa_cons pe_str (pa_cons pe_str (pa_cons pe_str (pa_cons (pe_tup (pa_cons pe_str pa_nil)) (pa_cons (pe_op op_mulW (pe_op op_pow pe_int pe_int) (pe_op op_pow pe_int pe_int)) (pa_cons pe_int pa_nil)))))))) (callO c_law_draw ⟨rfl, rfl, rfl, rfl, rfl⟩ hr (pa_cons (pv 0) (pa_cons pe_int pa_nil))) (fun _ _ => rfl)))))), ?_⟩
  unfold m_law_odd
  exact (es_seq (es_asg (ev_lst (ea_cons ev_non (ea_cons (ev_bl true) (ea_cons (ev_bl false) (ea_cons (ev_int 0) (ea_cons (ev_neg (ev_int 1)) (ea_cons (ev_str "") (ea_cons (ev_str "a") (ea_cons (ev_str "A") (ea_cons (ev_str "a\n") (ea_cons (ev_str "abcdefghi") (ea_cons (ev_str "abcdefgh") (ea_cons (ev_str "self") (ea_cons (ev_tup ea_nil) (ea_cons (ev_lst ea_nil) (ea_cons ev_d0 (ea_cons (ev_tup (ea_cons (ev_str "a") ea_nil)) ea_nil))))))))))))))))) (eg_name 1))
    (es_seq (es_asg (ev_op od_add (ev_var 1) (ev_lst (ea_cons (ev_op od_pow (ev_int 10) (ev_int 18)) (ea_cons (ev_op od_add (ev_op od_pow (ev_int 10) (ev_int 18)) (ev_int 1)) (ea_cons (ev_op od_sub (ev_op od_sub (ev_int 0) (ev_op od_pow (ev_int 10) (ev_int 18))) (ev_int 1)) (ea_cons (ev_op od_add (ev_op od_pow (ev_int 10) (ev_int 40)) (ev_int 1)) (ea_cons (ev_str "get") (ea_cons (ev_lst (ea_cons (ev_str "get") (ea_cons (ev_str "a") ea_nil))) (ea_cons (ev_d1 "a" (ev_int 1)) (ea_cons (ev_tup (ea_cons (ev_str "put") (ea_cons (ev_str "a") ea_nil))) ea_nil)))))))))) (eg_name 1))
    (es_ret (ev_op od_ix (ev_op od_add (ev_var 1) (ev_lst (ea_cons (ev_str "F") (ea_cons (ev_str "S") (ea_cons (ev_str "f") (ea_cons (ev_tup (ea_cons (ev_str "F") ea_nil)) (ea_cons (ev_op od_mulW (ev_op od_pow (ev_int 10) (ev_int 50)) (ev_op od_pow (ev_int 10) (ev_int 49))) (ea_cons (ev_int 1) ea_nil)))))))) (ev_callI (ep_var 0) (ea_cons (ev_int 30) ea_nil))))))
/-! ### _law_errors -/
noncomputable abbrev N_law_errors : List Str := ["_law_one", "_law_two", "_law_made"]
theorem sc_law_errors : FnScope N_law_errors ["_law_one", "_law_two"] (defScope s_law_errors) := ⟨rfl, rfl, rfl, by decide +kernel, rfl, by decide +kernel, by decide +kernel⟩
theorem at_law_errors : ArgsTo s_law_errors "_law_errors" ["_law_one", "_law_two"] := fun _ _ _ _ _ _ us ws h => match us, ws, h with
  | [], [_, _], _ => rfl
  | [_], [_], _ => rfl
  | [_, _], [], _ => rfl
noncomputable def m_law_errors : MS :=
  (mSeq (mAsg (mLst (mCons (mMk1 "InvalidProgram" "index" (mVar 0)) (mCons (mMk1 "InvalidDuo" "pipe" (mVar 0)) (mCons (mMk1 "InvalidSize" "name" (mVar 0)) (mCons (mMk1 "InvalidTerms" "name" (mVar 0)) (mCons (mMk1 "InvalidTurn" "index" (mVar 0)) mNil)))))) (gSet 2))
    (mSeq (mAsg (mOp (pur dAdd) (mVar 2) (mLst (mCons (mMk1 "InvalidGuide" "pair" (mVar 0)) (mCons (mMk1 "InvalidTeam" "pipe" (mVar 0)) (mCons (mMk1 "InvalidRounds" "number" (mVar 0)) (mCons (mMk1 "InvalidDurations" "letter" (mVar 0)) mNil)))))) (gSet 2))
    (mSeq (mAsg (mOp (pur dAdd) (mVar 2) (mLst (mCons (mMk1 "InvalidLetter" "letter" (mVar 0)) (mCons (mMk1 "InvalidEdit" "index" (mVar 0)) mNil)))) (gSet 2))
    (mSeq (mAsg (mOp (pur dAdd) (mVar 2) (mLst (mCons (mMk1 "InvalidLimit" "number" (mVar 0)) (mCons (mMk2 "InvalidText" "line" "word" (mCons (mVar 0) (mCons (mVar 1) mNil))) (mCons (mMk1 "Ringed" "members" (mVar 0)) (mCons (mMk1 "SamePipe" "index" (mVar 0)) (mCons (mMk1 "NotStuck" "pair" (mVar 0)) (mCons (mMk1 "Starved" "pair" (mVar 0)) mNil)))))))) (gSet 2))
    (mSeq (mAsg (mOp (pur dAdd) (mVar 2) (mLst (mCons (mMk1 "UnknownCommand" "command" (mVar 0)) (mCons (mMk1 "NoPipe" "name" (mVar 0)) (mCons (mMk1 "NoPair" "pair" (mVar 0)) (mCons (mMk1 "NoStep" "index" (mVar 0)) (mCons (mMk1 "NothingToUndo" "count" (mVar 0)) mNil))))))) (gSet 2))
    (mRet (mOp (pur dAdd) (mVar 2) (mLst (mCons (mMk1 "NothingToRedo" "count" (mVar 0)) (mCons (mMk1 "NoMark" "name" (mVar 0)) (mCons (mMk1 "CannotGo" "who" (mVar 0)) (mCons (mMk1 "TooMany" "most" (mVar 0)) mNil))))))))))))
noncomputable def f_law_errors : List D → Option AV := fnP N_law_errors 2 m_law_errors
theorem k_law_errors (T : Txt K mg) (hG : G.K = K) (hcl : G.cls = clsOf K) (hp : G.pl = plT) (hs : ∃ o, base.get? sysModules = some o) : Cao P w K mg base 3 "_law_errors" ["_law_one", "_law_two"] (SpP G f_law_errors) := by
  subst hG
  have sc := sc_law_errors
  obtain ⟨C_CannotGo, hc_CannotGo, hm_CannotGo⟩ := T.x_CannotGo.cl
  have g_CannotGo : G.cls "CannotGo" = some C_CannotGo := (congrFun hcl _).trans hc_CannotGo
  obtain ⟨C_InvalidDuo, hc_InvalidDuo, hm_InvalidDuo⟩ := T.x_InvalidDuo.cl
  have g_InvalidDuo : G.cls "InvalidDuo" = some C_InvalidDuo := (congrFun hcl _).trans hc_InvalidDuo
  obtain ⟨C_InvalidDurations, hc_InvalidDurations, hm_InvalidDurations⟩ := T.x_InvalidDurations.cl
  have g_InvalidDurations : G.cls "InvalidDurations" = some C_InvalidDurations := (congrFun hcl _).trans hc_InvalidDurations
  obtain ⟨C_InvalidEdit, hc_InvalidEdit, hm_InvalidEdit⟩ := T.x_InvalidEdit.cl
  have g_InvalidEdit : G.cls "InvalidEdit" = some C_InvalidEdit := (congrFun hcl _).trans hc_InvalidEdit
  obtain ⟨C_InvalidGuide, hc_InvalidGuide, hm_InvalidGuide⟩ := T.x_InvalidGuide.cl
  have g_InvalidGuide : G.cls "InvalidGuide" = some C_InvalidGuide := (congrFun hcl _).trans hc_InvalidGuide
  obtain ⟨C_InvalidLetter, hc_InvalidLetter, hm_InvalidLetter⟩ := T.x_InvalidLetter.cl
  have g_InvalidLetter : G.cls "InvalidLetter" = some C_InvalidLetter := (congrFun hcl _).trans hc_InvalidLetter
  obtain ⟨C_InvalidLimit, hc_InvalidLimit, hm_InvalidLimit⟩ := T.x_InvalidLimit.cl
  have g_InvalidLimit : G.cls "InvalidLimit" = some C_InvalidLimit := (congrFun hcl _).trans hc_InvalidLimit
  obtain ⟨C_InvalidProgram, hc_InvalidProgram, hm_InvalidProgram⟩ := T.x_InvalidProgram.cl
  have g_InvalidProgram : G.cls "InvalidProgram" = some C_InvalidProgram := (congrFun hcl _).trans hc_InvalidProgram
  obtain ⟨C_InvalidRounds, hc_InvalidRounds, hm_InvalidRounds⟩ := T.x_InvalidRounds.cl
  have g_InvalidRounds : G.cls "InvalidRounds" = some C_InvalidRounds := (congrFun hcl _).trans hc_InvalidRounds
  obtain ⟨C_InvalidSize, hc_InvalidSize, hm_InvalidSize⟩ := T.x_InvalidSize.cl
  have g_InvalidSize : G.cls "InvalidSize" = some C_InvalidSize := (congrFun hcl _).trans hc_InvalidSize
  obtain ⟨C_InvalidTeam, hc_InvalidTeam, hm_InvalidTeam⟩ := T.x_InvalidTeam.cl
  have g_InvalidTeam : G.cls "InvalidTeam" = some C_InvalidTeam := (congrFun hcl _).trans hc_InvalidTeam
  obtain ⟨C_InvalidTerms, hc_InvalidTerms, hm_InvalidTerms⟩ := T.x_InvalidTerms.cl
  have g_InvalidTerms : G.cls "InvalidTerms" = some C_InvalidTerms := (congrFun hcl _).trans hc_InvalidTerms
  obtain ⟨C_InvalidText, hc_InvalidText, hm_InvalidText⟩ := T.x_InvalidText.cl
  have g_InvalidText : G.cls "InvalidText" = some C_InvalidText := (congrFun hcl _).trans hc_InvalidText
  obtain ⟨C_InvalidTurn, hc_InvalidTurn, hm_InvalidTurn⟩ := T.x_InvalidTurn.cl
  have g_InvalidTurn : G.cls "InvalidTurn" = some C_InvalidTurn := (congrFun hcl _).trans hc_InvalidTurn
  obtain ⟨C_NoMark, hc_NoMark, hm_NoMark⟩ := T.x_NoMark.cl
  have g_NoMark : G.cls "NoMark" = some C_NoMark := (congrFun hcl _).trans hc_NoMark
  obtain ⟨C_NoPair, hc_NoPair, hm_NoPair⟩ := T.x_NoPair.cl
  have g_NoPair : G.cls "NoPair" = some C_NoPair := (congrFun hcl _).trans hc_NoPair
  obtain ⟨C_NoPipe, hc_NoPipe, hm_NoPipe⟩ := T.x_NoPipe.cl
  have g_NoPipe : G.cls "NoPipe" = some C_NoPipe := (congrFun hcl _).trans hc_NoPipe
  obtain ⟨C_NoStep, hc_NoStep, hm_NoStep⟩ := T.x_NoStep.cl
  have g_NoStep : G.cls "NoStep" = some C_NoStep := (congrFun hcl _).trans hc_NoStep
  obtain ⟨C_NotStuck, hc_NotStuck, hm_NotStuck⟩ := T.x_NotStuck.cl
  have g_NotStuck : G.cls "NotStuck" = some C_NotStuck := (congrFun hcl _).trans hc_NotStuck
  obtain ⟨C_NothingToRedo, hc_NothingToRedo, hm_NothingToRedo⟩ := T.x_NothingToRedo.cl
  have g_NothingToRedo : G.cls "NothingToRedo" = some C_NothingToRedo := (congrFun hcl _).trans hc_NothingToRedo
  obtain ⟨C_NothingToUndo, hc_NothingToUndo, hm_NothingToUndo⟩ := T.x_NothingToUndo.cl
  have g_NothingToUndo : G.cls "NothingToUndo" = some C_NothingToUndo := (congrFun hcl _).trans hc_NothingToUndo
  obtain ⟨C_Ringed, hc_Ringed, hm_Ringed⟩ := T.x_Ringed.cl
  have g_Ringed : G.cls "Ringed" = some C_Ringed := (congrFun hcl _).trans hc_Ringed
  obtain ⟨C_SamePipe, hc_SamePipe, hm_SamePipe⟩ := T.x_SamePipe.cl
  have g_SamePipe : G.cls "SamePipe" = some C_SamePipe := (congrFun hcl _).trans hc_SamePipe
  obtain ⟨C_Starved, hc_Starved, hm_Starved⟩ := T.x_Starved.cl
  have g_Starved : G.cls "Starved" = some C_Starved := (congrFun hcl _).trans hc_Starved
  obtain ⟨C_TooMany, hc_TooMany, hm_TooMany⟩ := T.x_TooMany.cl
  have g_TooMany : G.cls "TooMany" = some C_TooMany := (congrFun hcl _).trans hc_TooMany
  obtain ⟨C_UnknownCommand, hc_UnknownCommand, hm_UnknownCommand⟩ := T.x_UnknownCommand.cl
  have g_UnknownCommand : G.cls "UnknownCommand" = some C_UnknownCommand := (congrFun hcl _).trans hc_UnknownCommand
  refine caoP (k := 2) T.d_law_errors sc at_law_errors (fun f cdv A outer s H E hr => ?_)
  refine ⟨_, (pss_cons (ps_set (i := 2) sc.nd rfl (Or.inl rfl) (pe_lst (pa_cons (mkV1K (eo_InvalidProgram (P := P) (w := w) (base := base) T) hc_InvalidProgram ⟨rfl, rfl, rfl, rfl, rfl⟩ hr (pv 0)) (pa_cons (mkV1K (eo_InvalidDuo (P := P) (w := w) (base := base) T) hc_InvalidDuo ⟨rfl, rfl, rfl, rfl, rfl⟩ hr (pv 0)) (pa_cons (mkV1K (eo_InvalidSize (P := P) (w := w) (base := base) T) hc_InvalidSize ⟨rfl, rfl, rfl, rfl, rfl⟩ hr (pv 0)) (pa_cons (mkV1K (eo_InvalidTerms (P := P) (w := w) (base := base) T) hc_InvalidTerms ⟨rfl, rfl, rfl, rfl, rfl⟩ hr (pv 0)) (pa_cons (mkV1K (eo_InvalidTurn (P := P) (w := w) (base := base) T) hc_InvalidTurn ⟨rfl, rfl, rfl, rfl, rfl⟩ hr (pv 0)) pa_nil)))))))
    (pss_cons (ps_set (i := 2) sc.nd rfl (Or.inl rfl) (pe_op (addK (K := G.K) rfl) (pv 2) (pe_lst (pa_cons (mkV1K (eo_InvalidGuide (P := P) (w := w) (base := base) T) hc_InvalidGuide ⟨rfl, rfl, rfl, rfl, rfl⟩ hr (pv 0)) (pa_cons (mkV1K (eo_InvalidTeam (P := P) (w := w) (base := base) T) hc_InvalidTeam ⟨rfl, rfl, rfl, rfl, rfl⟩ hr (pv 0)) (pa_cons (mkV1K (eo_InvalidRounds (P := P) (w := w) (base := base) T) hc_InvalidRounds ⟨rfl, rfl, rfl, rfl, rfl⟩ hr (pv 0)) (pa_cons (mkV1K (eo_InvalidDurations (P := P) (w := w) (base := base) T) hc_InvalidDurations ⟨rfl, rfl, rfl, rfl, rfl⟩ hr (pv 0)) pa_nil)))))))
    (pss_cons (ps_set (i := 2) sc.nd rfl (Or.inl rfl) (pe_op (addK (K := G.K) rfl) (pv 2) (pe_lst (pa_cons (mkV1K (eo_InvalidLetter (P := P) (w := w) (base := base) T) hc_InvalidLetter ⟨rfl, rfl, rfl, rfl, rfl⟩ hr (pv 0)) (pa_cons (mkV1K (eo_InvalidEdit (P := P) (w := w) (base := base) T) hc_InvalidEdit ⟨rfl, rfl, rfl, rfl, rfl⟩ hr (pv 0)) pa_nil)))))
    (pss_cons (ps_set (i := 2) sc.nd rfl (Or.inl rfl) (pe_op (addK (K := G.K) rfl) (pv 2) (pe_lst (pa_cons (mkV1K (eo_InvalidLimit (P := P) (w := w) (base := base) T) hc_InvalidLimit ⟨rfl, rfl, rfl, rfl, rfl⟩ hr (pv 0)) (pa_cons (mkV2K (eo_InvalidText (P := P) (w := w) (base := base) T) hc_InvalidText ⟨rfl, rfl, rfl, rfl, rfl⟩ hr (pa_cons (pv 0) (pa_cons (pv 1) pa_nil))) (pa_cons (mkV1K (eo_Ringed (P := P) (w := w) (base := base) T) hc_Ringed ⟨rfl, rfl, rfl, rfl, rfl⟩ hr (pv 0)) (pa_cons (mkV1K (eo_SamePipe (P := P) (w := w) (base := base) T) hc_SamePipe ⟨rfl, rfl, rfl, rfl, rfl⟩ hr (pv 0)) (pa_cons (mkV1K (eo_NotStuck (P := P) (w := w) (base := base) T) hc_NotStuck ⟨rfl, rfl, rfl, rfl, rfl⟩ hr (pv 0)) (pa_cons (mkV1K (eo_Starved (P := P) (w := w) (base := base) T) hc_Starved ⟨rfl, rfl, rfl, rfl, rfl⟩ hr (pv 0)) pa_nil)))))))))
    (pss_cons (ps_set (i := 2) sc.nd rfl (Or.inl rfl) (pe_op (addK (K := G.K) rfl) (pv 2) (pe_lst (pa_cons (mkV1K (eo_UnknownCommand (P := P) (w := w) (base := base) T) hc_UnknownCommand ⟨rfl, rfl, rfl, rfl, rfl⟩ hr (pv 0)) (pa_cons (mkV1K (eo_NoPipe (P := P) (w := w) (base := base) T) hc_NoPipe ⟨rfl, rfl, rfl, rfl, rfl⟩ hr (pv 0)) (pa_cons (mkV1K (eo_NoPair (P := P) (w := w) (base := base) T) hc_NoPair ⟨rfl, rfl, rfl, rfl, rfl⟩ hr (pv 0)) (pa_cons (mkV1K (eo_NoStep (P := P) (w := w) (base := base) T) hc_NoStep ⟨rfl, rfl, rfl, rfl, rfl⟩ hr (pv 0)) (pa_cons (mkV1K (eo_NothingToUndo (P := P) (w := w) (base := base) T) hc_NothingToUndo ⟨rfl, rfl, rfl, rfl, rfl⟩ hr (pv 0)) pa_nil))))))))
    (pss_one (ps_ret (pe_op (addK (K := G.K) rfl) (pv 2) (pe_lst (pa_cons (mkV1K (eo_NothingToRedo (P := P) (w := w) (base := base) T) hc_NothingToRedo ⟨rfl, rfl, rfl, rfl, rfl⟩ hr (pv 0)) (pa_cons (mkV1K (eo_NoMark (P := P) (w := w) (base := base) T) hc_NoMark ⟨rfl, rfl, rfl, rfl, rfl⟩ hr (pv 0)) (pa_cons (mkV1K (eo_CannotGo (P := P) (w := w) (base := base) T) hc_CannotGo ⟨rfl, rfl, rfl, rfl, rfl⟩ hr (pv 0)) (pa_cons (mkV1K (eo_TooMany (P := P) (w := w) (base := base) T) hc_TooMany ⟨rfl, rfl, rfl, rfl, rfl⟩ hr (pv 0)) pa_nil))))))))))))), ?_⟩
  unfold m_law_errors
  exact (es_seq (es_asg (ev_lst (ea_cons (ev_mk1K (eo_InvalidProgram (P := P) (w := w) (base := base) T) hc_InvalidProgram g_InvalidProgram (ev_var 0)) (ea_cons (ev_mk1K (eo_InvalidDuo (P := P) (w := w) (base := base) T) hc_InvalidDuo g_InvalidDuo (ev_var 0)) (ea_cons (ev_mk1K (eo_InvalidSize (P := P) (w := w) (base := base) T) hc_InvalidSize g_InvalidSize (ev_var 0)) (ea_cons (ev_mk1K (eo_InvalidTerms (P := P) (w := w) (base := base) T) hc_InvalidTerms g_InvalidTerms (ev_var 0)) (ea_cons (ev_mk1K (eo_InvalidTurn (P := P) (w := w) (base := base) T) hc_InvalidTurn g_InvalidTurn (ev_var 0)) ea_nil)))))) (eg_name 2))
    (es_seq (es_asg (ev_op od_add (ev_var 2) (ev_lst (ea_cons (ev_mk1K (eo_InvalidGuide (P := P) (w := w) (base := base) T) hc_InvalidGuide g_InvalidGuide (ev_var 0)) (ea_cons (ev_mk1K (eo_InvalidTeam (P := P) (w := w) (base := base) T) hc_InvalidTeam g_InvalidTeam (ev_var 0)) (ea_cons (ev_mk1K (eo_InvalidRounds (P := P) (w := w) (base := base) T) hc_InvalidRounds g_InvalidRounds (ev_var 0)) (ea_cons (ev_mk1K (eo_InvalidDurations (P := P) (w := w) (base := base) T) hc_InvalidDurations g_InvalidDurations (ev_var 0)) ea_nil)))))) (eg_name 2))
    (es_seq (es_asg (ev_op od_add (ev_var 2) (ev_lst (ea_cons (ev_mk1K (eo_InvalidLetter (P := P) (w := w) (base := base) T) hc_InvalidLetter g_InvalidLetter (ev_var 0)) (ea_cons (ev_mk1K (eo_InvalidEdit (P := P) (w := w) (base := base) T) hc_InvalidEdit g_InvalidEdit (ev_var 0)) ea_nil)))) (eg_name 2))
    (es_seq (es_asg (ev_op od_add (ev_var 2) (ev_lst (ea_cons (ev_mk1K (eo_InvalidLimit (P := P) (w := w) (base := base) T) hc_InvalidLimit g_InvalidLimit (ev_var 0)) (ea_cons (ev_mk2K (eo_InvalidText (P := P) (w := w) (base := base) T) hc_InvalidText g_InvalidText (ea_cons (ev_var 0) (ea_cons (ev_var 1) ea_nil))) (ea_cons (ev_mk1K (eo_Ringed (P := P) (w := w) (base := base) T) hc_Ringed g_Ringed (ev_var 0)) (ea_cons (ev_mk1K (eo_SamePipe (P := P) (w := w) (base := base) T) hc_SamePipe g_SamePipe (ev_var 0)) (ea_cons (ev_mk1K (eo_NotStuck (P := P) (w := w) (base := base) T) hc_NotStuck g_NotStuck (ev_var 0)) (ea_cons (ev_mk1K (eo_Starved (P := P) (w := w) (base := base) T) hc_Starved g_Starved (ev_var 0)) ea_nil)))))))) (eg_name 2))
    (es_seq (es_asg (ev_op od_add (ev_var 2) (ev_lst (ea_cons (ev_mk1K (eo_UnknownCommand (P := P) (w := w) (base := base) T) hc_UnknownCommand g_UnknownCommand (ev_var 0)) (ea_cons (ev_mk1K (eo_NoPipe (P := P) (w := w) (base := base) T) hc_NoPipe g_NoPipe (ev_var 0)) (ea_cons (ev_mk1K (eo_NoPair (P := P) (w := w) (base := base) T) hc_NoPair g_NoPair (ev_var 0)) (ea_cons (ev_mk1K (eo_NoStep (P := P) (w := w) (base := base) T) hc_NoStep g_NoStep (ev_var 0)) (ea_cons (ev_mk1K (eo_NothingToUndo (P := P) (w := w) (base := base) T) hc_NothingToUndo g_NothingToUndo (ev_var 0)) ea_nil))))))) (eg_name 2))
    (es_ret (ev_op od_add (ev_var 2) (ev_lst (ea_cons (ev_mk1K (eo_NothingToRedo (P := P) (w := w) (base := base) T) hc_NothingToRedo g_NothingToRedo (ev_var 0)) (ea_cons (ev_mk1K (eo_NoMark (P := P) (w := w) (base := base) T) hc_NoMark g_NoMark (ev_var 0)) (ea_cons (ev_mk1K (eo_CannotGo (P := P) (w := w) (base := base) T) hc_CannotGo g_CannotGo (ev_var 0)) (ea_cons (ev_mk1K (eo_TooMany (P := P) (w := w) (base := base) T) hc_TooMany g_TooMany (ev_var 0)) ea_nil))))))))))))
/-! ### _law_named -/
noncomputable abbrev N_law_named : List Str := ["_law_one", "_law_two", "_law_made"]
theorem sc_law_named : FnScope N_law_named ["_law_one", "_law_two"] (defScope s_law_named) := ⟨rfl, rfl, rfl, by decide +kernel, rfl, by decide +kernel, by decide +kernel⟩
theorem at_law_named : ArgsTo s_law_named "_law_named" ["_law_one", "_law_two"] := fun _ _ _ _ _ _ us ws h => match us, ws, h with
  | [], [_, _], _ => rfl
  | [_], [_], _ => rfl
  | [_, _], [], _ => rfl
noncomputable def m_law_named : MS :=
  (mSeq (mAsg (mLst (mCons (mMkK1 "InvalidProgram" "index" (mCons (mVar 0) mNil)) (mCons (mMkK1 "InvalidDuo" "pipe" (mCons (mVar 0) mNil)) (mCons (mMkK1 "InvalidSize" "name" (mCons (mVar 0) mNil)) (mCons (mMkK1 "InvalidTerms" "name" (mCons (mVar 0) mNil)) mNil))))) (gSet 2))
    (mSeq (mAsg (mOp (pur dAdd) (mVar 2) (mLst (mCons (mMkK1 "InvalidTurn" "index" (mCons (mVar 0) mNil)) (mCons (mMkK1 "InvalidGuide" "pair" (mCons (mVar 0) mNil)) (mCons (mMkK1 "InvalidTeam" "pipe" (mCons (mVar 0) mNil)) (mCons (mMkK1 "InvalidRounds" "number" (mCons (mVar 0) mNil)) mNil)))))) (gSet 2))
    (mSeq (mSetW 2 (mWAddL (mVar 2) (mLst (mCons (mMkK1 "InvalidDurations" "letter" (mCons (mVar 0) mNil)) (mCons (mMkK1 "InvalidLetter" "letter" (mCons (mVar 0) mNil)) (mCons (mMkK1 "InvalidEdit" "index" (mCons (mVar 0) mNil)) mNil))))))
    (mSeq (mAppP 2 (mPV 2) (mMkK1 "InvalidLimit" "number" (mCons (mVar 0) mNil)))
    (mFrz 2 (mSeq (mAsg (mOp (pur dAdd) (mVar 2) (mLst (mCons (mMkK2 "InvalidText" "line" "word" (mCons (mVar 1) (mCons (mVar 0) mNil))) (mCons (mMkK1 "Ringed" "members" (mCons (mVar 0) mNil)) (mCons (mMkK1 "SamePipe" "index" (mCons (mVar 0) mNil)) (mCons (mMkK1 "NotStuck" "pair" (mCons (mVar 0) mNil)) mNil)))))) (gSet 2))
    (mSeq (mAsg (mOp (pur dAdd) (mVar 2) (mLst (mCons (mMkK1 "Starved" "pair" (mCons (mVar 0) mNil)) (mCons (mMkK1 "UnknownCommand" "command" (mCons (mVar 0) mNil)) (mCons (mMkK1 "NoPipe" "name" (mCons (mVar 0) mNil)) (mCons (mMkK1 "NoPair" "pair" (mCons (mVar 0) mNil)) mNil)))))) (gSet 2))
    (mSeq (mAsg (mOp (pur dAdd) (mVar 2) (mLst (mCons (mMkK1 "NoStep" "index" (mCons (mVar 0) mNil)) (mCons (mMkK1 "NothingToUndo" "count" (mCons (mVar 0) mNil)) (mCons (mMkK1 "NothingToRedo" "count" (mCons (mVar 0) mNil)) (mCons (mMkK1 "NoMark" "name" (mCons (mVar 0) mNil)) mNil)))))) (gSet 2))
    (mRet (mOp (pur dAdd) (mVar 2) (mLst (mCons (mMkK1 "CannotGo" "who" (mCons (mVar 0) mNil)) (mCons (mMkK1 "TooMany" "most" (mCons (mVar 0) mNil)) mNil)))))))))))))
noncomputable def f_law_named : List D → Option AV := fnP N_law_named 2 m_law_named
theorem k_law_named (T : Txt K mg) (hG : G.K = K) (hcl : G.cls = clsOf K) (hp : G.pl = plT) (hs : ∃ o, base.get? sysModules = some o) : Cao P w K mg base 3 "_law_named" ["_law_one", "_law_two"] (SpP G f_law_named) := by
  subst hG
  have sc := sc_law_named
  obtain ⟨C_CannotGo, hc_CannotGo, hm_CannotGo⟩ := T.x_CannotGo.cl
  have g_CannotGo : G.cls "CannotGo" = some C_CannotGo := (congrFun hcl _).trans hc_CannotGo
  obtain ⟨C_InvalidDuo, hc_InvalidDuo, hm_InvalidDuo⟩ := T.x_InvalidDuo.cl
  have g_InvalidDuo : G.cls "InvalidDuo" = some C_InvalidDuo := (congrFun hcl _).trans hc_InvalidDuo
  obtain ⟨C_InvalidDurations, hc_InvalidDurations, hm_InvalidDurations⟩ := T.x_InvalidDurations.cl
  have g_InvalidDurations : G.cls "InvalidDurations" = some C_InvalidDurations := (congrFun hcl _).trans hc_InvalidDurations
  obtain ⟨C_InvalidEdit, hc_InvalidEdit, hm_InvalidEdit⟩ := T.x_InvalidEdit.cl
  have g_InvalidEdit : G.cls "InvalidEdit" = some C_InvalidEdit := (congrFun hcl _).trans hc_InvalidEdit
  obtain ⟨C_InvalidGuide, hc_InvalidGuide, hm_InvalidGuide⟩ := T.x_InvalidGuide.cl
  have g_InvalidGuide : G.cls "InvalidGuide" = some C_InvalidGuide := (congrFun hcl _).trans hc_InvalidGuide
  obtain ⟨C_InvalidLetter, hc_InvalidLetter, hm_InvalidLetter⟩ := T.x_InvalidLetter.cl
  have g_InvalidLetter : G.cls "InvalidLetter" = some C_InvalidLetter := (congrFun hcl _).trans hc_InvalidLetter
  obtain ⟨C_InvalidLimit, hc_InvalidLimit, hm_InvalidLimit⟩ := T.x_InvalidLimit.cl
  have g_InvalidLimit : G.cls "InvalidLimit" = some C_InvalidLimit := (congrFun hcl _).trans hc_InvalidLimit
  obtain ⟨C_InvalidProgram, hc_InvalidProgram, hm_InvalidProgram⟩ := T.x_InvalidProgram.cl
  have g_InvalidProgram : G.cls "InvalidProgram" = some C_InvalidProgram := (congrFun hcl _).trans hc_InvalidProgram
  obtain ⟨C_InvalidRounds, hc_InvalidRounds, hm_InvalidRounds⟩ := T.x_InvalidRounds.cl
  have g_InvalidRounds : G.cls "InvalidRounds" = some C_InvalidRounds := (congrFun hcl _).trans hc_InvalidRounds
  obtain ⟨C_InvalidSize, hc_InvalidSize, hm_InvalidSize⟩ := T.x_InvalidSize.cl
  have g_InvalidSize : G.cls "InvalidSize" = some C_InvalidSize := (congrFun hcl _).trans hc_InvalidSize
  obtain ⟨C_InvalidTeam, hc_InvalidTeam, hm_InvalidTeam⟩ := T.x_InvalidTeam.cl
  have g_InvalidTeam : G.cls "InvalidTeam" = some C_InvalidTeam := (congrFun hcl _).trans hc_InvalidTeam
  obtain ⟨C_InvalidTerms, hc_InvalidTerms, hm_InvalidTerms⟩ := T.x_InvalidTerms.cl
  have g_InvalidTerms : G.cls "InvalidTerms" = some C_InvalidTerms := (congrFun hcl _).trans hc_InvalidTerms
  obtain ⟨C_InvalidText, hc_InvalidText, hm_InvalidText⟩ := T.x_InvalidText.cl
  have g_InvalidText : G.cls "InvalidText" = some C_InvalidText := (congrFun hcl _).trans hc_InvalidText
  obtain ⟨C_InvalidTurn, hc_InvalidTurn, hm_InvalidTurn⟩ := T.x_InvalidTurn.cl
  have g_InvalidTurn : G.cls "InvalidTurn" = some C_InvalidTurn := (congrFun hcl _).trans hc_InvalidTurn
  obtain ⟨C_NoMark, hc_NoMark, hm_NoMark⟩ := T.x_NoMark.cl
  have g_NoMark : G.cls "NoMark" = some C_NoMark := (congrFun hcl _).trans hc_NoMark
  obtain ⟨C_NoPair, hc_NoPair, hm_NoPair⟩ := T.x_NoPair.cl
  have g_NoPair : G.cls "NoPair" = some C_NoPair := (congrFun hcl _).trans hc_NoPair
  obtain ⟨C_NoPipe, hc_NoPipe, hm_NoPipe⟩ := T.x_NoPipe.cl
  have g_NoPipe : G.cls "NoPipe" = some C_NoPipe := (congrFun hcl _).trans hc_NoPipe
  obtain ⟨C_NoStep, hc_NoStep, hm_NoStep⟩ := T.x_NoStep.cl
  have g_NoStep : G.cls "NoStep" = some C_NoStep := (congrFun hcl _).trans hc_NoStep
  obtain ⟨C_NotStuck, hc_NotStuck, hm_NotStuck⟩ := T.x_NotStuck.cl
  have g_NotStuck : G.cls "NotStuck" = some C_NotStuck := (congrFun hcl _).trans hc_NotStuck
  obtain ⟨C_NothingToRedo, hc_NothingToRedo, hm_NothingToRedo⟩ := T.x_NothingToRedo.cl
  have g_NothingToRedo : G.cls "NothingToRedo" = some C_NothingToRedo := (congrFun hcl _).trans hc_NothingToRedo
  obtain ⟨C_NothingToUndo, hc_NothingToUndo, hm_NothingToUndo⟩ := T.x_NothingToUndo.cl
  have g_NothingToUndo : G.cls "NothingToUndo" = some C_NothingToUndo := (congrFun hcl _).trans hc_NothingToUndo
  obtain ⟨C_Ringed, hc_Ringed, hm_Ringed⟩ := T.x_Ringed.cl
  have g_Ringed : G.cls "Ringed" = some C_Ringed := (congrFun hcl _).trans hc_Ringed
  obtain ⟨C_SamePipe, hc_SamePipe, hm_SamePipe⟩ := T.x_SamePipe.cl
  have g_SamePipe : G.cls "SamePipe" = some C_SamePipe := (congrFun hcl _).trans hc_SamePipe
  obtain ⟨C_Starved, hc_Starved, hm_Starved⟩ := T.x_Starved.cl
  have g_Starved : G.cls "Starved" = some C_Starved := (congrFun hcl _).trans hc_Starved
  obtain ⟨C_TooMany, hc_TooMany, hm_TooMany⟩ := T.x_TooMany.cl
  have g_TooMany : G.cls "TooMany" = some C_TooMany := (congrFun hcl _).trans hc_TooMany
  obtain ⟨C_UnknownCommand, hc_UnknownCommand, hm_UnknownCommand⟩ := T.x_UnknownCommand.cl
  have g_UnknownCommand : G.cls "UnknownCommand" = some C_UnknownCommand := (congrFun hcl _).trans hc_UnknownCommand
  refine caoP (k := 2) T.d_law_named sc at_law_named (fun f cdv A outer s H E hr => ?_)
  refine ⟨_, (pss_cons (ps_set (i := 2) sc.nd rfl (Or.inl rfl) (pe_lst (pa_cons (mkVKK (ek_InvalidProgram (P := P) (w := w) (base := base) T) hc_InvalidProgram ⟨rfl, rfl, rfl, rfl, rfl⟩ hr (pk_cons (pv 0) pk_nil)) (pa_cons (mkVKK (ek_InvalidDuo (P := P) (w := w) (base := base) T) hc_InvalidDuo ⟨rfl, rfl, rfl, rfl, rfl⟩ hr (pk_cons (pv 0) pk_nil)) (pa_cons (mkVKK (ek_InvalidSize (P := P) (w := w) (base := base) T) hc_InvalidSize ⟨rfl, rfl, rfl, rfl, rfl⟩ hr (pk_cons (pv 0) pk_nil)) (pa_cons (mkVKK (ek_InvalidTerms (P := P) (w := w) (base := base) T) hc_InvalidTerms ⟨rfl, rfl, rfl, rfl, rfl⟩ hr (pk_cons (pv 0) pk_nil)) pa_nil))))))
    (pss_cons (ps_set (i := 2) sc.nd rfl (Or.inl rfl) (pe_op (addK (K := G.K) rfl) (pv 2) (pe_lst (pa_cons (mkVKK (ek_InvalidTurn (P := P) (w := w) (base := base) T) hc_InvalidTurn ⟨rfl, rfl, rfl, rfl, rfl⟩ hr (pk_cons (pv 0) pk_nil)) (pa_cons (mkVKK (ek_InvalidGuide (P := P) (w := w) (base := base) T) hc_InvalidGuide ⟨rfl, rfl, rfl, rfl, rfl⟩ hr (pk_cons (pv 0) pk_nil)) (pa_cons (mkVKK (ek_InvalidTeam (P := P) (w := w) (base := base) T) hc_InvalidTeam ⟨rfl, rfl, rfl, rfl, rfl⟩ hr (pk_cons (pv 0) pk_nil)) (pa_cons (mkVKK (ek_InvalidRounds (P := P) (w := w) (base := base) T) hc_InvalidRounds ⟨rfl, rfl, rfl, rfl, rfl⟩ hr (pk_cons (pv 0) pk_nil)) pa_nil)))))))
    (pss_cons (ps_set (i := 2) sc.nd rfl (Or.inl rfl) (pe_op (addK (K := G.K) rfl) (pv 2) (pe_lst (pa_cons (mkVKK (ek_InvalidDurations (P := P) (w := w) (base := base) T) hc_InvalidDurations ⟨rfl, rfl, rfl, rfl, rfl⟩ hr (pk_cons (pv 0) pk_nil)) (pa_cons (mkVKK (ek_InvalidLetter (P := P) (w := w) (base := base) T) hc_InvalidLetter ⟨rfl, rfl, rfl, rfl, rfl⟩ hr (pk_cons (pv 0) pk_nil)) (pa_cons (mkVKK (ek_InvalidEdit (P := P) (w := w) (base := base) T) hc_InvalidEdit ⟨rfl, rfl, rfl, rfl, rfl⟩ hr (pk_cons (pv 0) pk_nil)) pa_nil))))))
    (pss_cons (ps_expr (bmK (K := G.K) rfl (pe_bm PySem.F.plainAttrs_list PySem.F.slot_list_append PySem.F.type_list_append mt_append (pv 2) (pa_cons (mkVKK (ek_InvalidLimit (P := P) (w := w) (base := base) T) hc_InvalidLimit ⟨rfl, rfl, rfl, rfl, rfl⟩ hr (pk_cons (pv 0) pk_nil)) pa_nil))))
    (pss_cons (ps_set (i := 2) sc.nd rfl (Or.inl rfl) (pe_op (addK (K := G.K) rfl) (pv 2) (pe_lst (pa_cons (mkVK2K (eo_InvalidText (P := P) (w := w) (base := base) T) hc_InvalidText ⟨rfl, rfl, rfl, rfl, rfl⟩ hr (pk_cons (pv 1) (pk_cons (pv 0) pk_nil))) (pa_cons (mkVKK (ek_Ringed (P := P) (w := w) (base := base) T) hc_Ringed ⟨rfl, rfl, rfl, rfl, rfl⟩ hr (pk_cons (pv 0) pk_nil)) (pa_cons (mkVKK (ek_SamePipe (P := P) (w := w) (base := base) T) hc_SamePipe ⟨rfl, rfl, rfl, rfl, rfl⟩ hr (pk_cons (pv 0) pk_nil)) (pa_cons (mkVKK (ek_NotStuck (P := P) (w := w) (base := base) T) hc_NotStuck ⟨rfl, rfl, rfl, rfl, rfl⟩ hr (pk_cons (pv 0) pk_nil)) pa_nil)))))))
    (pss_cons (ps_set (i := 2) sc.nd rfl (Or.inl rfl) (pe_op (addK (K := G.K) rfl) (pv 2) (pe_lst (pa_cons (mkVKK (ek_Starved (P := P) (w := w) (base := base) T) hc_Starved ⟨rfl, rfl, rfl, rfl, rfl⟩ hr (pk_cons (pv 0) pk_nil)) (pa_cons (mkVKK (ek_UnknownCommand (P := P) (w := w) (base := base) T) hc_UnknownCommand ⟨rfl, rfl, rfl, rfl, rfl⟩ hr (pk_cons (pv 0) pk_nil)) (pa_cons (mkVKK (ek_NoPipe (P := P) (w := w) (base := base) T) hc_NoPipe ⟨rfl, rfl, rfl, rfl, rfl⟩ hr (pk_cons (pv 0) pk_nil)) (pa_cons (mkVKK (ek_NoPair (P := P) (w := w) (base := base) T) hc_NoPair ⟨rfl, rfl, rfl, rfl, rfl⟩ hr (pk_cons (pv 0) pk_nil)) pa_nil)))))))
    (pss_cons (ps_set (i := 2) sc.nd rfl (Or.inl rfl) (pe_op (addK (K := G.K) rfl) (pv 2) (pe_lst (pa_cons (mkVKK (ek_NoStep (P := P) (w := w) (base := base) T) hc_NoStep ⟨rfl, rfl, rfl, rfl, rfl⟩ hr (pk_cons (pv 0) pk_nil)) (pa_cons (mkVKK (ek_NothingToUndo (P := P) (w := w) (base := base) T) hc_NothingToUndo ⟨rfl, rfl, rfl, rfl, rfl⟩ hr (pk_cons (pv 0) pk_nil)) (pa_cons (mkVKK (ek_NothingToRedo (P := P) (w := w) (base := base) T) hc_NothingToRedo ⟨rfl, rfl, rfl, rfl, rfl⟩ hr (pk_cons (pv 0) pk_nil)) (pa_cons (mkVKK (ek_NoMark (P := P) (w := w) (base := base) T) hc_NoMark ⟨rfl, rfl, rfl, rfl, rfl⟩ hr (pk_cons (pv 0) pk_nil)) pa_nil)))))))
    (pss_one (ps_ret (pe_op (addK (K := G.K) rfl) (pv 2) (pe_lst (pa_cons (mkVKK (ek_CannotGo (P := P) (w := w) (base := base) T) hc_CannotGo ⟨rfl, rfl, rfl, rfl, rfl⟩ hr (pk_cons (pv 0) pk_nil)) (pa_cons (mkVKK (ek_TooMany (P := P) (w := w) (base := base) T) hc_TooMany ⟨rfl, rfl, rfl, rfl, rfl⟩ hr (pk_cons (pv 0) pk_nil)) pa_nil))))))))))))), ?_⟩
  unfold m_law_named
  exact (es_seq (es_asg (ev_lst (ea_cons (ev_mkK1K (ek_InvalidProgram (P := P) (w := w) (base := base) T) hc_InvalidProgram g_InvalidProgram (ea_cons (ev_var 0) ea_nil)) (ea_cons (ev_mkK1K (ek_InvalidDuo (P := P) (w := w) (base := base) T) hc_InvalidDuo g_InvalidDuo (ea_cons (ev_var 0) ea_nil)) (ea_cons (ev_mkK1K (ek_InvalidSize (P := P) (w := w) (base := base) T) hc_InvalidSize g_InvalidSize (ea_cons (ev_var 0) ea_nil)) (ea_cons (ev_mkK1K (ek_InvalidTerms (P := P) (w := w) (base := base) T) hc_InvalidTerms g_InvalidTerms (ea_cons (ev_var 0) ea_nil)) ea_nil))))) (eg_name 2))
    (es_seq (es_asg (ev_op od_add (ev_var 2) (ev_lst (ea_cons (ev_mkK1K (ek_InvalidTurn (P := P) (w := w) (base := base) T) hc_InvalidTurn g_InvalidTurn (ea_cons (ev_var 0) ea_nil)) (ea_cons (ev_mkK1K (ek_InvalidGuide (P := P) (w := w) (base := base) T) hc_InvalidGuide g_InvalidGuide (ea_cons (ev_var 0) ea_nil)) (ea_cons (ev_mkK1K (ek_InvalidTeam (P := P) (w := w) (base := base) T) hc_InvalidTeam g_InvalidTeam (ea_cons (ev_var 0) ea_nil)) (ea_cons (ev_mkK1K (ek_InvalidRounds (P := P) (w := w) (base := base) T) hc_InvalidRounds g_InvalidRounds (ea_cons (ev_var 0) ea_nil)) ea_nil)))))) (eg_name 2))
    (es_seq (es_setW 2 (ew_addL (ev_var 2) (ev_lst (ea_cons (ev_mkK1K (ek_InvalidDurations (P := P) (w := w) (base := base) T) hc_InvalidDurations g_InvalidDurations (ea_cons (ev_var 0) ea_nil)) (ea_cons (ev_mkK1K (ek_InvalidLetter (P := P) (w := w) (base := base) T) hc_InvalidLetter g_InvalidLetter (ea_cons (ev_var 0) ea_nil)) (ea_cons (ev_mkK1K (ek_InvalidEdit (P := P) (w := w) (base := base) T) hc_InvalidEdit g_InvalidEdit (ea_cons (ev_var 0) ea_nil)) ea_nil))))))
    (es_seq (es_appP (ep_var 2) (ev_mkK1K (ek_InvalidLimit (P := P) (w := w) (base := base) T) hc_InvalidLimit g_InvalidLimit (ea_cons (ev_var 0) ea_nil)))
    (es_frz 2 (es_seq (es_asg (ev_op od_add (ev_var 2) (ev_lst (ea_cons (ev_mkK2K (eo_InvalidText (P := P) (w := w) (base := base) T) hc_InvalidText g_InvalidText (ea_cons (ev_var 1) (ea_cons (ev_var 0) ea_nil))) (ea_cons (ev_mkK1K (ek_Ringed (P := P) (w := w) (base := base) T) hc_Ringed g_Ringed (ea_cons (ev_var 0) ea_nil)) (ea_cons (ev_mkK1K (ek_SamePipe (P := P) (w := w) (base := base) T) hc_SamePipe g_SamePipe (ea_cons (ev_var 0) ea_nil)) (ea_cons (ev_mkK1K (ek_NotStuck (P := P) (w := w) (base := base) T) hc_NotStuck g_NotStuck (ea_cons (ev_var 0) ea_nil)) ea_nil)))))) (eg_name 2))
    (es_seq (es_asg (ev_op od_add (ev_var 2) (ev_lst (ea_cons (ev_mkK1K (ek_Starved (P := P) (w := w) (base := base) T) hc_Starved g_Starved (ea_cons (ev_var 0) ea_nil)) (ea_cons (ev_mkK1K (ek_UnknownCommand (P := P) (w := w) (base := base) T) hc_UnknownCommand g_UnknownCommand (ea_cons (ev_var 0) ea_nil)) (ea_cons (ev_mkK1K (ek_NoPipe (P := P) (w := w) (base := base) T) hc_NoPipe g_NoPipe (ea_cons (ev_var 0) ea_nil)) (ea_cons (ev_mkK1K (ek_NoPair (P := P) (w := w) (base := base) T) hc_NoPair g_NoPair (ea_cons (ev_var 0) ea_nil)) ea_nil)))))) (eg_name 2))
    (es_seq (es_asg (ev_op od_add (ev_var 2) (ev_lst (ea_cons (ev_mkK1K (ek_NoStep (P := P) (w := w) (base := base) T) hc_NoStep g_NoStep (ea_cons (ev_var 0) ea_nil)) (ea_cons (ev_mkK1K (ek_NothingToUndo (P := P) (w := w) (base := base) T) hc_NothingToUndo g_NothingToUndo (ea_cons (ev_var 0) ea_nil)) (ea_cons (ev_mkK1K (ek_NothingToRedo (P := P) (w := w) (base := base) T) hc_NothingToRedo g_NothingToRedo (ea_cons (ev_var 0) ea_nil)) (ea_cons (ev_mkK1K (ek_NoMark (P := P) (w := w) (base := base) T) hc_NoMark g_NoMark (ea_cons (ev_var 0) ea_nil)) ea_nil)))))) (eg_name 2))
    (es_ret (ev_op od_add (ev_var 2) (ev_lst (ea_cons (ev_mkK1K (ek_CannotGo (P := P) (w := w) (base := base) T) hc_CannotGo g_CannotGo (ea_cons (ev_var 0) ea_nil)) (ea_cons (ev_mkK1K (ek_TooMany (P := P) (w := w) (base := base) T) hc_TooMany g_TooMany (ea_cons (ev_var 0) ea_nil)) ea_nil)))))))))))))
/-! ### _law_classes -/
noncomputable abbrev N_law_classes : List Str := ["_law_e", "_law_told"]
theorem sc_law_classes : FnScope N_law_classes ["_law_e"] (defScope s_law_classes) := ⟨rfl, rfl, rfl, by decide +kernel, rfl, by decide +kernel, by decide +kernel⟩
theorem at_law_classes : ArgsTo s_law_classes "_law_classes" ["_law_e"] := fun _ _ _ _ _ _ us ws h => match us, ws, h with
  | [], [_], _ => rfl
  | [_], [], _ => rfl
noncomputable def m_law_classes : MS :=
  (mSeq (mAsg (mLst (mCons (mUn (dIsX (tabL tb_InvalidProgram)) (mVar 0)) (mCons (mUn (dIsX (tabL tb_InvalidDuo)) (mVar 0)) (mCons (mUn (dIsX (tabL tb_InvalidSize)) (mVar 0)) mNil)))) (gSet 1))
    (mSeq (mAsg (mOp (pur dAdd) (mVar 1) (mLst (mCons (mUn (dIsX (tabL tb_InvalidTerms)) (mVar 0)) (mCons (mUn (dIsX (tabL tb_InvalidTurn)) (mVar 0)) (mCons (mUn (dIsX (tabL tb_InvalidGuide)) (mVar 0)) mNil))))) (gSet 1))
    (mSeq (mAsg (mOp (pur dAdd) (mVar 1) (mLst (mCons (mUn (dIsX (tabL tb_InvalidTeam)) (mVar 0)) (mCons (mUn (dIsX (tabL tb_InvalidRounds)) (mVar 0)) (mCons (mUn (dIsX (tabL tb_InvalidDurations)) (mVar 0)) mNil))))) (gSet 1))
    (mSeq (mSetW 1 (mWAddL (mVar 1) (mLst (mCons (mUn (dIsX (tabL tb_InvalidLetter)) (mVar 0)) (mCons (mUn (dIsX (tabL tb_InvalidEdit)) (mVar 0)) (mCons (mUn (dIsX (tabL tb_InvalidLimit)) (mVar 0)) mNil))))))
    (mSeq (mAppP 1 (mPV 1) (mUn (dIsX (tabL tb_InvalidText)) (mVar 0)))
    (mFrz 1 (mSeq (mAsg (mOp (pur dAdd) (mVar 1) (mLst (mCons (mUn (dIsX (tabL tb_Ringed)) (mVar 0)) (mCons (mUn (dIsX (tabL tb_SamePipe)) (mVar 0)) (mCons (mUn (dIsX (tabL tb_NotStuck)) (mVar 0)) (mCons (mUn (dIsX (tabL tb_Starved)) (mVar 0)) mNil)))))) (gSet 1))
    (mSeq (mAsg (mOp (pur dAdd) (mVar 1) (mLst (mCons (mUn (dIsX (tabL tb_UnknownCommand)) (mVar 0)) (mCons (mUn (dIsX (tabL tb_NoPipe)) (mVar 0)) (mCons (mUn (dIsX (tabL tb_NoPair)) (mVar 0)) mNil))))) (gSet 1))
    (mSeq (mAsg (mOp (pur dAdd) (mVar 1) (mLst (mCons (mUn (dIsX (tabL tb_NoStep)) (mVar 0)) (mCons (mUn (dIsX (tabL tb_NothingToUndo)) (mVar 0)) (mCons (mUn (dIsX (tabL tb_NothingToRedo)) (mVar 0)) mNil))))) (gSet 1))
    (mRet (mOp (pur dAdd) (mVar 1) (mLst (mCons (mUn (dIsX (tabL tb_NoMark)) (mVar 0)) (mCons (mUn (dIsX (tabL tb_CannotGo)) (mVar 0)) (mCons (mUn (dIsX (tabL tb_TooMany)) (mVar 0)) mNil)))))))))))))))
noncomputable def f_law_classes : List D → Option AV := fnP N_law_classes 1 m_law_classes
theorem k_law_classes (T : Txt K mg) (hG : G.K = K) (hcl : G.cls = clsOf K) (hp : G.pl = plT) (hs : ∃ o, base.get? sysModules = some o) : Cao P w K mg base 1 "_law_classes" ["_law_e"] (SpP G f_law_classes) := by
  subst hG
  have sc := sc_law_classes
  obtain ⟨C_CannotGo, hc_CannotGo, hm_CannotGo⟩ := T.x_CannotGo.cl
  have g_CannotGo : G.cls "CannotGo" = some C_CannotGo := (congrFun hcl _).trans hc_CannotGo
  obtain ⟨C_InvalidDuo, hc_InvalidDuo, hm_InvalidDuo⟩ := T.x_InvalidDuo.cl
  have g_InvalidDuo : G.cls "InvalidDuo" = some C_InvalidDuo := (congrFun hcl _).trans hc_InvalidDuo
  obtain ⟨C_InvalidDurations, hc_InvalidDurations, hm_InvalidDurations⟩ := T.x_InvalidDurations.cl
  have g_InvalidDurations : G.cls "InvalidDurations" = some C_InvalidDurations := (congrFun hcl _).trans hc_InvalidDurations
  obtain ⟨C_InvalidEdit, hc_InvalidEdit, hm_InvalidEdit⟩ := T.x_InvalidEdit.cl
  have g_InvalidEdit : G.cls "InvalidEdit" = some C_InvalidEdit := (congrFun hcl _).trans hc_InvalidEdit
  obtain ⟨C_InvalidGuide, hc_InvalidGuide, hm_InvalidGuide⟩ := T.x_InvalidGuide.cl
  have g_InvalidGuide : G.cls "InvalidGuide" = some C_InvalidGuide := (congrFun hcl _).trans hc_InvalidGuide
  obtain ⟨C_InvalidLetter, hc_InvalidLetter, hm_InvalidLetter⟩ := T.x_InvalidLetter.cl
  have g_InvalidLetter : G.cls "InvalidLetter" = some C_InvalidLetter := (congrFun hcl _).trans hc_InvalidLetter
  obtain ⟨C_InvalidLimit, hc_InvalidLimit, hm_InvalidLimit⟩ := T.x_InvalidLimit.cl
  have g_InvalidLimit : G.cls "InvalidLimit" = some C_InvalidLimit := (congrFun hcl _).trans hc_InvalidLimit
  obtain ⟨C_InvalidProgram, hc_InvalidProgram, hm_InvalidProgram⟩ := T.x_InvalidProgram.cl
  have g_InvalidProgram : G.cls "InvalidProgram" = some C_InvalidProgram := (congrFun hcl _).trans hc_InvalidProgram
  obtain ⟨C_InvalidRounds, hc_InvalidRounds, hm_InvalidRounds⟩ := T.x_InvalidRounds.cl
  have g_InvalidRounds : G.cls "InvalidRounds" = some C_InvalidRounds := (congrFun hcl _).trans hc_InvalidRounds
  obtain ⟨C_InvalidSize, hc_InvalidSize, hm_InvalidSize⟩ := T.x_InvalidSize.cl
  have g_InvalidSize : G.cls "InvalidSize" = some C_InvalidSize := (congrFun hcl _).trans hc_InvalidSize
  obtain ⟨C_InvalidTeam, hc_InvalidTeam, hm_InvalidTeam⟩ := T.x_InvalidTeam.cl
  have g_InvalidTeam : G.cls "InvalidTeam" = some C_InvalidTeam := (congrFun hcl _).trans hc_InvalidTeam
  obtain ⟨C_InvalidTerms, hc_InvalidTerms, hm_InvalidTerms⟩ := T.x_InvalidTerms.cl
  have g_InvalidTerms : G.cls "InvalidTerms" = some C_InvalidTerms := (congrFun hcl _).trans hc_InvalidTerms
  obtain ⟨C_InvalidText, hc_InvalidText, hm_InvalidText⟩ := T.x_InvalidText.cl
  have g_InvalidText : G.cls "InvalidText" = some C_InvalidText := (congrFun hcl _).trans hc_InvalidText
  obtain ⟨C_InvalidTurn, hc_InvalidTurn, hm_InvalidTurn⟩ := T.x_InvalidTurn.cl
  have g_InvalidTurn : G.cls "InvalidTurn" = some C_InvalidTurn := (congrFun hcl _).trans hc_InvalidTurn
  obtain ⟨C_NoMark, hc_NoMark, hm_NoMark⟩ := T.x_NoMark.cl
  have g_NoMark : G.cls "NoMark" = some C_NoMark := (congrFun hcl _).trans hc_NoMark
  obtain ⟨C_NoPair, hc_NoPair, hm_NoPair⟩ := T.x_NoPair.cl
  have g_NoPair : G.cls "NoPair" = some C_NoPair := (congrFun hcl _).trans hc_NoPair
  obtain ⟨C_NoPipe, hc_NoPipe, hm_NoPipe⟩ := T.x_NoPipe.cl
  have g_NoPipe : G.cls "NoPipe" = some C_NoPipe := (congrFun hcl _).trans hc_NoPipe
  obtain ⟨C_NoStep, hc_NoStep, hm_NoStep⟩ := T.x_NoStep.cl
  have g_NoStep : G.cls "NoStep" = some C_NoStep := (congrFun hcl _).trans hc_NoStep
  obtain ⟨C_NotStuck, hc_NotStuck, hm_NotStuck⟩ := T.x_NotStuck.cl
  have g_NotStuck : G.cls "NotStuck" = some C_NotStuck := (congrFun hcl _).trans hc_NotStuck
  obtain ⟨C_NothingToRedo, hc_NothingToRedo, hm_NothingToRedo⟩ := T.x_NothingToRedo.cl
  have g_NothingToRedo : G.cls "NothingToRedo" = some C_NothingToRedo := (congrFun hcl _).trans hc_NothingToRedo
  obtain ⟨C_NothingToUndo, hc_NothingToUndo, hm_NothingToUndo⟩ := T.x_NothingToUndo.cl
  have g_NothingToUndo : G.cls "NothingToUndo" = some C_NothingToUndo := (congrFun hcl _).trans hc_NothingToUndo
  obtain ⟨C_Ringed, hc_Ringed, hm_Ringed⟩ := T.x_Ringed.cl
  have g_Ringed : G.cls "Ringed" = some C_Ringed := (congrFun hcl _).trans hc_Ringed
  obtain ⟨C_SamePipe, hc_SamePipe, hm_SamePipe⟩ := T.x_SamePipe.cl
  have g_SamePipe : G.cls "SamePipe" = some C_SamePipe := (congrFun hcl _).trans hc_SamePipe
  obtain ⟨C_Starved, hc_Starved, hm_Starved⟩ := T.x_Starved.cl
  have g_Starved : G.cls "Starved" = some C_Starved := (congrFun hcl _).trans hc_Starved
  obtain ⟨C_TooMany, hc_TooMany, hm_TooMany⟩ := T.x_TooMany.cl
  have g_TooMany : G.cls "TooMany" = some C_TooMany := (congrFun hcl _).trans hc_TooMany
  obtain ⟨C_UnknownCommand, hc_UnknownCommand, hm_UnknownCommand⟩ := T.x_UnknownCommand.cl
  have g_UnknownCommand : G.cls "UnknownCommand" = some C_UnknownCommand := (congrFun hcl _).trans hc_UnknownCommand
  refine caoP (k := 0) T.d_law_classes sc at_law_classes (fun f cdv A outer s H E hr => ?_)
  refine ⟨_, (pss_cons (ps_set (i := 1) sc.nd rfl (Or.inl rfl) (pe_lst (pa_cons (pe_callB (isXK (K := G.K) rfl) (by rfl) T.n_isinstance PyProof.Rows.boot_isinstance (pa_cons (pv 0) (pa_cons (clsNK hm_InvalidProgram ⟨rfl, rfl, rfl, rfl, rfl⟩) pa_nil))) (pa_cons (pe_callB (isXK (K := G.K) rfl) (by rfl) T.n_isinstance PyProof.Rows.boot_isinstance (pa_cons (pv 0) (pa_cons (clsNK hm_InvalidDuo ⟨rfl, rfl, rfl, rfl, rfl⟩) pa_nil))) (pa_cons (pe_callB (isXK (K := G.K) rfl) (by rfl) T.n_isinstance PyProof.Rows.boot_isinstance (pa_cons (pv 0) (pa_cons (clsNK hm_InvalidSize ⟨rfl, rfl, rfl, rfl, rfl⟩) pa_nil))) pa_nil)))))
    (pss_cons (ps_set (i := 1) sc.nd rfl (Or.inl rfl) (pe_op (addK (K := G.K) rfl) (pv 1) (pe_lst (pa_cons (pe_callB (isXK (K := G.K) rfl) (by rfl) T.n_isinstance PyProof.Rows.boot_isinstance (pa_cons (pv 0) (pa_cons (clsNK hm_InvalidTerms ⟨rfl, rfl, rfl, rfl, rfl⟩) pa_nil))) (pa_cons (pe_callB (isXK (K := G.K) rfl) (by rfl) T.n_isinstance PyProof.Rows.boot_isinstance (pa_cons (pv 0) (pa_cons (clsNK hm_InvalidTurn ⟨rfl, rfl, rfl, rfl, rfl⟩) pa_nil))) (pa_cons (pe_callB (isXK (K := G.K) rfl) (by rfl) T.n_isinstance PyProof.Rows.boot_isinstance (pa_cons (pv 0) (pa_cons (clsNK hm_InvalidGuide ⟨rfl, rfl, rfl, rfl, rfl⟩) pa_nil))) pa_nil))))))
    (pss_cons (ps_set (i := 1) sc.nd rfl (Or.inl rfl) (pe_op (addK (K := G.K) rfl) (pv 1) (pe_lst (pa_cons (pe_callB (isXK (K := G.K) rfl) (by rfl) T.n_isinstance PyProof.Rows.boot_isinstance (pa_cons (pv 0) (pa_cons (clsNK hm_InvalidTeam ⟨rfl, rfl, rfl, rfl, rfl⟩) pa_nil))) (pa_cons (pe_callB (isXK (K := G.K) rfl) (by rfl) T.n_isinstance PyProof.Rows.boot_isinstance (pa_cons (pv 0) (pa_cons (clsNK hm_InvalidRounds ⟨rfl, rfl, rfl, rfl, rfl⟩) pa_nil))) (pa_cons (pe_callB (isXK (K := G.K) rfl) (by rfl) T.n_isinstance PyProof.Rows.boot_isinstance (pa_cons (pv 0) (pa_cons (clsNK hm_InvalidDurations ⟨rfl, rfl, rfl, rfl, rfl⟩) pa_nil))) pa_nil))))))
    (pss_cons (ps_set (i := 1) sc.nd rfl (Or.inl rfl) (pe_op (addK (K := G.K) rfl) (pv 1) (pe_lst (pa_cons (pe_callB (isXK (K := G.K) rfl) (by rfl) T.n_isinstance PyProof.Rows.boot_isinstance (pa_cons (pv 0) (pa_cons (clsNK hm_InvalidLetter ⟨rfl, rfl, rfl, rfl, rfl⟩) pa_nil))) (pa_cons (pe_callB (isXK (K := G.K) rfl) (by rfl) T.n_isinstance PyProof.Rows.boot_isinstance (pa_cons (pv 0) (pa_cons (clsNK hm_InvalidEdit ⟨rfl, rfl, rfl, rfl, rfl⟩) pa_nil))) (pa_cons (pe_callB (isXK (K := G.K) rfl) (by rfl) T.n_isinstance PyProof.Rows.boot_isinstance (pa_cons (pv 0) (pa_cons (clsNK hm_InvalidLimit ⟨rfl, rfl, rfl, rfl, rfl⟩) pa_nil))) pa_nil))))))
    (pss_cons (ps_expr (bmK (K := G.K) rfl (pe_bm PySem.F.plainAttrs_list PySem.F.slot_list_append PySem.F.type_list_append mt_append (pv 1) (pa_cons (pe_callB (isXK (K := G.K) rfl) (by rfl) T.n_isinstance PyProof.Rows.boot_isinstance (pa_cons (pv 0) (pa_cons (clsNK hm_InvalidText ⟨rfl, rfl, rfl, rfl, rfl⟩) pa_nil))) pa_nil))))
    (pss_cons (ps_set (i := 1) sc.nd rfl (Or.inl rfl) (pe_op (addK (K := G.K) rfl) (pv 1) (pe_lst (pa_cons (pe_callB (isXK (K := G.K) rfl) (by rfl) T.n_isinstance PyProof.Rows.boot_isinstance (pa_cons (pv 0) (pa_cons (clsNK hm_Ringed ⟨rfl, rfl, rfl, rfl, rfl⟩) pa_nil))) (pa_cons (pe_callB (isXK (K := G.K) rfl) (by rfl) T.n_isinstance PyProof.Rows.boot_isinstance (pa_cons (pv 0) (pa_cons (clsNK hm_SamePipe ⟨rfl, rfl, rfl, rfl, rfl⟩) pa_nil))) (pa_cons (pe_callB (isXK (K := G.K) rfl) (by rfl) T.n_isinstance PyProof.Rows.boot_isinstance (pa_cons (pv 0) (pa_cons (clsNK hm_NotStuck ⟨rfl, rfl, rfl, rfl, rfl⟩) pa_nil))) (pa_cons (pe_callB (isXK (K := G.K) rfl) (by rfl) T.n_isinstance PyProof.Rows.boot_isinstance (pa_cons (pv 0) (pa_cons (clsNK hm_Starved ⟨rfl, rfl, rfl, rfl, rfl⟩) pa_nil))) pa_nil)))))))
    (pss_cons (ps_set (i := 1) sc.nd rfl (Or.inl rfl) (pe_op (addK (K := G.K) rfl) (pv 1) (pe_lst (pa_cons (pe_callB (isXK (K := G.K) rfl) (by rfl) T.n_isinstance PyProof.Rows.boot_isinstance (pa_cons (pv 0) (pa_cons (clsNK hm_UnknownCommand ⟨rfl, rfl, rfl, rfl, rfl⟩) pa_nil))) (pa_cons (pe_callB (isXK (K := G.K) rfl) (by rfl) T.n_isinstance PyProof.Rows.boot_isinstance (pa_cons (pv 0) (pa_cons (clsNK hm_NoPipe ⟨rfl, rfl, rfl, rfl, rfl⟩) pa_nil))) (pa_cons (pe_callB (isXK (K := G.K) rfl) (by rfl) T.n_isinstance PyProof.Rows.boot_isinstance (pa_cons (pv 0) (pa_cons (clsNK hm_NoPair ⟨rfl, rfl, rfl, rfl, rfl⟩) pa_nil))) pa_nil))))))
    (pss_cons (ps_set (i := 1) sc.nd rfl (Or.inl rfl) (pe_op (addK (K := G.K) rfl) (pv 1) (pe_lst (pa_cons (pe_callB (isXK (K := G.K) rfl) (by rfl) T.n_isinstance PyProof.Rows.boot_isinstance (pa_cons (pv 0) (pa_cons (clsNK hm_NoStep ⟨rfl, rfl, rfl, rfl, rfl⟩) pa_nil))) (pa_cons (pe_callB (isXK (K := G.K) rfl) (by rfl) T.n_isinstance PyProof.Rows.boot_isinstance (pa_cons (pv 0) (pa_cons (clsNK hm_NothingToUndo ⟨rfl, rfl, rfl, rfl, rfl⟩) pa_nil))) (pa_cons (pe_callB (isXK (K := G.K) rfl) (by rfl) T.n_isinstance PyProof.Rows.boot_isinstance (pa_cons (pv 0) (pa_cons (clsNK hm_NothingToRedo ⟨rfl, rfl, rfl, rfl, rfl⟩) pa_nil))) pa_nil))))))
    (pss_one (ps_ret (pe_op (addK (K := G.K) rfl) (pv 1) (pe_lst (pa_cons (pe_callB (isXK (K := G.K) rfl) (by rfl) T.n_isinstance PyProof.Rows.boot_isinstance (pa_cons (pv 0) (pa_cons (clsNK hm_NoMark ⟨rfl, rfl, rfl, rfl, rfl⟩) pa_nil))) (pa_cons (pe_callB (isXK (K := G.K) rfl) (by rfl) T.n_isinstance PyProof.Rows.boot_isinstance (pa_cons (pv 0) (pa_cons (clsNK hm_CannotGo ⟨rfl, rfl, rfl, rfl, rfl⟩) pa_nil))) (pa_cons (pe_callB (isXK (K := G.K) rfl) (by rfl) T.n_isinstance PyProof.Rows.boot_isinstance (pa_cons (pv 0) (pa_cons (clsNK hm_TooMany ⟨rfl, rfl, rfl, rfl, rfl⟩) pa_nil))) pa_nil))))))))))))))), ?_⟩
  unfold m_law_classes
  exact (es_seq (es_asg (ev_lst (ea_cons (ev_isXo T.ie_InvalidProgram hcl hc_InvalidProgram (ev_var 0)) (ea_cons (ev_isXo T.ie_InvalidDuo hcl hc_InvalidDuo (ev_var 0)) (ea_cons (ev_isXo T.ie_InvalidSize hcl hc_InvalidSize (ev_var 0)) ea_nil)))) (eg_name 1))
    (es_seq (es_asg (ev_op od_add (ev_var 1) (ev_lst (ea_cons (ev_isXo T.ie_InvalidTerms hcl hc_InvalidTerms (ev_var 0)) (ea_cons (ev_isXo T.ie_InvalidTurn hcl hc_InvalidTurn (ev_var 0)) (ea_cons (ev_isXo T.ie_InvalidGuide hcl hc_InvalidGuide (ev_var 0)) ea_nil))))) (eg_name 1))
    (es_seq (es_asg (ev_op od_add (ev_var 1) (ev_lst (ea_cons (ev_isXo T.ie_InvalidTeam hcl hc_InvalidTeam (ev_var 0)) (ea_cons (ev_isXo T.ie_InvalidRounds hcl hc_InvalidRounds (ev_var 0)) (ea_cons (ev_isXo T.ie_InvalidDurations hcl hc_InvalidDurations (ev_var 0)) ea_nil))))) (eg_name 1))
    (es_seq (es_setW 1 (ew_addL (ev_var 1) (ev_lst (ea_cons (ev_isXo T.ie_InvalidLetter hcl hc_InvalidLetter (ev_var 0)) (ea_cons (ev_isXo T.ie_InvalidEdit hcl hc_InvalidEdit (ev_var 0)) (ea_cons (ev_isXo T.ie_InvalidLimit hcl hc_InvalidLimit (ev_var 0)) ea_nil))))))
    (es_seq (es_appP (ep_var 1) (ev_isXo T.ie_InvalidText hcl hc_InvalidText (ev_var 0)))
    (es_frz 1 (es_seq (es_asg (ev_op od_add (ev_var 1) (ev_lst (ea_cons (ev_isXo T.ie_Ringed hcl hc_Ringed (ev_var 0)) (ea_cons (ev_isXo T.ie_SamePipe hcl hc_SamePipe (ev_var 0)) (ea_cons (ev_isXo T.ie_NotStuck hcl hc_NotStuck (ev_var 0)) (ea_cons (ev_isXo T.ie_Starved hcl hc_Starved (ev_var 0)) ea_nil)))))) (eg_name 1))
    (es_seq (es_asg (ev_op od_add (ev_var 1) (ev_lst (ea_cons (ev_isXo T.ie_UnknownCommand hcl hc_UnknownCommand (ev_var 0)) (ea_cons (ev_isXo T.ie_NoPipe hcl hc_NoPipe (ev_var 0)) (ea_cons (ev_isXo T.ie_NoPair hcl hc_NoPair (ev_var 0)) ea_nil))))) (eg_name 1))
    (es_seq (es_asg (ev_op od_add (ev_var 1) (ev_lst (ea_cons (ev_isXo T.ie_NoStep hcl hc_NoStep (ev_var 0)) (ea_cons (ev_isXo T.ie_NothingToUndo hcl hc_NothingToUndo (ev_var 0)) (ea_cons (ev_isXo T.ie_NothingToRedo hcl hc_NothingToRedo (ev_var 0)) ea_nil))))) (eg_name 1))
    (es_ret (ev_op od_add (ev_var 1) (ev_lst (ea_cons (ev_isXo T.ie_NoMark hcl hc_NoMark (ev_var 0)) (ea_cons (ev_isXo T.ie_CannotGo hcl hc_CannotGo (ev_var 0)) (ea_cons (ev_isXo T.ie_TooMany hcl hc_TooMany (ev_var 0)) ea_nil)))))))))))))))
/-! ### _law_bases -/
noncomputable abbrev N_law_bases : List Str := ["_law_e", "_law_told", "_law_one"]
theorem sc_law_bases : FnScope N_law_bases ["_law_e"] (defScope s_law_bases) := ⟨rfl, rfl, rfl, by decide +kernel, rfl, by decide +kernel, by decide +kernel⟩
theorem at_law_bases : ArgsTo s_law_bases "_law_bases" ["_law_e"] := fun _ _ _ _ _ _ us ws h => match us, ws, h with
  | [], [_], _ => rfl
  | [_], [], _ => rfl
noncomputable def m_law_bases : MS :=
  (mSeq (mAsg (mLst (mCons (mUn (dIsX (tabL tb_TallyError)) (mVar 0)) (mCons (mUn (dIsX (tabL tb_ValueError)) (mVar 0)) (mCons (mUn (dIsX (tabL tb_KeyError)) (mVar 0)) (mCons (mUn (dIsX (tabL tb_IndexError)) (mVar 0)) mNil))))) (gSet 1))
    (mSeq (mAsg (mOp (pur dAdd) (mVar 1) (mLst (mCons (mUn (dIsX (tabL tb_LookupError)) (mVar 0)) (mCons (mUn (dIsX (tabL tb_RuntimeError)) (mVar 0)) (mCons (mUn (dIsX (tabL tb_OverflowError)) (mVar 0)) mNil))))) (gSet 1))
    (mRet (mLc [2] (mItems (mVar 1)) (gSet 2) mYes (mCB dInt (mCons (mVar 2) mNil))))))
noncomputable def f_law_bases : List D → Option AV := fnP N_law_bases 1 m_law_bases
theorem k_law_bases (T : Txt K mg) (hG : G.K = K) (hcl : G.cls = clsOf K) (hp : G.pl = plT) (hs : ∃ o, base.get? sysModules = some o) : Cao P w K mg base 1 "_law_bases" ["_law_e"] (SpP G f_law_bases) := by
  subst hG
  have sc := sc_law_bases
  obtain ⟨C_TallyError, hc_TallyError, hm_TallyError⟩ := T.q_TallyError
  have g_TallyError : G.cls "TallyError" = some C_TallyError := (congrFun hcl _).trans hc_TallyError
  refine caoP (k := 0) T.d_law_bases sc at_law_bases (fun f cdv A outer s H E hr => ?_)
  refine ⟨_, (pss_cons (ps_set (i := 1) sc.nd rfl (Or.inl rfl) (pe_lst (pa_cons (pe_callB (isXK (K := G.K) rfl) (by rfl) T.n_isinstance PyProof.Rows.boot_isinstance (pa_cons (pv 0) (pa_cons (clsNK hm_TallyError ⟨rfl, rfl, rfl, rfl, rfl⟩) pa_nil))) (pa_cons (pe_callB (isXK (K := G.K) rfl) (by rfl) T.n_isinstance PyProof.Rows.boot_isinstance (pa_cons (pv 0) (pa_cons (pe_ty (T := "ValueError") T.n_ValueError) pa_nil))) (pa_cons (pe_callB (isXK (K := G.K) rfl) (by rfl) T.n_isinstance PyProof.Rows.boot_isinstance (pa_cons (pv 0) (pa_cons (pe_ty (T := "KeyError") T.n_KeyError) pa_nil))) (pa_cons (pe_callB (isXK (K := G.K) rfl) (by rfl) T.n_isinstance PyProof.Rows.boot_isinstance (pa_cons (pv 0) (pa_cons (pe_ty (T := "IndexError") T.n_IndexError) pa_nil))) pa_nil))))))
    (pss_cons (ps_set (i := 1) sc.nd rfl (Or.inl rfl) (pe_op (addK (K := G.K) rfl) (pv 1) (pe_lst (pa_cons (pe_callB (isXK (K := G.K) rfl) (by rfl) T.n_isinstance PyProof.Rows.boot_isinstance (pa_cons (pv 0) (pa_cons (pe_ty (T := "LookupError") T.n_LookupError) pa_nil))) (pa_cons (pe_callB (isXK (K := G.K) rfl) (by rfl) T.n_isinstance PyProof.Rows.boot_isinstance (pa_cons (pv 0) (pa_cons (pe_ty (T := "RuntimeError") T.n_RuntimeError) pa_nil))) (pa_cons (pe_callB (isXK (K := G.K) rfl) (by rfl) T.n_isinstance PyProof.Rows.boot_isinstance (pa_cons (pv 0) (pa_cons (pe_ty (T := "OverflowError") T.n_OverflowError) pa_nil))) pa_nil))))))
    (pss_one (ps_ret (pe_lc (own := [("_law_one", 2)]) rfl sc.nd (piK (K := G.K) rfl (pv 1)) (blkOk_by (own := [("_law_one", 2)]) (N := N_law_bases) (sc := defScope s_law_bases) (by decide +kernel)) (fun _ _ _ _ _ => (pg_name (i := 2) sc.nd rfl (by first | exact Or.inl rfl | exact Or.inr rfl))) (fun _ _ _ _ _ => pts_nil) (fun _ _ _ _ _ => (pe_callTy call_int1 (by rfl) T.n_int (by decide +kernel) (pa_cons (pv 2) pa_nil)))))))), ?_⟩
  unfold m_law_bases
  exact (es_seq (es_asg (ev_lst (ea_cons (ev_isXo T.ie_TallyError hcl hc_TallyError (ev_var 0)) (ea_cons (ev_isXb T.ib_ValueError hcl (ev_var 0)) (ea_cons (ev_isXb T.ib_KeyError hcl (ev_var 0)) (ea_cons (ev_isXb T.ib_IndexError hcl (ev_var 0)) ea_nil))))) (eg_name 1))
    (es_seq (es_asg (ev_op od_add (ev_var 1) (ev_lst (ea_cons (ev_isXb T.ib_LookupError hcl (ev_var 0)) (ea_cons (ev_isXb T.ib_RuntimeError hcl (ev_var 0)) (ea_cons (ev_isXb T.ib_OverflowError hcl (ev_var 0)) ea_nil))))) (eg_name 1))
    (es_ret (ev_lc (vs := [2]) (ei_any (ev_var 1)) (eg_name 2) et_yes (ev_cb cd_int (ea_cons (ev_var 2) ea_nil))))))
/-! ### _law_fields -/
noncomputable abbrev N_law_fields : List Str := ["_law_e", "_law_told"]
theorem sc_law_fields : FnScope N_law_fields ["_law_e"] (defScope s_law_fields) := ⟨rfl, rfl, rfl, by decide +kernel, rfl, by decide +kernel, by decide +kernel⟩
theorem at_law_fields : ArgsTo s_law_fields "_law_fields" ["_law_e"] := fun _ _ _ _ _ _ us ws h => match us, ws, h with
  | [], [_], _ => rfl
  | [_], [], _ => rfl
noncomputable def m_law_fields : MS :=
  (mSeq (mAsg (mLst (mCons (mUn (dXf (fun c => fl_index.contains c) "index") (mOp (pur dIx) (mVar 0) (mC (.int 0)))) (mCons (mUn (dXf (fun c => fl_pipe.contains c) "pipe") (mOp (pur dIx) (mVar 0) (mC (.int 1)))) (mCons (mUn (dXf (fun c => fl_name.contains c) "name") (mOp (pur dIx) (mVar 0) (mC (.int 2)))) (mCons (mUn (dXf (fun c => fl_name.contains c) "name") (mOp (pur dIx) (mVar 0) (mC (.int 3)))) (mCons (mUn (dXf (fun c => fl_index.contains c) "index") (mOp (pur dIx) (mVar 0) (mC (.int 4)))) (mCons (mUn (dXf (fun c => fl_pair.contains c) "pair") (mOp (pur dIx) (mVar 0) (mC (.int 5)))) (mCons (mUn (dXf (fun c => fl_pipe.contains c) "pipe") (mOp (pur dIx) (mVar 0) (mC (.int 6)))) (mCons (mUn (dXf (fun c => fl_number.contains c) "number") (mOp (pur dIx) (mVar 0) (mC (.int 7)))) (mCons (mUn (dXf (fun c => fl_letter.contains c) "letter") (mOp (pur dIx) (mVar 0) (mC (.int 8)))) mNil)))))))))) (gSet 1))
    (mSeq (mAsg (mOp (pur dAdd) (mVar 1) (mLst (mCons (mUn (dXf (fun c => fl_letter.contains c) "letter") (mOp (pur dIx) (mVar 0) (mC (.int 9)))) (mCons (mUn (dXf (fun c => fl_index.contains c) "index") (mOp (pur dIx) (mVar 0) (mC (.int 10)))) (mCons (mUn (dXf (fun c => fl_number.contains c) "number") (mOp (pur dIx) (mVar 0) (mC (.int 11)))) (mCons (mUn (dXf (fun c => fl_line.contains c) "line") (mOp (pur dIx) (mVar 0) (mC (.int 12)))) (mCons (mUn (dXf (fun c => fl_members.contains c) "members") (mOp (pur dIx) (mVar 0) (mC (.int 13)))) (mCons (mUn (dXf (fun c => fl_index.contains c) "index") (mOp (pur dIx) (mVar 0) (mC (.int 14)))) (mCons (mUn (dXf (fun c => fl_pair.contains c) "pair") (mOp (pur dIx) (mVar 0) (mC (.int 15)))) mNil))))))))) (gSet 1))
    (mSeq (mAsg (mOp (pur dAdd) (mVar 1) (mLst (mCons (mUn (dXf (fun c => fl_pair.contains c) "pair") (mOp (pur dIx) (mVar 0) (mC (.int 16)))) (mCons (mUn (dXf (fun c => fl_command.contains c) "command") (mOp (pur dIx) (mVar 0) (mC (.int 17)))) (mCons (mUn (dXf (fun c => fl_name.contains c) "name") (mOp (pur dIx) (mVar 0) (mC (.int 18)))) (mCons (mUn (dXf (fun c => fl_pair.contains c) "pair") (mOp (pur dIx) (mVar 0) (mC (.int 19)))) (mCons (mUn (dXf (fun c => fl_index.contains c) "index") (mOp (pur dIx) (mVar 0) (mC (.int 20)))) (mCons (mUn (dXf (fun c => fl_count.contains c) "count") (mOp (pur dIx) (mVar 0) (mC (.int 21)))) (mCons (mUn (dXf (fun c => fl_count.contains c) "count") (mOp (pur dIx) (mVar 0) (mC (.int 22)))) mNil))))))))) (gSet 1))
    (mRet (mOp (pur dAdd) (mVar 1) (mLst (mCons (mUn (dXf (fun c => fl_name.contains c) "name") (mOp (pur dIx) (mVar 0) (mC (.int 23)))) (mCons (mUn (dXf (fun c => fl_who.contains c) "who") (mOp (pur dIx) (mVar 0) (mC (.int 24)))) (mCons (mUn (dXf (fun c => fl_most.contains c) "most") (mOp (pur dIx) (mVar 0) (mC (.int 25)))) mNil)))))))))
noncomputable def f_law_fields : List D → Option AV := fnP N_law_fields 1 m_law_fields
theorem k_law_fields (T : Txt K mg) (hG : G.K = K) (hcl : G.cls = clsOf K) (hp : G.pl = plT) (hs : ∃ o, base.get? sysModules = some o) : Cao P w K mg base 1 "_law_fields" ["_law_e"] (SpP G f_law_fields) := by
  subst hG
  have sc := sc_law_fields
  refine caoP (k := 0) T.d_law_fields sc at_law_fields (fun f cdv A outer s H E hr => ?_)
  refine ⟨_, (pss_cons (ps_set (i := 1) sc.nd rfl (Or.inl rfl) (pe_lst (pa_cons (xfK (K := G.K) rfl (pe_ix (ixK (K := G.K) rfl) (pv 0) pe_int (fun _ _ => rfl))) (pa_cons (xfK (K := G.K) rfl (pe_ix (ixK (K := G.K) rfl) (pv 0) pe_int (fun _ _ => rfl))) (pa_cons (xfK (K := G.K) rfl (pe_ix (ixK (K := G.K) rfl) (pv 0) pe_int (fun _ _ => rfl))) (pa_cons (xfK (K := G.K) rfl (pe_ix (ixK (K := G.K) rfl) (pv 0) pe_int (fun _ _ => rfl))) (pa_cons (xfK (K := G.K) rfl (pe_ix (ixK (K := G.K) rfl) (pv 0) pe_int (fun _ _ => rfl))) (pa_cons (xfK (K := G.K) rfl (pe_ix (ixK (K := G.K) rfl) (pv 0) pe_int (fun _ _ => rfl))) (pa_cons (xfK (K := G.K) rfl (pe_ix (ixK (K := G.K) rfl) (pv 0) pe_int (fun _ _ => rfl))) (pa_cons (xfK (K := G.K) rfl (pe_ix (ixK (K := G.K) rfl) (pv 0) pe_int (fun _ _ => rfl))) (pa_cons (xfK (K := G.K) rfl (pe_ix (ixK (K := G.K) rfl) (pv 0) pe_int (fun _ _ => rfl))) pa_nil)))))))))))
    (pss_cons (ps_set (i := 1) sc.nd rfl (Or.inl rfl) (pe_op (addK (K := G.K) rfl) (pv 1) (pe_lst (pa_cons (xfK (K := G.K) rfl (pe_ix (ixK (K := G.K) rfl) (pv 0) pe_int (fun _ _ => rfl))) (pa_cons (xfK (K := G.K) rfl (pe_ix (ixK (K := G.K) rfl) (pv 0) pe_int (fun _ _ => rfl))) (pa_cons (xfK (K := G.K) rfl (pe_ix (ixK (K := G.K) rfl) (pv 0) pe_int (fun _ _ => rfl))) (pa_cons (xfK (K := G.K) rfl (pe_ix (ixK (K := G.K) rfl) (pv 0) pe_int (fun _ _ => rfl))) (pa_cons (xfK (K := G.K) rfl (pe_ix (ixK (K := G.K) rfl) (pv 0) pe_int (fun _ _ => rfl))) (pa_cons (xfK (K := G.K) rfl (pe_ix (ixK (K := G.K) rfl) (pv 0) pe_int (fun _ _ => rfl))) (pa_cons (xfK (K := G.K) rfl (pe_ix (ixK (K := G.K) rfl) (pv 0) pe_int (fun _ _ => rfl))) pa_nil))))))))))
    (pss_cons (ps_set (i := 1) sc.nd rfl (Or.inl rfl) (pe_op (addK (K := G.K) rfl) (pv 1) (pe_lst (pa_cons (xfK (K := G.K) rfl (pe_ix (ixK (K := G.K) rfl) (pv 0) pe_int (fun _ _ => rfl))) (pa_cons (xfK (K := G.K) rfl (pe_ix (ixK (K := G.K) rfl) (pv 0) pe_int (fun _ _ => rfl))) (pa_cons (xfK (K := G.K) rfl (pe_ix (ixK (K := G.K) rfl) (pv 0) pe_int (fun _ _ => rfl))) (pa_cons (xfK (K := G.K) rfl (pe_ix (ixK (K := G.K) rfl) (pv 0) pe_int (fun _ _ => rfl))) (pa_cons (xfK (K := G.K) rfl (pe_ix (ixK (K := G.K) rfl) (pv 0) pe_int (fun _ _ => rfl))) (pa_cons (xfK (K := G.K) rfl (pe_ix (ixK (K := G.K) rfl) (pv 0) pe_int (fun _ _ => rfl))) (pa_cons (xfK (K := G.K) rfl (pe_ix (ixK (K := G.K) rfl) (pv 0) pe_int (fun _ _ => rfl))) pa_nil))))))))))
    (pss_one (ps_ret (pe_op (addK (K := G.K) rfl) (pv 1) (pe_lst (pa_cons (xfK (K := G.K) rfl (pe_ix (ixK (K := G.K) rfl) (pv 0) pe_int (fun _ _ => rfl))) (pa_cons (xfK (K := G.K) rfl (pe_ix (ixK (K := G.K) rfl) (pv 0) pe_int (fun _ _ => rfl))) (pa_cons (xfK (K := G.K) rfl (pe_ix (ixK (K := G.K) rfl) (pv 0) pe_int (fun _ _ => rfl))) pa_nil)))))))))), ?_⟩
  unfold m_law_fields
  exact (es_seq (es_asg (ev_lst (ea_cons (ev_xfA T.xf_index hcl (ev_op od_ix (ev_var 0) (ev_int 0))) (ea_cons (ev_xfA T.xf_pipe hcl (ev_op od_ix (ev_var 0) (ev_int 1))) (ea_cons (ev_xfA T.xf_name hcl (ev_op od_ix (ev_var 0) (ev_int 2))) (ea_cons (ev_xfA T.xf_name hcl (ev_op od_ix (ev_var 0) (ev_int 3))) (ea_cons (ev_xfA T.xf_index hcl (ev_op od_ix (ev_var 0) (ev_int 4))) (ea_cons (ev_xfA T.xf_pair hcl (ev_op od_ix (ev_var 0) (ev_int 5))) (ea_cons (ev_xfA T.xf_pipe hcl (ev_op od_ix (ev_var 0) (ev_int 6))) (ea_cons (ev_xfA T.xf_number hcl (ev_op od_ix (ev_var 0) (ev_int 7))) (ea_cons (ev_xfA T.xf_letter hcl (ev_op od_ix (ev_var 0) (ev_int 8))) ea_nil)))))))))) (eg_name 1))
    (es_seq (es_asg (ev_op od_add (ev_var 1) (ev_lst (ea_cons (ev_xfA T.xf_letter hcl (ev_op od_ix (ev_var 0) (ev_int 9))) (ea_cons (ev_xfA T.xf_index hcl (ev_op od_ix (ev_var 0) (ev_int 10))) (ea_cons (ev_xfA T.xf_number hcl (ev_op od_ix (ev_var 0) (ev_int 11))) (ea_cons (ev_xfA T.xf_line hcl (ev_op od_ix (ev_var 0) (ev_int 12))) (ea_cons (ev_xfA T.xf_members hcl (ev_op od_ix (ev_var 0) (ev_int 13))) (ea_cons (ev_xfA T.xf_index hcl (ev_op od_ix (ev_var 0) (ev_int 14))) (ea_cons (ev_xfA T.xf_pair hcl (ev_op od_ix (ev_var 0) (ev_int 15))) ea_nil))))))))) (eg_name 1))
    (es_seq (es_asg (ev_op od_add (ev_var 1) (ev_lst (ea_cons (ev_xfA T.xf_pair hcl (ev_op od_ix (ev_var 0) (ev_int 16))) (ea_cons (ev_xfA T.xf_command hcl (ev_op od_ix (ev_var 0) (ev_int 17))) (ea_cons (ev_xfA T.xf_name hcl (ev_op od_ix (ev_var 0) (ev_int 18))) (ea_cons (ev_xfA T.xf_pair hcl (ev_op od_ix (ev_var 0) (ev_int 19))) (ea_cons (ev_xfA T.xf_index hcl (ev_op od_ix (ev_var 0) (ev_int 20))) (ea_cons (ev_xfA T.xf_count hcl (ev_op od_ix (ev_var 0) (ev_int 21))) (ea_cons (ev_xfA T.xf_count hcl (ev_op od_ix (ev_var 0) (ev_int 22))) ea_nil))))))))) (eg_name 1))
    (es_ret (ev_op od_add (ev_var 1) (ev_lst (ea_cons (ev_xfA T.xf_name hcl (ev_op od_ix (ev_var 0) (ev_int 23))) (ea_cons (ev_xfA T.xf_who hcl (ev_op od_ix (ev_var 0) (ev_int 24))) (ea_cons (ev_xfA T.xf_most hcl (ev_op od_ix (ev_var 0) (ev_int 25))) ea_nil)))))))))
/-! ### law -/
noncomputable abbrev N_law : List Str := ["_law_script", "_law_pen_here", "_law_due", "_law_turn", "_law_k", "_law_one", "_law_two", "_law_some", "_law_named_here", "_law_j"]
theorem sc_law : FnScope N_law ["_law_script"] (defScope s_law) := ⟨rfl, rfl, rfl, by decide +kernel, rfl, by decide +kernel, by decide +kernel⟩
theorem at_law : ArgsTo s_law "law" ["_law_script"] := fun _ _ _ _ _ _ us ws h => match us, ws, h with
  | [], [_], _ => rfl
  | [_], [], _ => rfl
noncomputable def m_law : MS :=
  (mSeq (mSetW 1 (mCallPW f_law_pen (mCons (mVar 0) mNil)))
    (mSeq (mAsg (mOp (pur dAdd) (mOp (pur dAdd) (mOp (pur dMulA) (mLst (mCons (mLst (mCons (mC (.int 1)) (mCons (mC (.int 1)) (mCons (mC (.int 0)) (mCons (mC (.int 0)) (mCons (mC (.int 0)) (mCons (mC (.int 0)) (mCons (mC (.int 0)) mNil)))))))) mNil)) (mC (.int 18))) (mLst (mCons (mLst (mCons (mC (.int 0)) (mCons (mC (.int 0)) (mCons (mC (.int 1)) (mCons (mC (.int 0)) (mCons (mC (.int 1)) (mCons (mC (.int 0)) (mCons (mC (.int 0)) mNil)))))))) mNil))) (mOp (pur dMulA) (mLst (mCons (mLst (mCons (mC (.int 0)) (mCons (mC (.int 0)) (mCons (mC (.int 0)) (mCons (mC (.int 1)) (mCons (mC (.int 1)) (mCons (mC (.int 0)) (mCons (mC (.int 0)) mNil)))))))) mNil)) (mC (.int 2)))) (gSet 2))
    (mSeq (mAsg (mOp (pur dAdd) (mOp (pur dAdd) (mVar 2) (mOp (pur dMulA) (mLst (mCons (mLst (mCons (mC (.int 0)) (mCons (mC (.int 0)) (mCons (mC (.int 0)) (mCons (mC (.int 0)) (mCons (mC (.int 1)) (mCons (mC (.int 0)) (mCons (mC (.int 0)) mNil)))))))) mNil)) (mC (.int 3)))) (mLst (mCons (mLst (mCons (mC (.int 0)) (mCons (mC (.int 0)) (mCons (mC (.int 0)) (mCons (mC (.int 0)) (mCons (mC (.int 0)) (mCons (mC (.int 1)) (mCons (mC (.int 0)) mNil)))))))) (mCons (mLst (mCons (mC (.int 0)) (mCons (mC (.int 0)) (mCons (mC (.int 0)) (mCons (mC (.int 0)) (mCons (mC (.int 0)) (mCons (mC (.int 0)) (mCons (mC (.int 1)) mNil)))))))) mNil)))) (gSet 2))
    (mSeq (mFor (mRange dRange1 (mCons (mC (.int 4)) mNil)) (gSet 3) (mSeq (mPar 5 6 (mCons (mCallI f_law_odd 1 (mPV 1) mNil) (mCons (mCallI f_law_odd 1 (mPV 1) mNil) mNil)))
    (mSeq (mPar 7 8 (mCons (mCallP f_law_errors (mCons (mVar 5) (mCons (mVar 6) mNil))) (mCons (mCallP f_law_named (mCons (mVar 5) (mCons (mVar 6) mNil))) mNil)))
    (mSeq (mFor (mRange dRange1 (mCons (mC (.int 26)) mNil)) (gSet 4) (mIf (mOr (mTB (mOp (pur dNeX) (mCallP f_law_classes (mCons (mOp (pur dIx) (mVar 7) (mVar 4)) mNil)) (mLc [9] (mRange dRange1 (mCons (mC (.int 26)) mNil)) (gSet 9) mYes (mOp (pur dEqX) (mVar 9) (mVar 4))))) (mTB (mOp (pur dNeX) (mCallP f_law_bases (mCons (mOp (pur dIx) (mVar 7) (mVar 4)) mNil)) (mOp (pur dIx) (mVar 2) (mVar 4))))) (mRet (mC (.bl false))) mNext))
    (mSeq (mIf (mTB (mOp (pur dNeX) (mCB dRepr (mCons (mLst (mCons (mCallP f_law_fields (mCons (mVar 7) mNil)) (mCons (mCallP f_law_fields (mCons (mVar 8) mNil)) mNil))) mNil)) (mCB dRepr (mCons (mOp (pur dMulA) (mLst (mCons (mOp (pur dMulA) (mLst (mCons (mVar 5) mNil)) (mC (.int 26))) mNil)) (mC (.int 2))) mNil)))) (mRet (mC (.bl false))) mNext)
    (mIf (mTB (mOp (pur dNeX) (mCB dRepr (mCons (mLst (mCons (mUn (dXf (fun c => fl_word.contains c) "word") (mOp (pur dIx) (mVar 7) (mC (.int 12)))) (mCons (mUn (dXf (fun c => fl_word.contains c) "word") (mOp (pur dIx) (mVar 8) (mC (.int 12)))) mNil))) mNil)) (mCB dRepr (mCons (mLst (mCons (mVar 6) (mCons (mVar 6) mNil))) mNil)))) (mRet (mC (.bl false))) mNext))))))
    (mRet (mC (.bl true)))))))
noncomputable def f_law : List D → Option AV := fnP N_law 1 m_law
theorem k_law (T : Txt K mg) (hG : G.K = K) (hcl : G.cls = clsOf K) (hp : G.pl = plT) (hs : ∃ o, base.get? sysModules = some o) (c_law_pen : Cao P w K mg base 1 "_law_pen" ["_law_script"] (SpP G f_law_pen)) (c_law_odd : Cao P w K mg base 2 "_law_odd" ["_law_pen_here"] (SpI G f_law_odd)) (c_law_errors : Cao P w K mg base 3 "_law_errors" ["_law_one", "_law_two"] (SpP G f_law_errors)) (c_law_named : Cao P w K mg base 3 "_law_named" ["_law_one", "_law_two"] (SpP G f_law_named)) (c_law_classes : Cao P w K mg base 1 "_law_classes" ["_law_e"] (SpP G f_law_classes)) (c_law_bases : Cao P w K mg base 1 "_law_bases" ["_law_e"] (SpP G f_law_bases)) (c_law_fields : Cao P w K mg base 1 "_law_fields" ["_law_e"] (SpP G f_law_fields)) : Cal P w K mg base 4 "law" ["_law_script"] (SpP G f_law) := by
  subst hG
  have sc := sc_law
  refine calP (k := 3) T.d_law sc at_law (fun f cdv A outer s H E gd hr => ?_)
  refine ⟨_, (pss_cons (ps_set (i := 1) sc.nd rfl (Or.inl rfl) (callO c_law_pen ⟨rfl, rfl, rfl, rfl, rfl⟩ hr (pa_cons (pv 0) pa_nil)))
    (pss_cons (ps_set (i := 2) sc.nd rfl (Or.inl rfl) (pe_op (addK (K := G.K) rfl) (pe_op (addK (K := G.K) rfl) (pe_op op_mulA (pe_lst (pa_cons (pe_lst (pa_cons pe_int (pa_cons pe_int (pa_cons pe_int (pa_cons pe_int (pa_cons pe_int (pa_cons pe_int (pa_cons pe_int pa_nil)))))))) pa_nil)) pe_int) (pe_lst (pa_cons (pe_lst (pa_cons pe_int (pa_cons pe_int (pa_cons pe_int (pa_cons pe_int (pa_cons pe_int (pa_cons pe_int (pa_cons pe_int pa_nil)))))))) pa_nil))) (pe_op op_mulA (pe_lst (pa_cons (pe_lst (pa_cons pe_int (pa_cons pe_int (pa_cons pe_int (pa_cons pe_int (pa_cons pe_int (pa_cons pe_int (pa_cons pe_int pa_nil)))))))) pa_nil)) pe_int)))
    (pss_cons (ps_set (i := 2) sc.nd rfl (Or.inl rfl) (pe_op (addK (K := G.K) rfl) (pe_op (addK (K := G.K) rfl) (pv 2) (pe_op op_mulA (pe_lst (pa_cons (pe_lst (pa_cons pe_int (pa_cons pe_int (pa_cons pe_int (pa_cons pe_int (pa_cons pe_int (pa_cons pe_int (pa_cons pe_int pa_nil)))))))) pa_nil)) pe_int)) (pe_lst (pa_cons (pe_lst (pa_cons pe_int (pa_cons pe_int (pa_cons pe_int (pa_cons pe_int (pa_cons pe_int (pa_cons pe_int (pa_cons pe_int pa_nil)))))))) (pa_cons (pe_lst (pa_cons pe_int (pa_cons pe_int (pa_cons pe_int (pa_cons pe_int (pa_cons pe_int (pa_cons pe_int (pa_cons pe_int pa_nil)))))))) pa_nil)))))
    (pss_cons (ps_for PassesOwn.never rfl (pi_range1 (by rfl) T.n_range (pa_cons pe_int pa_nil)) (pg_name (i := 3) sc.nd rfl (by first | exact Or.inl rfl | exact Or.inr rfl)) (pss_cons (ps_par (i := 5) (j := 6) rfl sc.nd rfl rfl (by decide) rfl rfl (pa_cons (callO c_law_odd ⟨rfl, rfl, rfl, rfl, rfl⟩ hr (pa_cons (pv 1) pa_nil)) (pa_cons (callO c_law_odd ⟨rfl, rfl, rfl, rfl, rfl⟩ hr (pa_cons (pv 1) pa_nil)) pa_nil)) (by rfl))
    (pss_cons (ps_par (i := 7) (j := 8) rfl sc.nd rfl rfl (by decide) rfl rfl (pa_cons (callO c_law_errors ⟨rfl, rfl, rfl, rfl, rfl⟩ hr (pa_cons (pv 5) (pa_cons (pv 6) pa_nil))) (pa_cons (callO c_law_named ⟨rfl, rfl, rfl, rfl, rfl⟩ hr (pa_cons (pv 5) (pa_cons (pv 6) pa_nil))) pa_nil)) (by rfl))
    (pss_cons (ps_for PassesOwn.never rfl (pi_range1 (by rfl) T.n_range (pa_cons pe_int pa_nil)) (pg_name (i := 4) sc.nd rfl (by first | exact Or.inl rfl | exact Or.inr rfl)) (pss_one (ps_if (PW.pt (pw_or (pt_cmpR (neK (K := G.K) rfl hr) (callO c_law_classes ⟨rfl, rfl, rfl, rfl, rfl⟩ hr (pa_cons (pe_ix (ixK (K := G.K) rfl) (pv 7) (pv 4) (fun _ _ => rfl)) pa_nil)) (pe_lc (own := [("_law_j", 9)]) rfl sc.nd (pi_range1 (by rfl) T.n_range (pa_cons pe_int pa_nil)) (blkOk_by (own := [("_law_j", 9)]) (N := N_law) (sc := defScope s_law) (by decide +kernel)) (fun _ _ _ _ _ => (pg_name (i := 9) sc.nd rfl (by first | exact Or.inl rfl | exact Or.inr rfl))) (fun _ _ _ _ _ => pts_nil) (fun _ _ _ _ _ => (pe_cmpR (eqK (K := G.K) rfl hr) (pv 9) (pv 4) (nomark _)))) (nomark _)) (pw_or1 (pt_cmpR (neK (K := G.K) rfl hr) (callO c_law_bases ⟨rfl, rfl, rfl, rfl, rfl⟩ hr (pa_cons (pe_ix (ixK (K := G.K) rfl) (pv 7) (pv 4) (fun _ _ => rfl)) pa_nil)) (pe_ix (ixK (K := G.K) rfl) (pv 2) (pv 4) (fun _ _ => rfl)) (nomark _))))) (pss_one (ps_ret pe_bl)) pss_nil)))
    (pss_cons (ps_if (pt_cmpR (neK (K := G.K) rfl hr) (pe_callB (call_repr gd hs (u66 hr) rfl) (by rfl) T.n_repr PyProof.Rows.boot_repr (pa_cons (pe_lst (pa_cons (callO c_law_fields ⟨rfl, rfl, rfl, rfl, rfl⟩ hr (pa_cons (pv 7) pa_nil)) (pa_cons (callO c_law_fields ⟨rfl, rfl, rfl, rfl, rfl⟩ hr (pa_cons (pv 8) pa_nil)) pa_nil))) pa_nil)) (pe_callB (call_repr gd hs (u66 hr) rfl) (by rfl) T.n_repr PyProof.Rows.boot_repr (pa_cons (pe_op op_mulA (pe_lst (pa_cons (pe_op op_mulA (pe_lst (pa_cons (pv 5) pa_nil)) pe_int) pa_nil)) pe_int) pa_nil)) (nomark _)) (pss_one (ps_ret pe_bl)) pss_nil)
    (pss_one (ps_if (pt_cmpR (neK (K := G.K) rfl hr) (pe_callB (call_repr gd hs (u66 hr) rfl) (by rfl) T.n_repr PyProof.Rows.boot_repr (pa_cons (pe_lst (pa_cons (xfK (K := G.K) rfl (pe_ix (ixK (K := G.K) rfl) (pv 7) pe_int (fun _ _ => rfl))) (pa_cons (xfK (K := G.K) rfl (pe_ix (ixK (K := G.K) rfl) (pv 8) pe_int (fun _ _ => rfl))) pa_nil))) pa_nil)) (pe_callB (call_repr gd hs (u66 hr) rfl) (by rfl) T.n_repr PyProof.Rows.boot_repr (pa_cons (pe_lst (pa_cons (pv 6) (pa_cons (pv 6) pa_nil))) pa_nil)) (nomark _)) (pss_one (ps_ret pe_bl)) pss_nil)))))))
    (pss_one (ps_ret pe_bl)))))), ?_⟩
  unfold m_law
  exact (es_seq (es_setW 1 (ew_callP (ea_cons (ev_var 0) ea_nil)))
    (es_seq (es_asg (ev_op od_add (ev_op od_add (ev_op od_mulA (ev_lst (ea_cons (ev_lst (ea_cons (ev_int 1) (ea_cons (ev_int 1) (ea_cons (ev_int 0) (ea_cons (ev_int 0) (ea_cons (ev_int 0) (ea_cons (ev_int 0) (ea_cons (ev_int 0) ea_nil)))))))) ea_nil)) (ev_int 18)) (ev_lst (ea_cons (ev_lst (ea_cons (ev_int 0) (ea_cons (ev_int 0) (ea_cons (ev_int 1) (ea_cons (ev_int 0) (ea_cons (ev_int 1) (ea_cons (ev_int 0) (ea_cons (ev_int 0) ea_nil)))))))) ea_nil))) (ev_op od_mulA (ev_lst (ea_cons (ev_lst (ea_cons (ev_int 0) (ea_cons (ev_int 0) (ea_cons (ev_int 0) (ea_cons (ev_int 1) (ea_cons (ev_int 1) (ea_cons (ev_int 0) (ea_cons (ev_int 0) ea_nil)))))))) ea_nil)) (ev_int 2))) (eg_name 2))
    (es_seq (es_asg (ev_op od_add (ev_op od_add (ev_var 2) (ev_op od_mulA (ev_lst (ea_cons (ev_lst (ea_cons (ev_int 0) (ea_cons (ev_int 0) (ea_cons (ev_int 0) (ea_cons (ev_int 0) (ea_cons (ev_int 1) (ea_cons (ev_int 0) (ea_cons (ev_int 0) ea_nil)))))))) ea_nil)) (ev_int 3))) (ev_lst (ea_cons (ev_lst (ea_cons (ev_int 0) (ea_cons (ev_int 0) (ea_cons (ev_int 0) (ea_cons (ev_int 0) (ea_cons (ev_int 0) (ea_cons (ev_int 1) (ea_cons (ev_int 0) ea_nil)))))))) (ea_cons (ev_lst (ea_cons (ev_int 0) (ea_cons (ev_int 0) (ea_cons (ev_int 0) (ea_cons (ev_int 0) (ea_cons (ev_int 0) (ea_cons (ev_int 0) (ea_cons (ev_int 1) ea_nil)))))))) ea_nil)))) (eg_name 2))
    (es_seq (es_for (ei_range1 (ea_cons (ev_int 4) ea_nil)) (eg_name 3) (es_seq (es_par 5 6 (ea_cons (ev_callI (ep_var 1) ea_nil) (ea_cons (ev_callI (ep_var 1) ea_nil) ea_nil)))
    (es_seq (es_par 7 8 (ea_cons (ev_callP (ea_cons (ev_var 5) (ea_cons (ev_var 6) ea_nil))) (ea_cons (ev_callP (ea_cons (ev_var 5) (ea_cons (ev_var 6) ea_nil))) ea_nil)))
    (es_seq (es_for (ei_range1 (ea_cons (ev_int 26) ea_nil)) (eg_name 4) (es_if (et_or (et_B (ev_op od_neX (ev_callP (ea_cons (ev_op od_ix (ev_var 7) (ev_var 4)) ea_nil)) (ev_lc (vs := [9]) (ei_range1 (ea_cons (ev_int 26) ea_nil)) (eg_name 9) et_yes (ev_op od_eqX (ev_var 9) (ev_var 4))))) (et_B (ev_op od_neX (ev_callP (ea_cons (ev_op od_ix (ev_var 7) (ev_var 4)) ea_nil)) (ev_op od_ix (ev_var 2) (ev_var 4))))) (es_ret (ev_bl false)) es_next))
    (es_seq (es_if (et_B (ev_op od_neX (ev_cb cd_repr (ea_cons (ev_lst (ea_cons (ev_callP (ea_cons (ev_var 7) ea_nil)) (ea_cons (ev_callP (ea_cons (ev_var 8) ea_nil)) ea_nil))) ea_nil)) (ev_cb cd_repr (ea_cons (ev_op od_mulA (ev_lst (ea_cons (ev_op od_mulA (ev_lst (ea_cons (ev_var 5) ea_nil)) (ev_int 26)) ea_nil)) (ev_int 2)) ea_nil)))) (es_ret (ev_bl false)) es_next)
    (es_if (et_B (ev_op od_neX (ev_cb cd_repr (ea_cons (ev_lst (ea_cons (ev_xfA T.xf_word hcl (ev_op od_ix (ev_var 7) (ev_int 12))) (ea_cons (ev_xfA T.xf_word hcl (ev_op od_ix (ev_var 8) (ev_int 12))) ea_nil))) ea_nil)) (ev_cb cd_repr (ea_cons (ev_lst (ea_cons (ev_var 6) (ea_cons (ev_var 6) ea_nil))) ea_nil)))) (es_ret (ev_bl false)) es_next))))))
    (es_ret (ev_bl true))))))
end
end W08
namespace W08
open PySem L2 PySem.Spec PyProof.Rows StX Eo
theorem bA {c t : Int} (h0 : 0 ≤ t) (h1 : t < 1000000) : (c.fmod 2147483477 + 30011 * t * t + 20011 * t + 7).natAbs < 2 ^ 64 := by
  have c0 := fmod_lo c (m := 2147483477) (by decide)
  have c1 := fmod_hi c (m := 2147483477) (by decide)
  have b0 : 30011 * t * t = 30011 * (t * t) := Int.mul_assoc _ _ _
  have b1 : 0 ≤ t * t := Int.mul_nonneg h0 h0
  have b2 : t * t ≤ 1000000 * 1000000 := Int.mul_le_mul (by omega) (by omega) (by omega) (by omega)
  rw [b0]
  omega
theorem bB {x t : Int} (hx : 0 ≤ x) (hx2 : x < 2147483647) (h0 : 0 ≤ t) (h1 : t < 1000000) : (x * (2 * t + 15) + 50021 * t + 3).natAbs < 2 ^ 64 := by
  have a1 : 0 ≤ x * (2 * t + 15) := Int.mul_nonneg hx (by omega)
  have a2 : x * (2 * t + 15) ≤ 2147483647 * 3000000 := Int.mul_le_mul (by omega) (by omega) (by omega) (by omega)
  omega
noncomputable def lateD : MS :=
  (mSeq (mIf (mAnd (mTB (mOp (pur dLt) (mVar 2) (mCB dLen (mCons (mLeaf 0 (mPIxC 0 0 (mPV 0))) mNil)))) (mTB (mOp (pur dGe) (mCB dAbs (mCons (mVar 3) mNil)) (mOp (pur dPow) (mC (.int 10)) (mC (.int 18)))))) (mSeq (mAsg (mOp (pur dAdd) (mOp (pur dMul) (mC (.int 2)) (mOp (pur dSub) (mCB dAbs (mCons (mVar 3) mNil)) (mOp (pur dPow) (mC (.int 10)) (mC (.int 18))))) (mCB dInt (mCons (mOp (pur dLt) (mVar 3) (mC (.int 0))) mNil))) (gSet 6))
    (mSeq (mPutP 0 (mPV 0) (mC (.int 2)) (mOp (pur dFdiv) (mVar 6) (mVar 1)))
    (mRet (mOp (pur dMod) (mVar 6) (mVar 1))))) mNext)
    (mSeq (mAsg (mOp (pur dMod) (mOp (pur dPow) (mOp (pur dAdd) (mOp (pur dAdd) (mOp (pur dAdd) (mOp (pur dMod) (mVar 3) (mC (.int 2147483477))) (mOp (pur dMul) (mOp (pur dMul) (mC (.int 30011)) (mVar 2)) (mVar 2))) (mOp (pur dMul) (mC (.int 20011)) (mVar 2))) (mC (.int 7))) (mC (.int 3))) (mC (.int 2147483647))) (gSet 4))
    (mSeq (mAsg (mOp (pur dMod) (mOp (pur dPow) (mOp (pur dAdd) (mOp (pur dAdd) (mOp (pur dMul) (mVar 4) (mOp (pur dAdd) (mOp (pur dMul) (mC (.int 2)) (mVar 2)) (mC (.int 15)))) (mOp (pur dMul) (mC (.int 50021)) (mVar 2))) (mC (.int 3))) (mC (.int 5))) (mC (.int 2147483563))) (gSet 4))
    (mRet (mOp (pur dMod) (mOp (pur dFdiv) (mVar 4) (mC (.int 32))) (mVar 1))))))
noncomputable def tailD : MS :=
  (mSeq (mAsg (mOp (pur dMod) (mOp (pur dPow) (mOp (pur dAdd) (mOp (pur dAdd) (mOp (pur dAdd) (mOp (pur dMod) (mVar 3) (mC (.int 2147483477))) (mOp (pur dMul) (mOp (pur dMul) (mC (.int 30011)) (mVar 2)) (mVar 2))) (mOp (pur dMul) (mC (.int 20011)) (mVar 2))) (mC (.int 7))) (mC (.int 3))) (mC (.int 2147483647))) (gSet 4))
    (mSeq (mAsg (mOp (pur dMod) (mOp (pur dPow) (mOp (pur dAdd) (mOp (pur dAdd) (mOp (pur dMul) (mVar 4) (mOp (pur dAdd) (mOp (pur dMul) (mC (.int 2)) (mVar 2)) (mC (.int 15)))) (mOp (pur dMul) (mC (.int 50021)) (mVar 2))) (mC (.int 3))) (mC (.int 5))) (mC (.int 2147483563))) (gSet 4))
    (mRet (mOp (pur dMod) (mOp (pur dFdiv) (mVar 4) (mC (.int 32))) (mVar 1)))))
theorem tailD_ok {c t n : Int} {ns : List Int} {M : Nat} {F F' F'' : Eo.Env → Prop} (hl : ns.length ≤ 63) (h0 : 0 ≤ t) (h1 : t < 1000000) (hM : t + 1 ≤ M) (hn : 0 < n) (hn2 : n < 1073741824) :
    (tailD [.io (penOf ns (t + 1) 0), .dat (.int n), .dat (.int t), .dat (.int c), .emp, .emp, .emp]).W F F' F'' (fun v ρ => ∃ p', io0 ρ = some p' ∧ ∃ d, v = .dat (.int d) ∧ 0 ≤ d ∧ d < n ∧ POk M p') nox := by
  unfold tailD
  have n1 : n ≠ 0 := by omega
  have n2 : n.natAbs < 1073741824 := by omega
  (repeat (first | with_reducible refine S_seq ?_ | with_reducible refine S_set ?_ | with_reducible refine S_asg ?_ | with_reducible refine S_if ?_ | with_reducible refine S_ret ?_ | with_reducible refine S_next ?_ | with_reducible refine S_for ?_ | with_reducible refine S_setW ?_ | with_reducible refine S_retW ?_ | with_reducible refine S_frz ?_ | with_reducible refine S_drop ?_ | with_reducible refine S_par ?_ | with_reducible refine S_retN ?_ | with_reducible refine S_brk ?_ | with_reducible refine S_ct ?_ | with_reducible refine E_op ?_ | with_reducible refine E_tb ?_ | with_reducible refine E_cb ?_ | with_reducible refine E_cons ?_ | with_reducible refine E_nil ?_ | with_reducible refine E_C ?_ | with_reducible refine E_addI ?_ | with_reducible refine E_subI ?_ | with_reducible refine E_ltI ?_ | with_reducible refine E_leI ?_ | with_reducible refine E_gtI ?_ | with_reducible refine E_geI ?_ | with_reducible refine E_eqI ?_ | with_reducible refine E_neI ?_ | with_reducible refine E_eqS ?_ | with_reducible refine E_neS ?_ | with_reducible refine E_un ?_ | with_reducible refine E_tru ?_ | with_reducible refine E_not ?_ | with_reducible refine E_notV ?_ | with_reducible refine E_tup ?_ | with_reducible refine E_lst ?_ | with_reducible refine E_items ?_ | with_reducible refine E_range ?_ | with_reducible refine E_part ?_ | with_reducible refine E_sl ?_ | with_reducible refine E_callP ?_ | with_reducible refine E_fz ?_ | with_reducible refine E_yes ?_ | with_reducible refine E_lf ?_ | with_reducible refine E_wnil ?_ | with_reducible refine E_wcons ?_ | with_reducible refine E_wlst ?_ | with_reducible refine E_callPW ?_ | with_reducible refine E_meth ?_ | with_reducible refine E_cm ?_ | with_reducible refine if_t ?_ | with_reducible refine if_f ?_ | ((with_reducible apply E_var); (case h => rfl)) | ((with_reducible apply ex_and); (case h => (simp only [List.set, frz] <;> rfl))) | ((with_reducible apply ex_and); (case h => rfl)) | ((with_reducible refine And.intro ?hd ?_); (case hd => decide))))
  refine E_modI (by omega) ?_
  (repeat (first | with_reducible refine S_seq ?_ | with_reducible refine S_set ?_ | with_reducible refine S_asg ?_ | with_reducible refine S_if ?_ | with_reducible refine S_ret ?_ | with_reducible refine S_next ?_ | with_reducible refine S_for ?_ | with_reducible refine S_setW ?_ | with_reducible refine S_retW ?_ | with_reducible refine S_frz ?_ | with_reducible refine S_drop ?_ | with_reducible refine S_par ?_ | with_reducible refine S_retN ?_ | with_reducible refine S_brk ?_ | with_reducible refine S_ct ?_ | with_reducible refine E_op ?_ | with_reducible refine E_tb ?_ | with_reducible refine E_cb ?_ | with_reducible refine E_cons ?_ | with_reducible refine E_nil ?_ | with_reducible refine E_C ?_ | with_reducible refine E_addI ?_ | with_reducible refine E_subI ?_ | with_reducible refine E_ltI ?_ | with_reducible refine E_leI ?_ | with_reducible refine E_gtI ?_ | with_reducible refine E_geI ?_ | with_reducible refine E_eqI ?_ | with_reducible refine E_neI ?_ | with_reducible refine E_eqS ?_ | with_reducible refine E_neS ?_ | with_reducible refine E_un ?_ | with_reducible refine E_tru ?_ | with_reducible refine E_not ?_ | with_reducible refine E_notV ?_ | with_reducible refine E_tup ?_ | with_reducible refine E_lst ?_ | with_reducible refine E_items ?_ | with_reducible refine E_range ?_ | with_reducible refine E_part ?_ | with_reducible refine E_sl ?_ | with_reducible refine E_callP ?_ | with_reducible refine E_fz ?_ | with_reducible refine E_yes ?_ | with_reducible refine E_lf ?_ | with_reducible refine E_wnil ?_ | with_reducible refine E_wcons ?_ | with_reducible refine E_wlst ?_ | with_reducible refine E_callPW ?_ | with_reducible refine E_meth ?_ | with_reducible refine E_cm ?_ | with_reducible refine if_t ?_ | with_reducible refine if_f ?_ | ((with_reducible apply E_var); (case h => rfl)) | ((with_reducible apply ex_and); (case h => (simp only [List.set, frz] <;> rfl))) | ((with_reducible apply ex_and); (case h => rfl)) | ((with_reducible refine And.intro ?hd ?_); (case hd => decide))))
  refine E_mulI (i := 30011) (.inl (by decide)) ?_
  (repeat (first | with_reducible refine S_seq ?_ | with_reducible refine S_set ?_ | with_reducible refine S_asg ?_ | with_reducible refine S_if ?_ | with_reducible refine S_ret ?_ | with_reducible refine S_next ?_ | with_reducible refine S_for ?_ | with_reducible refine S_setW ?_ | with_reducible refine S_retW ?_ | with_reducible refine S_frz ?_ | with_reducible refine S_drop ?_ | with_reducible refine S_par ?_ | with_reducible refine S_retN ?_ | with_reducible refine S_brk ?_ | with_reducible refine S_ct ?_ | with_reducible refine E_op ?_ | with_reducible refine E_tb ?_ | with_reducible refine E_cb ?_ | with_reducible refine E_cons ?_ | with_reducible refine E_nil ?_ | with_reducible refine E_C ?_ | with_reducible refine E_addI ?_ | with_reducible refine E_subI ?_ | with_reducible refine E_ltI ?_ | with_reducible refine E_leI ?_ | with_reducible refine E_gtI ?_ | with_reducible refine E_geI ?_ | with_reducible refine E_eqI ?_ | with_reducible refine E_neI ?_ | with_reducible refine E_eqS ?_ | with_reducible refine E_neS ?_ | with_reducible refine E_un ?_ | with_reducible refine E_tru ?_ | with_reducible refine E_not ?_ | with_reducible refine E_notV ?_ | with_reducible refine E_tup ?_ | with_reducible refine E_lst ?_ | with_reducible refine E_items ?_ | with_reducible refine E_range ?_ | with_reducible refine E_part ?_ | with_reducible refine E_sl ?_ | with_reducible refine E_callP ?_ | with_reducible refine E_fz ?_ | with_reducible refine E_yes ?_ | with_reducible refine E_lf ?_ | with_reducible refine E_wnil ?_ | with_reducible refine E_wcons ?_ | with_reducible refine E_wlst ?_ | with_reducible refine E_callPW ?_ | with_reducible refine E_meth ?_ | with_reducible refine E_cm ?_ | with_reducible refine if_t ?_ | with_reducible refine if_f ?_ | ((with_reducible apply E_var); (case h => rfl)) | ((with_reducible apply ex_and); (case h => (simp only [List.set, frz] <;> rfl))) | ((with_reducible apply ex_and); (case h => rfl)) | ((with_reducible refine And.intro ?hd ?_); (case hd => decide))))
  refine E_mulI (i := 30011 * t) (.inl (smallI (by omega) (by omega))) ?_
  (repeat (first | with_reducible refine S_seq ?_ | with_reducible refine S_set ?_ | with_reducible refine S_asg ?_ | with_reducible refine S_if ?_ | with_reducible refine S_ret ?_ | with_reducible refine S_next ?_ | with_reducible refine S_for ?_ | with_reducible refine S_setW ?_ | with_reducible refine S_retW ?_ | with_reducible refine S_frz ?_ | with_reducible refine S_drop ?_ | with_reducible refine S_par ?_ | with_reducible refine S_retN ?_ | with_reducible refine S_brk ?_ | with_reducible refine S_ct ?_ | with_reducible refine E_op ?_ | with_reducible refine E_tb ?_ | with_reducible refine E_cb ?_ | with_reducible refine E_cons ?_ | with_reducible refine E_nil ?_ | with_reducible refine E_C ?_ | with_reducible refine E_addI ?_ | with_reducible refine E_subI ?_ | with_reducible refine E_ltI ?_ | with_reducible refine E_leI ?_ | with_reducible refine E_gtI ?_ | with_reducible refine E_geI ?_ | with_reducible refine E_eqI ?_ | with_reducible refine E_neI ?_ | with_reducible refine E_eqS ?_ | with_reducible refine E_neS ?_ | with_reducible refine E_un ?_ | with_reducible refine E_tru ?_ | with_reducible refine E_not ?_ | with_reducible refine E_notV ?_ | with_reducible refine E_tup ?_ | with_reducible refine E_lst ?_ | with_reducible refine E_items ?_ | with_reducible refine E_range ?_ | with_reducible refine E_part ?_ | with_reducible refine E_sl ?_ | with_reducible refine E_callP ?_ | with_reducible refine E_fz ?_ | with_reducible refine E_yes ?_ | with_reducible refine E_lf ?_ | with_reducible refine E_wnil ?_ | with_reducible refine E_wcons ?_ | with_reducible refine E_wlst ?_ | with_reducible refine E_callPW ?_ | with_reducible refine E_meth ?_ | with_reducible refine E_cm ?_ | with_reducible refine if_t ?_ | with_reducible refine if_f ?_ | ((with_reducible apply E_var); (case h => rfl)) | ((with_reducible apply ex_and); (case h => (simp only [List.set, frz] <;> rfl))) | ((with_reducible apply ex_and); (case h => rfl)) | ((with_reducible refine And.intro ?hd ?_); (case hd => decide))))
  refine E_mulI (i := 20011) (.inl (by decide)) ?_
  (repeat (first | with_reducible refine S_seq ?_ | with_reducible refine S_set ?_ | with_reducible refine S_asg ?_ | with_reducible refine S_if ?_ | with_reducible refine S_ret ?_ | with_reducible refine S_next ?_ | with_reducible refine S_for ?_ | with_reducible refine S_setW ?_ | with_reducible refine S_retW ?_ | with_reducible refine S_frz ?_ | with_reducible refine S_drop ?_ | with_reducible refine S_par ?_ | with_reducible refine S_retN ?_ | with_reducible refine S_brk ?_ | with_reducible refine S_ct ?_ | with_reducible refine E_op ?_ | with_reducible refine E_tb ?_ | with_reducible refine E_cb ?_ | with_reducible refine E_cons ?_ | with_reducible refine E_nil ?_ | with_reducible refine E_C ?_ | with_reducible refine E_addI ?_ | with_reducible refine E_subI ?_ | with_reducible refine E_ltI ?_ | with_reducible refine E_leI ?_ | with_reducible refine E_gtI ?_ | with_reducible refine E_geI ?_ | with_reducible refine E_eqI ?_ | with_reducible refine E_neI ?_ | with_reducible refine E_eqS ?_ | with_reducible refine E_neS ?_ | with_reducible refine E_un ?_ | with_reducible refine E_tru ?_ | with_reducible refine E_not ?_ | with_reducible refine E_notV ?_ | with_reducible refine E_tup ?_ | with_reducible refine E_lst ?_ | with_reducible refine E_items ?_ | with_reducible refine E_range ?_ | with_reducible refine E_part ?_ | with_reducible refine E_sl ?_ | with_reducible refine E_callP ?_ | with_reducible refine E_fz ?_ | with_reducible refine E_yes ?_ | with_reducible refine E_lf ?_ | with_reducible refine E_wnil ?_ | with_reducible refine E_wcons ?_ | with_reducible refine E_wlst ?_ | with_reducible refine E_callPW ?_ | with_reducible refine E_meth ?_ | with_reducible refine E_cm ?_ | with_reducible refine if_t ?_ | with_reducible refine if_f ?_ | ((with_reducible apply E_var); (case h => rfl)) | ((with_reducible apply ex_and); (case h => (simp only [List.set, frz] <;> rfl))) | ((with_reducible apply ex_and); (case h => rfl)) | ((with_reducible refine And.intro ?hd ?_); (case hd => decide))))
  refine E_powI (j := 3) (by decide) (bA h0 h1) ?_
  (repeat (first | with_reducible refine S_seq ?_ | with_reducible refine S_set ?_ | with_reducible refine S_asg ?_ | with_reducible refine S_if ?_ | with_reducible refine S_ret ?_ | with_reducible refine S_next ?_ | with_reducible refine S_for ?_ | with_reducible refine S_setW ?_ | with_reducible refine S_retW ?_ | with_reducible refine S_frz ?_ | with_reducible refine S_drop ?_ | with_reducible refine S_par ?_ | with_reducible refine S_retN ?_ | with_reducible refine S_brk ?_ | with_reducible refine S_ct ?_ | with_reducible refine E_op ?_ | with_reducible refine E_tb ?_ | with_reducible refine E_cb ?_ | with_reducible refine E_cons ?_ | with_reducible refine E_nil ?_ | with_reducible refine E_C ?_ | with_reducible refine E_addI ?_ | with_reducible refine E_subI ?_ | with_reducible refine E_ltI ?_ | with_reducible refine E_leI ?_ | with_reducible refine E_gtI ?_ | with_reducible refine E_geI ?_ | with_reducible refine E_eqI ?_ | with_reducible refine E_neI ?_ | with_reducible refine E_eqS ?_ | with_reducible refine E_neS ?_ | with_reducible refine E_un ?_ | with_reducible refine E_tru ?_ | with_reducible refine E_not ?_ | with_reducible refine E_notV ?_ | with_reducible refine E_tup ?_ | with_reducible refine E_lst ?_ | with_reducible refine E_items ?_ | with_reducible refine E_range ?_ | with_reducible refine E_part ?_ | with_reducible refine E_sl ?_ | with_reducible refine E_callP ?_ | with_reducible refine E_fz ?_ | with_reducible refine E_yes ?_ | with_reducible refine E_lf ?_ | with_reducible refine E_wnil ?_ | with_reducible refine E_wcons ?_ | with_reducible refine E_wlst ?_ | with_reducible refine E_callPW ?_ | with_reducible refine E_meth ?_ | with_reducible refine E_cm ?_ | with_reducible refine if_t ?_ | with_reducible refine if_f ?_ | ((with_reducible apply E_var); (case h => rfl)) | ((with_reducible apply ex_and); (case h => (simp only [List.set, frz] <;> rfl))) | ((with_reducible apply ex_and); (case h => rfl)) | ((with_reducible refine And.intro ?hd ?_); (case hd => decide))))
  refine E_modI (j := 2147483647) (by decide) ?_
  have q0 := fmod_lo ((c.fmod 2147483477 + 30011 * t * t + 20011 * t + 7) ^ 3) (m := 2147483647) (by decide)
  have q1 := fmod_hi ((c.fmod 2147483477 + 30011 * t * t + 20011 * t + 7) ^ 3) (m := 2147483647) (by decide)
  generalize ((c.fmod 2147483477 + 30011 * t * t + 20011 * t + 7) ^ 3).fmod 2147483647 = x at q0 q1
  (repeat (first | with_reducible refine S_seq ?_ | with_reducible refine S_set ?_ | with_reducible refine S_asg ?_ | with_reducible refine S_if ?_ | with_reducible refine S_ret ?_ | with_reducible refine S_next ?_ | with_reducible refine S_for ?_ | with_reducible refine S_setW ?_ | with_reducible refine S_retW ?_ | with_reducible refine S_frz ?_ | with_reducible refine S_drop ?_ | with_reducible refine S_par ?_ | with_reducible refine S_retN ?_ | with_reducible refine S_brk ?_ | with_reducible refine S_ct ?_ | with_reducible refine E_op ?_ | with_reducible refine E_tb ?_ | with_reducible refine E_cb ?_ | with_reducible refine E_cons ?_ | with_reducible refine E_nil ?_ | with_reducible refine E_C ?_ | with_reducible refine E_addI ?_ | with_reducible refine E_subI ?_ | with_reducible refine E_ltI ?_ | with_reducible refine E_leI ?_ | with_reducible refine E_gtI ?_ | with_reducible refine E_geI ?_ | with_reducible refine E_eqI ?_ | with_reducible refine E_neI ?_ | with_reducible refine E_eqS ?_ | with_reducible refine E_neS ?_ | with_reducible refine E_un ?_ | with_reducible refine E_tru ?_ | with_reducible refine E_not ?_ | with_reducible refine E_notV ?_ | with_reducible refine E_tup ?_ | with_reducible refine E_lst ?_ | with_reducible refine E_items ?_ | with_reducible refine E_range ?_ | with_reducible refine E_part ?_ | with_reducible refine E_sl ?_ | with_reducible refine E_callP ?_ | with_reducible refine E_fz ?_ | with_reducible refine E_yes ?_ | with_reducible refine E_lf ?_ | with_reducible refine E_wnil ?_ | with_reducible refine E_wcons ?_ | with_reducible refine E_wlst ?_ | with_reducible refine E_callPW ?_ | with_reducible refine E_meth ?_ | with_reducible refine E_cm ?_ | with_reducible refine if_t ?_ | with_reducible refine if_f ?_ | ((with_reducible apply E_var); (case h => rfl)) | ((with_reducible apply ex_and); (case h => (simp only [List.set, frz] <;> rfl))) | ((with_reducible apply ex_and); (case h => rfl)) | ((with_reducible refine And.intro ?hd ?_); (case hd => decide))))
  refine E_mulI (i := 2) (.inl (by decide)) ?_
  (repeat (first | with_reducible refine S_seq ?_ | with_reducible refine S_set ?_ | with_reducible refine S_asg ?_ | with_reducible refine S_if ?_ | with_reducible refine S_ret ?_ | with_reducible refine S_next ?_ | with_reducible refine S_for ?_ | with_reducible refine S_setW ?_ | with_reducible refine S_retW ?_ | with_reducible refine S_frz ?_ | with_reducible refine S_drop ?_ | with_reducible refine S_par ?_ | with_reducible refine S_retN ?_ | with_reducible refine S_brk ?_ | with_reducible refine S_ct ?_ | with_reducible refine E_op ?_ | with_reducible refine E_tb ?_ | with_reducible refine E_cb ?_ | with_reducible refine E_cons ?_ | with_reducible refine E_nil ?_ | with_reducible refine E_C ?_ | with_reducible refine E_addI ?_ | with_reducible refine E_subI ?_ | with_reducible refine E_ltI ?_ | with_reducible refine E_leI ?_ | with_reducible refine E_gtI ?_ | with_reducible refine E_geI ?_ | with_reducible refine E_eqI ?_ | with_reducible refine E_neI ?_ | with_reducible refine E_eqS ?_ | with_reducible refine E_neS ?_ | with_reducible refine E_un ?_ | with_reducible refine E_tru ?_ | with_reducible refine E_not ?_ | with_reducible refine E_notV ?_ | with_reducible refine E_tup ?_ | with_reducible refine E_lst ?_ | with_reducible refine E_items ?_ | with_reducible refine E_range ?_ | with_reducible refine E_part ?_ | with_reducible refine E_sl ?_ | with_reducible refine E_callP ?_ | with_reducible refine E_fz ?_ | with_reducible refine E_yes ?_ | with_reducible refine E_lf ?_ | with_reducible refine E_wnil ?_ | with_reducible refine E_wcons ?_ | with_reducible refine E_wlst ?_ | with_reducible refine E_callPW ?_ | with_reducible refine E_meth ?_ | with_reducible refine E_cm ?_ | with_reducible refine if_t ?_ | with_reducible refine if_f ?_ | ((with_reducible apply E_var); (case h => rfl)) | ((with_reducible apply ex_and); (case h => (simp only [List.set, frz] <;> rfl))) | ((with_reducible apply ex_and); (case h => rfl)) | ((with_reducible refine And.intro ?hd ?_); (case hd => decide))))
  refine E_mulI (j := 2 * t + 15) (.inl (smallI (by omega) (by omega))) ?_
  (repeat (first | with_reducible refine S_seq ?_ | with_reducible refine S_set ?_ | with_reducible refine S_asg ?_ | with_reducible refine S_if ?_ | with_reducible refine S_ret ?_ | with_reducible refine S_next ?_ | with_reducible refine S_for ?_ | with_reducible refine S_setW ?_ | with_reducible refine S_retW ?_ | with_reducible refine S_frz ?_ | with_reducible refine S_drop ?_ | with_reducible refine S_par ?_ | with_reducible refine S_retN ?_ | with_reducible refine S_brk ?_ | with_reducible refine S_ct ?_ | with_reducible refine E_op ?_ | with_reducible refine E_tb ?_ | with_reducible refine E_cb ?_ | with_reducible refine E_cons ?_ | with_reducible refine E_nil ?_ | with_reducible refine E_C ?_ | with_reducible refine E_addI ?_ | with_reducible refine E_subI ?_ | with_reducible refine E_ltI ?_ | with_reducible refine E_leI ?_ | with_reducible refine E_gtI ?_ | with_reducible refine E_geI ?_ | with_reducible refine E_eqI ?_ | with_reducible refine E_neI ?_ | with_reducible refine E_eqS ?_ | with_reducible refine E_neS ?_ | with_reducible refine E_un ?_ | with_reducible refine E_tru ?_ | with_reducible refine E_not ?_ | with_reducible refine E_notV ?_ | with_reducible refine E_tup ?_ | with_reducible refine E_lst ?_ | with_reducible refine E_items ?_ | with_reducible refine E_range ?_ | with_reducible refine E_part ?_ | with_reducible refine E_sl ?_ | with_reducible refine E_callP ?_ | with_reducible refine E_fz ?_ | with_reducible refine E_yes ?_ | with_reducible refine E_lf ?_ | with_reducible refine E_wnil ?_ | with_reducible refine E_wcons ?_ | with_reducible refine E_wlst ?_ | with_reducible refine E_callPW ?_ | with_reducible refine E_meth ?_ | with_reducible refine E_cm ?_ | with_reducible refine if_t ?_ | with_reducible refine if_f ?_ | ((with_reducible apply E_var); (case h => rfl)) | ((with_reducible apply ex_and); (case h => (simp only [List.set, frz] <;> rfl))) | ((with_reducible apply ex_and); (case h => rfl)) | ((with_reducible refine And.intro ?hd ?_); (case hd => decide))))
  refine E_mulI (i := 50021) (.inl (by decide)) ?_
  (repeat (first | with_reducible refine S_seq ?_ | with_reducible refine S_set ?_ | with_reducible refine S_asg ?_ | with_reducible refine S_if ?_ | with_reducible refine S_ret ?_ | with_reducible refine S_next ?_ | with_reducible refine S_for ?_ | with_reducible refine S_setW ?_ | with_reducible refine S_retW ?_ | with_reducible refine S_frz ?_ | with_reducible refine S_drop ?_ | with_reducible refine S_par ?_ | with_reducible refine S_retN ?_ | with_reducible refine S_brk ?_ | with_reducible refine S_ct ?_ | with_reducible refine E_op ?_ | with_reducible refine E_tb ?_ | with_reducible refine E_cb ?_ | with_reducible refine E_cons ?_ | with_reducible refine E_nil ?_ | with_reducible refine E_C ?_ | with_reducible refine E_addI ?_ | with_reducible refine E_subI ?_ | with_reducible refine E_ltI ?_ | with_reducible refine E_leI ?_ | with_reducible refine E_gtI ?_ | with_reducible refine E_geI ?_ | with_reducible refine E_eqI ?_ | with_reducible refine E_neI ?_ | with_reducible refine E_eqS ?_ | with_reducible refine E_neS ?_ | with_reducible refine E_un ?_ | with_reducible refine E_tru ?_ | with_reducible refine E_not ?_ | with_reducible refine E_notV ?_ | with_reducible refine E_tup ?_ | with_reducible refine E_lst ?_ | with_reducible refine E_items ?_ | with_reducible refine E_range ?_ | with_reducible refine E_part ?_ | with_reducible refine E_sl ?_ | with_reducible refine E_callP ?_ | with_reducible refine E_fz ?_ | with_reducible refine E_yes ?_ | with_reducible refine E_lf ?_ | with_reducible refine E_wnil ?_ | with_reducible refine E_wcons ?_ | with_reducible refine E_wlst ?_ | with_reducible refine E_callPW ?_ | with_reducible refine E_meth ?_ | with_reducible refine E_cm ?_ | with_reducible refine if_t ?_ | with_reducible refine if_f ?_ | ((with_reducible apply E_var); (case h => rfl)) | ((with_reducible apply ex_and); (case h => (simp only [List.set, frz] <;> rfl))) | ((with_reducible apply ex_and); (case h => rfl)) | ((with_reducible refine And.intro ?hd ?_); (case hd => decide))))
  refine E_powI (j := 5) (by decide) (bB q0 q1 h0 h1) ?_
  (repeat (first | with_reducible refine S_seq ?_ | with_reducible refine S_set ?_ | with_reducible refine S_asg ?_ | with_reducible refine S_if ?_ | with_reducible refine S_ret ?_ | with_reducible refine S_next ?_ | with_reducible refine S_for ?_ | with_reducible refine S_setW ?_ | with_reducible refine S_retW ?_ | with_reducible refine S_frz ?_ | with_reducible refine S_drop ?_ | with_reducible refine S_par ?_ | with_reducible refine S_retN ?_ | with_reducible refine S_brk ?_ | with_reducible refine S_ct ?_ | with_reducible refine E_op ?_ | with_reducible refine E_tb ?_ | with_reducible refine E_cb ?_ | with_reducible refine E_cons ?_ | with_reducible refine E_nil ?_ | with_reducible refine E_C ?_ | with_reducible refine E_addI ?_ | with_reducible refine E_subI ?_ | with_reducible refine E_ltI ?_ | with_reducible refine E_leI ?_ | with_reducible refine E_gtI ?_ | with_reducible refine E_geI ?_ | with_reducible refine E_eqI ?_ | with_reducible refine E_neI ?_ | with_reducible refine E_eqS ?_ | with_reducible refine E_neS ?_ | with_reducible refine E_un ?_ | with_reducible refine E_tru ?_ | with_reducible refine E_not ?_ | with_reducible refine E_notV ?_ | with_reducible refine E_tup ?_ | with_reducible refine E_lst ?_ | with_reducible refine E_items ?_ | with_reducible refine E_range ?_ | with_reducible refine E_part ?_ | with_reducible refine E_sl ?_ | with_reducible refine E_callP ?_ | with_reducible refine E_fz ?_ | with_reducible refine E_yes ?_ | with_reducible refine E_lf ?_ | with_reducible refine E_wnil ?_ | with_reducible refine E_wcons ?_ | with_reducible refine E_wlst ?_ | with_reducible refine E_callPW ?_ | with_reducible refine E_meth ?_ | with_reducible refine E_cm ?_ | with_reducible refine if_t ?_ | with_reducible refine if_f ?_ | ((with_reducible apply E_var); (case h => rfl)) | ((with_reducible apply ex_and); (case h => (simp only [List.set, frz] <;> rfl))) | ((with_reducible apply ex_and); (case h => rfl)) | ((with_reducible refine And.intro ?hd ?_); (case hd => decide))))
  refine E_modI (by decide) ?_
  (repeat (first | with_reducible refine S_seq ?_ | with_reducible refine S_set ?_ | with_reducible refine S_asg ?_ | with_reducible refine S_if ?_ | with_reducible refine S_ret ?_ | with_reducible refine S_next ?_ | with_reducible refine S_for ?_ | with_reducible refine S_setW ?_ | with_reducible refine S_retW ?_ | with_reducible refine S_frz ?_ | with_reducible refine S_drop ?_ | with_reducible refine S_par ?_ | with_reducible refine S_retN ?_ | with_reducible refine S_brk ?_ | with_reducible refine S_ct ?_ | with_reducible refine E_op ?_ | with_reducible refine E_tb ?_ | with_reducible refine E_cb ?_ | with_reducible refine E_cons ?_ | with_reducible refine E_nil ?_ | with_reducible refine E_C ?_ | with_reducible refine E_addI ?_ | with_reducible refine E_subI ?_ | with_reducible refine E_ltI ?_ | with_reducible refine E_leI ?_ | with_reducible refine E_gtI ?_ | with_reducible refine E_geI ?_ | with_reducible refine E_eqI ?_ | with_reducible refine E_neI ?_ | with_reducible refine E_eqS ?_ | with_reducible refine E_neS ?_ | with_reducible refine E_un ?_ | with_reducible refine E_tru ?_ | with_reducible refine E_not ?_ | with_reducible refine E_notV ?_ | with_reducible refine E_tup ?_ | with_reducible refine E_lst ?_ | with_reducible refine E_items ?_ | with_reducible refine E_range ?_ | with_reducible refine E_part ?_ | with_reducible refine E_sl ?_ | with_reducible refine E_callP ?_ | with_reducible refine E_fz ?_ | with_reducible refine E_yes ?_ | with_reducible refine E_lf ?_ | with_reducible refine E_wnil ?_ | with_reducible refine E_wcons ?_ | with_reducible refine E_wlst ?_ | with_reducible refine E_callPW ?_ | with_reducible refine E_meth ?_ | with_reducible refine E_cm ?_ | with_reducible refine if_t ?_ | with_reducible refine if_f ?_ | ((with_reducible apply E_var); (case h => rfl)) | ((with_reducible apply ex_and); (case h => (simp only [List.set, frz] <;> rfl))) | ((with_reducible apply ex_and); (case h => rfl)) | ((with_reducible refine And.intro ?hd ?_); (case hd => decide))))
  refine E_fdivI (by decide) (by decide) ?_
  (repeat (first | with_reducible refine S_seq ?_ | with_reducible refine S_set ?_ | with_reducible refine S_asg ?_ | with_reducible refine S_if ?_ | with_reducible refine S_ret ?_ | with_reducible refine S_next ?_ | with_reducible refine S_for ?_ | with_reducible refine S_setW ?_ | with_reducible refine S_retW ?_ | with_reducible refine S_frz ?_ | with_reducible refine S_drop ?_ | with_reducible refine S_par ?_ | with_reducible refine S_retN ?_ | with_reducible refine S_brk ?_ | with_reducible refine S_ct ?_ | with_reducible refine E_op ?_ | with_reducible refine E_tb ?_ | with_reducible refine E_cb ?_ | with_reducible refine E_cons ?_ | with_reducible refine E_nil ?_ | with_reducible refine E_C ?_ | with_reducible refine E_addI ?_ | with_reducible refine E_subI ?_ | with_reducible refine E_ltI ?_ | with_reducible refine E_leI ?_ | with_reducible refine E_gtI ?_ | with_reducible refine E_geI ?_ | with_reducible refine E_eqI ?_ | with_reducible refine E_neI ?_ | with_reducible refine E_eqS ?_ | with_reducible refine E_neS ?_ | with_reducible refine E_un ?_ | with_reducible refine E_tru ?_ | with_reducible refine E_not ?_ | with_reducible refine E_notV ?_ | with_reducible refine E_tup ?_ | with_reducible refine E_lst ?_ | with_reducible refine E_items ?_ | with_reducible refine E_range ?_ | with_reducible refine E_part ?_ | with_reducible refine E_sl ?_ | with_reducible refine E_callP ?_ | with_reducible refine E_fz ?_ | with_reducible refine E_yes ?_ | with_reducible refine E_lf ?_ | with_reducible refine E_wnil ?_ | with_reducible refine E_wcons ?_ | with_reducible refine E_wlst ?_ | with_reducible refine E_callPW ?_ | with_reducible refine E_meth ?_ | with_reducible refine E_cm ?_ | with_reducible refine if_t ?_ | with_reducible refine if_f ?_ | ((with_reducible apply E_var); (case h => rfl)) | ((with_reducible apply ex_and); (case h => (simp only [List.set, frz] <;> rfl))) | ((with_reducible apply ex_and); (case h => rfl)) | ((with_reducible refine And.intro ?hd ?_); (case hd => decide))))
  refine E_modI n1 ?_
  exact ⟨_, rfl, _, rfl, fmod_lo _ hn, fmod_hi _ hn, ns, _, _, rfl, hl, by omega, by omega, by omega⟩
theorem lateD_ok {c t n : Int} {ns : List Int} {M : Nat} {F F' F'' : Eo.Env → Prop} (hl : ns.length ≤ 63) (h0 : 0 ≤ t) (h1 : t < 1000000) (hM : t + 1 ≤ M) (hn : 0 < n) (hn2 : n < 1073741824) :
    (lateD [.io (penOf ns (t + 1) 0), .dat (.int n), .dat (.int t), .dat (.int c), .emp, .emp, .emp]).W F F' F'' (fun v ρ => ∃ p', io0 ρ = some p' ∧ ∃ d, v = .dat (.int d) ∧ 0 ≤ d ∧ d < n ∧ POk M p') nox := by
  unfold lateD
  have n1 : n ≠ 0 := by omega
  have n2 : n.natAbs < 1073741824 := by omega
  (repeat (first | with_reducible refine S_seq ?_ | with_reducible refine S_set ?_ | with_reducible refine S_asg ?_ | with_reducible refine S_if ?_ | with_reducible refine S_ret ?_ | with_reducible refine S_next ?_ | with_reducible refine S_for ?_ | with_reducible refine S_setW ?_ | with_reducible refine S_retW ?_ | with_reducible refine S_frz ?_ | with_reducible refine S_drop ?_ | with_reducible refine S_par ?_ | with_reducible refine S_retN ?_ | with_reducible refine S_brk ?_ | with_reducible refine S_ct ?_ | with_reducible refine E_op ?_ | with_reducible refine E_tb ?_ | with_reducible refine E_cb ?_ | with_reducible refine E_cons ?_ | with_reducible refine E_nil ?_ | with_reducible refine E_C ?_ | with_reducible refine E_addI ?_ | with_reducible refine E_subI ?_ | with_reducible refine E_ltI ?_ | with_reducible refine E_leI ?_ | with_reducible refine E_gtI ?_ | with_reducible refine E_geI ?_ | with_reducible refine E_eqI ?_ | with_reducible refine E_neI ?_ | with_reducible refine E_eqS ?_ | with_reducible refine E_neS ?_ | with_reducible refine E_un ?_ | with_reducible refine E_tru ?_ | with_reducible refine E_not ?_ | with_reducible refine E_notV ?_ | with_reducible refine E_tup ?_ | with_reducible refine E_lst ?_ | with_reducible refine E_items ?_ | with_reducible refine E_range ?_ | with_reducible refine E_part ?_ | with_reducible refine E_sl ?_ | with_reducible refine E_callP ?_ | with_reducible refine E_fz ?_ | with_reducible refine E_yes ?_ | with_reducible refine E_lf ?_ | with_reducible refine E_wnil ?_ | with_reducible refine E_wcons ?_ | with_reducible refine E_wlst ?_ | with_reducible refine E_callPW ?_ | with_reducible refine E_meth ?_ | with_reducible refine E_cm ?_ | with_reducible refine if_t ?_ | with_reducible refine if_f ?_ | ((with_reducible apply E_var); (case h => rfl)) | ((with_reducible apply ex_and); (case h => (simp only [List.set, frz] <;> rfl))) | ((with_reducible apply ex_and); (case h => rfl)) | ((with_reducible refine And.intro ?hd ?_); (case hd => decide))))
  refine E_and ?_
  (repeat (first | with_reducible refine S_seq ?_ | with_reducible refine S_set ?_ | with_reducible refine S_asg ?_ | with_reducible refine S_if ?_ | with_reducible refine S_ret ?_ | with_reducible refine S_next ?_ | with_reducible refine S_for ?_ | with_reducible refine S_setW ?_ | with_reducible refine S_retW ?_ | with_reducible refine S_frz ?_ | with_reducible refine S_drop ?_ | with_reducible refine S_par ?_ | with_reducible refine S_retN ?_ | with_reducible refine S_brk ?_ | with_reducible refine S_ct ?_ | with_reducible refine E_op ?_ | with_reducible refine E_tb ?_ | with_reducible refine E_cb ?_ | with_reducible refine E_cons ?_ | with_reducible refine E_nil ?_ | with_reducible refine E_C ?_ | with_reducible refine E_addI ?_ | with_reducible refine E_subI ?_ | with_reducible refine E_ltI ?_ | with_reducible refine E_leI ?_ | with_reducible refine E_gtI ?_ | with_reducible refine E_geI ?_ | with_reducible refine E_eqI ?_ | with_reducible refine E_neI ?_ | with_reducible refine E_eqS ?_ | with_reducible refine E_neS ?_ | with_reducible refine E_un ?_ | with_reducible refine E_tru ?_ | with_reducible refine E_not ?_ | with_reducible refine E_notV ?_ | with_reducible refine E_tup ?_ | with_reducible refine E_lst ?_ | with_reducible refine E_items ?_ | with_reducible refine E_range ?_ | with_reducible refine E_part ?_ | with_reducible refine E_sl ?_ | with_reducible refine E_callP ?_ | with_reducible refine E_fz ?_ | with_reducible refine E_yes ?_ | with_reducible refine E_lf ?_ | with_reducible refine E_wnil ?_ | with_reducible refine E_wcons ?_ | with_reducible refine E_wlst ?_ | with_reducible refine E_callPW ?_ | with_reducible refine E_meth ?_ | with_reducible refine E_cm ?_ | with_reducible refine if_t ?_ | with_reducible refine if_f ?_ | ((with_reducible apply E_var); (case h => rfl)) | ((with_reducible apply ex_and); (case h => (simp only [List.set, frz] <;> rfl))) | ((with_reducible apply ex_and); (case h => rfl)) | ((with_reducible refine And.intro ?hd ?_); (case hd => decide))))
  refine E_pen0 ?_
  (repeat (first | with_reducible refine S_seq ?_ | with_reducible refine S_set ?_ | with_reducible refine S_asg ?_ | with_reducible refine S_if ?_ | with_reducible refine S_ret ?_ | with_reducible refine S_next ?_ | with_reducible refine S_for ?_ | with_reducible refine S_setW ?_ | with_reducible refine S_retW ?_ | with_reducible refine S_frz ?_ | with_reducible refine S_drop ?_ | with_reducible refine S_par ?_ | with_reducible refine S_retN ?_ | with_reducible refine S_brk ?_ | with_reducible refine S_ct ?_ | with_reducible refine E_op ?_ | with_reducible refine E_tb ?_ | with_reducible refine E_cb ?_ | with_reducible refine E_cons ?_ | with_reducible refine E_nil ?_ | with_reducible refine E_C ?_ | with_reducible refine E_addI ?_ | with_reducible refine E_subI ?_ | with_reducible refine E_ltI ?_ | with_reducible refine E_leI ?_ | with_reducible refine E_gtI ?_ | with_reducible refine E_geI ?_ | with_reducible refine E_eqI ?_ | with_reducible refine E_neI ?_ | with_reducible refine E_eqS ?_ | with_reducible refine E_neS ?_ | with_reducible refine E_un ?_ | with_reducible refine E_tru ?_ | with_reducible refine E_not ?_ | with_reducible refine E_notV ?_ | with_reducible refine E_tup ?_ | with_reducible refine E_lst ?_ | with_reducible refine E_items ?_ | with_reducible refine E_range ?_ | with_reducible refine E_part ?_ | with_reducible refine E_sl ?_ | with_reducible refine E_callP ?_ | with_reducible refine E_fz ?_ | with_reducible refine E_yes ?_ | with_reducible refine E_lf ?_ | with_reducible refine E_wnil ?_ | with_reducible refine E_wcons ?_ | with_reducible refine E_wlst ?_ | with_reducible refine E_callPW ?_ | with_reducible refine E_meth ?_ | with_reducible refine E_cm ?_ | with_reducible refine if_t ?_ | with_reducible refine if_f ?_ | ((with_reducible apply E_var); (case h => rfl)) | ((with_reducible apply ex_and); (case h => (simp only [List.set, frz] <;> rfl))) | ((with_reducible apply ex_and); (case h => rfl)) | ((with_reducible refine And.intro ?hd ?_); (case hd => decide))))
  refine ⟨fun _ => ?_, fun _ => ?_⟩
  · (repeat (first | with_reducible refine S_seq ?_ | with_reducible refine S_set ?_ | with_reducible refine S_asg ?_ | with_reducible refine S_if ?_ | with_reducible refine S_ret ?_ | with_reducible refine S_next ?_ | with_reducible refine S_for ?_ | with_reducible refine S_setW ?_ | with_reducible refine S_retW ?_ | with_reducible refine S_frz ?_ | with_reducible refine S_drop ?_ | with_reducible refine S_par ?_ | with_reducible refine S_retN ?_ | with_reducible refine S_brk ?_ | with_reducible refine S_ct ?_ | with_reducible refine E_op ?_ | with_reducible refine E_tb ?_ | with_reducible refine E_cb ?_ | with_reducible refine E_cons ?_ | with_reducible refine E_nil ?_ | with_reducible refine E_C ?_ | with_reducible refine E_addI ?_ | with_reducible refine E_subI ?_ | with_reducible refine E_ltI ?_ | with_reducible refine E_leI ?_ | with_reducible refine E_gtI ?_ | with_reducible refine E_geI ?_ | with_reducible refine E_eqI ?_ | with_reducible refine E_neI ?_ | with_reducible refine E_eqS ?_ | with_reducible refine E_neS ?_ | with_reducible refine E_un ?_ | with_reducible refine E_tru ?_ | with_reducible refine E_not ?_ | with_reducible refine E_notV ?_ | with_reducible refine E_tup ?_ | with_reducible refine E_lst ?_ | with_reducible refine E_items ?_ | with_reducible refine E_range ?_ | with_reducible refine E_part ?_ | with_reducible refine E_sl ?_ | with_reducible refine E_callP ?_ | with_reducible refine E_fz ?_ | with_reducible refine E_yes ?_ | with_reducible refine E_lf ?_ | with_reducible refine E_wnil ?_ | with_reducible refine E_wcons ?_ | with_reducible refine E_wlst ?_ | with_reducible refine E_callPW ?_ | with_reducible refine E_meth ?_ | with_reducible refine E_cm ?_ | with_reducible refine if_t ?_ | with_reducible refine if_f ?_ | ((with_reducible apply E_var); (case h => rfl)) | ((with_reducible apply ex_and); (case h => (simp only [List.set, frz] <;> rfl))) | ((with_reducible apply ex_and); (case h => rfl)) | ((with_reducible refine And.intro ?hd ?_); (case hd => decide))))
    refine E_powI (j := 18) (by decide) (by decide) ?_
    (repeat (first | with_reducible refine S_seq ?_ | with_reducible refine S_set ?_ | with_reducible refine S_asg ?_ | with_reducible refine S_if ?_ | with_reducible refine S_ret ?_ | with_reducible refine S_next ?_ | with_reducible refine S_for ?_ | with_reducible refine S_setW ?_ | with_reducible refine S_retW ?_ | with_reducible refine S_frz ?_ | with_reducible refine S_drop ?_ | with_reducible refine S_par ?_ | with_reducible refine S_retN ?_ | with_reducible refine S_brk ?_ | with_reducible refine S_ct ?_ | with_reducible refine E_op ?_ | with_reducible refine E_tb ?_ | with_reducible refine E_cb ?_ | with_reducible refine E_cons ?_ | with_reducible refine E_nil ?_ | with_reducible refine E_C ?_ | with_reducible refine E_addI ?_ | with_reducible refine E_subI ?_ | with_reducible refine E_ltI ?_ | with_reducible refine E_leI ?_ | with_reducible refine E_gtI ?_ | with_reducible refine E_geI ?_ | with_reducible refine E_eqI ?_ | with_reducible refine E_neI ?_ | with_reducible refine E_eqS ?_ | with_reducible refine E_neS ?_ | with_reducible refine E_un ?_ | with_reducible refine E_tru ?_ | with_reducible refine E_not ?_ | with_reducible refine E_notV ?_ | with_reducible refine E_tup ?_ | with_reducible refine E_lst ?_ | with_reducible refine E_items ?_ | with_reducible refine E_range ?_ | with_reducible refine E_part ?_ | with_reducible refine E_sl ?_ | with_reducible refine E_callP ?_ | with_reducible refine E_fz ?_ | with_reducible refine E_yes ?_ | with_reducible refine E_lf ?_ | with_reducible refine E_wnil ?_ | with_reducible refine E_wcons ?_ | with_reducible refine E_wlst ?_ | with_reducible refine E_callPW ?_ | with_reducible refine E_meth ?_ | with_reducible refine E_cm ?_ | with_reducible refine if_t ?_ | with_reducible refine if_f ?_ | ((with_reducible apply E_var); (case h => rfl)) | ((with_reducible apply ex_and); (case h => (simp only [List.set, frz] <;> rfl))) | ((with_reducible apply ex_and); (case h => rfl)) | ((with_reducible refine And.intro ?hd ?_); (case hd => decide))))
    refine ⟨fun hc => ?_, fun _ => ?_⟩
    · (repeat (first | with_reducible refine S_seq ?_ | with_reducible refine S_set ?_ | with_reducible refine S_asg ?_ | with_reducible refine S_if ?_ | with_reducible refine S_ret ?_ | with_reducible refine S_next ?_ | with_reducible refine S_for ?_ | with_reducible refine S_setW ?_ | with_reducible refine S_retW ?_ | with_reducible refine S_frz ?_ | with_reducible refine S_drop ?_ | with_reducible refine S_par ?_ | with_reducible refine S_retN ?_ | with_reducible refine S_brk ?_ | with_reducible refine S_ct ?_ | with_reducible refine E_op ?_ | with_reducible refine E_tb ?_ | with_reducible refine E_cb ?_ | with_reducible refine E_cons ?_ | with_reducible refine E_nil ?_ | with_reducible refine E_C ?_ | with_reducible refine E_addI ?_ | with_reducible refine E_subI ?_ | with_reducible refine E_ltI ?_ | with_reducible refine E_leI ?_ | with_reducible refine E_gtI ?_ | with_reducible refine E_geI ?_ | with_reducible refine E_eqI ?_ | with_reducible refine E_neI ?_ | with_reducible refine E_eqS ?_ | with_reducible refine E_neS ?_ | with_reducible refine E_un ?_ | with_reducible refine E_tru ?_ | with_reducible refine E_not ?_ | with_reducible refine E_notV ?_ | with_reducible refine E_tup ?_ | with_reducible refine E_lst ?_ | with_reducible refine E_items ?_ | with_reducible refine E_range ?_ | with_reducible refine E_part ?_ | with_reducible refine E_sl ?_ | with_reducible refine E_callP ?_ | with_reducible refine E_fz ?_ | with_reducible refine E_yes ?_ | with_reducible refine E_lf ?_ | with_reducible refine E_wnil ?_ | with_reducible refine E_wcons ?_ | with_reducible refine E_wlst ?_ | with_reducible refine E_callPW ?_ | with_reducible refine E_meth ?_ | with_reducible refine E_cm ?_ | with_reducible refine if_t ?_ | with_reducible refine if_f ?_ | ((with_reducible apply E_var); (case h => rfl)) | ((with_reducible apply ex_and); (case h => (simp only [List.set, frz] <;> rfl))) | ((with_reducible apply ex_and); (case h => rfl)) | ((with_reducible refine And.intro ?hd ?_); (case hd => decide))))
      refine E_powI (j := 18) (by decide) (by decide) ?_
      (repeat (first | with_reducible refine S_seq ?_ | with_reducible refine S_set ?_ | with_reducible refine S_asg ?_ | with_reducible refine S_if ?_ | with_reducible refine S_ret ?_ | with_reducible refine S_next ?_ | with_reducible refine S_for ?_ | with_reducible refine S_setW ?_ | with_reducible refine S_retW ?_ | with_reducible refine S_frz ?_ | with_reducible refine S_drop ?_ | with_reducible refine S_par ?_ | with_reducible refine S_retN ?_ | with_reducible refine S_brk ?_ | with_reducible refine S_ct ?_ | with_reducible refine E_op ?_ | with_reducible refine E_tb ?_ | with_reducible refine E_cb ?_ | with_reducible refine E_cons ?_ | with_reducible refine E_nil ?_ | with_reducible refine E_C ?_ | with_reducible refine E_addI ?_ | with_reducible refine E_subI ?_ | with_reducible refine E_ltI ?_ | with_reducible refine E_leI ?_ | with_reducible refine E_gtI ?_ | with_reducible refine E_geI ?_ | with_reducible refine E_eqI ?_ | with_reducible refine E_neI ?_ | with_reducible refine E_eqS ?_ | with_reducible refine E_neS ?_ | with_reducible refine E_un ?_ | with_reducible refine E_tru ?_ | with_reducible refine E_not ?_ | with_reducible refine E_notV ?_ | with_reducible refine E_tup ?_ | with_reducible refine E_lst ?_ | with_reducible refine E_items ?_ | with_reducible refine E_range ?_ | with_reducible refine E_part ?_ | with_reducible refine E_sl ?_ | with_reducible refine E_callP ?_ | with_reducible refine E_fz ?_ | with_reducible refine E_yes ?_ | with_reducible refine E_lf ?_ | with_reducible refine E_wnil ?_ | with_reducible refine E_wcons ?_ | with_reducible refine E_wlst ?_ | with_reducible refine E_callPW ?_ | with_reducible refine E_meth ?_ | with_reducible refine E_cm ?_ | with_reducible refine if_t ?_ | with_reducible refine if_f ?_ | ((with_reducible apply E_var); (case h => rfl)) | ((with_reducible apply ex_and); (case h => (simp only [List.set, frz] <;> rfl))) | ((with_reducible apply ex_and); (case h => rfl)) | ((with_reducible refine And.intro ?hd ?_); (case hd => decide))))
      refine E_mulI (.inl (by decide)) ?_
      (repeat (first | with_reducible refine S_seq ?_ | with_reducible refine S_set ?_ | with_reducible refine S_asg ?_ | with_reducible refine S_if ?_ | with_reducible refine S_ret ?_ | with_reducible refine S_next ?_ | with_reducible refine S_for ?_ | with_reducible refine S_setW ?_ | with_reducible refine S_retW ?_ | with_reducible refine S_frz ?_ | with_reducible refine S_drop ?_ | with_reducible refine S_par ?_ | with_reducible refine S_retN ?_ | with_reducible refine S_brk ?_ | with_reducible refine S_ct ?_ | with_reducible refine E_op ?_ | with_reducible refine E_tb ?_ | with_reducible refine E_cb ?_ | with_reducible refine E_cons ?_ | with_reducible refine E_nil ?_ | with_reducible refine E_C ?_ | with_reducible refine E_addI ?_ | with_reducible refine E_subI ?_ | with_reducible refine E_ltI ?_ | with_reducible refine E_leI ?_ | with_reducible refine E_gtI ?_ | with_reducible refine E_geI ?_ | with_reducible refine E_eqI ?_ | with_reducible refine E_neI ?_ | with_reducible refine E_eqS ?_ | with_reducible refine E_neS ?_ | with_reducible refine E_un ?_ | with_reducible refine E_tru ?_ | with_reducible refine E_not ?_ | with_reducible refine E_notV ?_ | with_reducible refine E_tup ?_ | with_reducible refine E_lst ?_ | with_reducible refine E_items ?_ | with_reducible refine E_range ?_ | with_reducible refine E_part ?_ | with_reducible refine E_sl ?_ | with_reducible refine E_callP ?_ | with_reducible refine E_fz ?_ | with_reducible refine E_yes ?_ | with_reducible refine E_lf ?_ | with_reducible refine E_wnil ?_ | with_reducible refine E_wcons ?_ | with_reducible refine E_wlst ?_ | with_reducible refine E_callPW ?_ | with_reducible refine E_meth ?_ | with_reducible refine E_cm ?_ | with_reducible refine if_t ?_ | with_reducible refine if_f ?_ | ((with_reducible apply E_var); (case h => rfl)) | ((with_reducible apply ex_and); (case h => (simp only [List.set, frz] <;> rfl))) | ((with_reducible apply ex_and); (case h => rfl)) | ((with_reducible refine And.intro ?hd ?_); (case hd => decide))))
      refine S_penP2 ?_
      (repeat (first | with_reducible refine S_seq ?_ | with_reducible refine S_set ?_ | with_reducible refine S_asg ?_ | with_reducible refine S_if ?_ | with_reducible refine S_ret ?_ | with_reducible refine S_next ?_ | with_reducible refine S_for ?_ | with_reducible refine S_setW ?_ | with_reducible refine S_retW ?_ | with_reducible refine S_frz ?_ | with_reducible refine S_drop ?_ | with_reducible refine S_par ?_ | with_reducible refine S_retN ?_ | with_reducible refine S_brk ?_ | with_reducible refine S_ct ?_ | with_reducible refine E_op ?_ | with_reducible refine E_tb ?_ | with_reducible refine E_cb ?_ | with_reducible refine E_cons ?_ | with_reducible refine E_nil ?_ | with_reducible refine E_C ?_ | with_reducible refine E_addI ?_ | with_reducible refine E_subI ?_ | with_reducible refine E_ltI ?_ | with_reducible refine E_leI ?_ | with_reducible refine E_gtI ?_ | with_reducible refine E_geI ?_ | with_reducible refine E_eqI ?_ | with_reducible refine E_neI ?_ | with_reducible refine E_eqS ?_ | with_reducible refine E_neS ?_ | with_reducible refine E_un ?_ | with_reducible refine E_tru ?_ | with_reducible refine E_not ?_ | with_reducible refine E_notV ?_ | with_reducible refine E_tup ?_ | with_reducible refine E_lst ?_ | with_reducible refine E_items ?_ | with_reducible refine E_range ?_ | with_reducible refine E_part ?_ | with_reducible refine E_sl ?_ | with_reducible refine E_callP ?_ | with_reducible refine E_fz ?_ | with_reducible refine E_yes ?_ | with_reducible refine E_lf ?_ | with_reducible refine E_wnil ?_ | with_reducible refine E_wcons ?_ | with_reducible refine E_wlst ?_ | with_reducible refine E_callPW ?_ | with_reducible refine E_meth ?_ | with_reducible refine E_cm ?_ | with_reducible refine if_t ?_ | with_reducible refine if_f ?_ | ((with_reducible apply E_var); (case h => rfl)) | ((with_reducible apply ex_and); (case h => (simp only [List.set, frz] <;> rfl))) | ((with_reducible apply ex_and); (case h => rfl)) | ((with_reducible refine And.intro ?hd ?_); (case hd => decide))))
      refine E_fdivI n1 n2 ?_
      (repeat (first | with_reducible refine S_seq ?_ | with_reducible refine S_set ?_ | with_reducible refine S_asg ?_ | with_reducible refine S_if ?_ | with_reducible refine S_ret ?_ | with_reducible refine S_next ?_ | with_reducible refine S_for ?_ | with_reducible refine S_setW ?_ | with_reducible refine S_retW ?_ | with_reducible refine S_frz ?_ | with_reducible refine S_drop ?_ | with_reducible refine S_par ?_ | with_reducible refine S_retN ?_ | with_reducible refine S_brk ?_ | with_reducible refine S_ct ?_ | with_reducible refine E_op ?_ | with_reducible refine E_tb ?_ | with_reducible refine E_cb ?_ | with_reducible refine E_cons ?_ | with_reducible refine E_nil ?_ | with_reducible refine E_C ?_ | with_reducible refine E_addI ?_ | with_reducible refine E_subI ?_ | with_reducible refine E_ltI ?_ | with_reducible refine E_leI ?_ | with_reducible refine E_gtI ?_ | with_reducible refine E_geI ?_ | with_reducible refine E_eqI ?_ | with_reducible refine E_neI ?_ | with_reducible refine E_eqS ?_ | with_reducible refine E_neS ?_ | with_reducible refine E_un ?_ | with_reducible refine E_tru ?_ | with_reducible refine E_not ?_ | with_reducible refine E_notV ?_ | with_reducible refine E_tup ?_ | with_reducible refine E_lst ?_ | with_reducible refine E_items ?_ | with_reducible refine E_range ?_ | with_reducible refine E_part ?_ | with_reducible refine E_sl ?_ | with_reducible refine E_callP ?_ | with_reducible refine E_fz ?_ | with_reducible refine E_yes ?_ | with_reducible refine E_lf ?_ | with_reducible refine E_wnil ?_ | with_reducible refine E_wcons ?_ | with_reducible refine E_wlst ?_ | with_reducible refine E_callPW ?_ | with_reducible refine E_meth ?_ | with_reducible refine E_cm ?_ | with_reducible refine if_t ?_ | with_reducible refine if_f ?_ | ((with_reducible apply E_var); (case h => rfl)) | ((with_reducible apply ex_and); (case h => (simp only [List.set, frz] <;> rfl))) | ((with_reducible apply ex_and); (case h => rfl)) | ((with_reducible refine And.intro ?hd ?_); (case hd => decide))))
      refine E_modI n1 ?_
      have hc := of_decide_eq_true hc
      have hg : 0 ≤ 2 * ((if c < 0 then -c else c) - 10 ^ 18) + (if decide (c < 0) = true then 1 else 0) := by split <;> omega
      exact ⟨_, rfl, _, rfl, fmod_lo _ hn, fmod_hi _ hn, ns, _, _, rfl, hl, by omega, by omega, fdiv_nn hg hn⟩
    · exact S_next (tailD_ok hl h0 h1 hM hn hn2)
  · exact if_f (S_next (tailD_ok hl h0 h1 hM hn hn2))
theorem draw_ok : DrawOk f_law_draw := by
  intro N p n hp hN hn hn2
  obtain ⟨ns, t, r, rfl, hl, h0, h1, hr⟩ := hp
  have n1 : n ≠ 0 := by omega
  have n2 : n.natAbs < 1073741824 := by omega
  have en : entryI N_law_draw (penOf ns t r) [.int n] = [.io (penOf ns t r), .dat (.int n), .emp, .emp, .emp, .emp, .emp] := rfl
  suffices h : ∃ v p', f_law_draw (penOf ns t r) [.int n] = some (v, p') ∧ ∃ d, v = .dat (.int d) ∧ 0 ≤ d ∧ d < n ∧ POk (N + 1) p' by
    obtain ⟨v, p', e, d, rfl, q⟩ := h
    exact ⟨d, p', e, q⟩
  refine fnI_W (Q := fun v p' => ∃ d, v = .dat (.int d) ∧ 0 ≤ d ∧ d < n ∧ POk (N + 1) p') rfl ?_
  rw [en]
  unfold m_law_draw
  (repeat (first | with_reducible refine S_seq ?_ | with_reducible refine S_set ?_ | with_reducible refine S_asg ?_ | with_reducible refine S_if ?_ | with_reducible refine S_ret ?_ | with_reducible refine S_next ?_ | with_reducible refine S_for ?_ | with_reducible refine S_setW ?_ | with_reducible refine S_retW ?_ | with_reducible refine S_frz ?_ | with_reducible refine S_drop ?_ | with_reducible refine S_par ?_ | with_reducible refine S_retN ?_ | with_reducible refine S_brk ?_ | with_reducible refine S_ct ?_ | with_reducible refine E_op ?_ | with_reducible refine E_tb ?_ | with_reducible refine E_cb ?_ | with_reducible refine E_cons ?_ | with_reducible refine E_nil ?_ | with_reducible refine E_C ?_ | with_reducible refine E_addI ?_ | with_reducible refine E_subI ?_ | with_reducible refine E_ltI ?_ | with_reducible refine E_leI ?_ | with_reducible refine E_gtI ?_ | with_reducible refine E_geI ?_ | with_reducible refine E_eqI ?_ | with_reducible refine E_neI ?_ | with_reducible refine E_eqS ?_ | with_reducible refine E_neS ?_ | with_reducible refine E_un ?_ | with_reducible refine E_tru ?_ | with_reducible refine E_not ?_ | with_reducible refine E_notV ?_ | with_reducible refine E_tup ?_ | with_reducible refine E_lst ?_ | with_reducible refine E_items ?_ | with_reducible refine E_range ?_ | with_reducible refine E_part ?_ | with_reducible refine E_sl ?_ | with_reducible refine E_callP ?_ | with_reducible refine E_fz ?_ | with_reducible refine E_yes ?_ | with_reducible refine E_lf ?_ | with_reducible refine E_wnil ?_ | with_reducible refine E_wcons ?_ | with_reducible refine E_wlst ?_ | with_reducible refine E_callPW ?_ | with_reducible refine E_meth ?_ | with_reducible refine E_cm ?_ | with_reducible refine if_t ?_ | with_reducible refine if_f ?_ | ((with_reducible apply E_var); (case h => rfl)) | ((with_reducible apply ex_and); (case h => (simp only [List.set, frz] <;> rfl))) | ((with_reducible apply ex_and); (case h => rfl)) | ((with_reducible refine And.intro ?hd ?_); (case hd => decide))))
  refine E_pen2 ?_
  (repeat (first | with_reducible refine S_seq ?_ | with_reducible refine S_set ?_ | with_reducible refine S_asg ?_ | with_reducible refine S_if ?_ | with_reducible refine S_ret ?_ | with_reducible refine S_next ?_ | with_reducible refine S_for ?_ | with_reducible refine S_setW ?_ | with_reducible refine S_retW ?_ | with_reducible refine S_frz ?_ | with_reducible refine S_drop ?_ | with_reducible refine S_par ?_ | with_reducible refine S_retN ?_ | with_reducible refine S_brk ?_ | with_reducible refine S_ct ?_ | with_reducible refine E_op ?_ | with_reducible refine E_tb ?_ | with_reducible refine E_cb ?_ | with_reducible refine E_cons ?_ | with_reducible refine E_nil ?_ | with_reducible refine E_C ?_ | with_reducible refine E_addI ?_ | with_reducible refine E_subI ?_ | with_reducible refine E_ltI ?_ | with_reducible refine E_leI ?_ | with_reducible refine E_gtI ?_ | with_reducible refine E_geI ?_ | with_reducible refine E_eqI ?_ | with_reducible refine E_neI ?_ | with_reducible refine E_eqS ?_ | with_reducible refine E_neS ?_ | with_reducible refine E_un ?_ | with_reducible refine E_tru ?_ | with_reducible refine E_not ?_ | with_reducible refine E_notV ?_ | with_reducible refine E_tup ?_ | with_reducible refine E_lst ?_ | with_reducible refine E_items ?_ | with_reducible refine E_range ?_ | with_reducible refine E_part ?_ | with_reducible refine E_sl ?_ | with_reducible refine E_callP ?_ | with_reducible refine E_fz ?_ | with_reducible refine E_yes ?_ | with_reducible refine E_lf ?_ | with_reducible refine E_wnil ?_ | with_reducible refine E_wcons ?_ | with_reducible refine E_wlst ?_ | with_reducible refine E_callPW ?_ | with_reducible refine E_meth ?_ | with_reducible refine E_cm ?_ | with_reducible refine if_t ?_ | with_reducible refine if_f ?_ | ((with_reducible apply E_var); (case h => rfl)) | ((with_reducible apply ex_and); (case h => (simp only [List.set, frz] <;> rfl))) | ((with_reducible apply ex_and); (case h => rfl)) | ((with_reducible refine And.intro ?hd ?_); (case hd => decide))))
  refine ⟨fun _ => ?_, fun z => ?_⟩
  · (repeat (first | with_reducible refine S_seq ?_ | with_reducible refine S_set ?_ | with_reducible refine S_asg ?_ | with_reducible refine S_if ?_ | with_reducible refine S_ret ?_ | with_reducible refine S_next ?_ | with_reducible refine S_for ?_ | with_reducible refine S_setW ?_ | with_reducible refine S_retW ?_ | with_reducible refine S_frz ?_ | with_reducible refine S_drop ?_ | with_reducible refine S_par ?_ | with_reducible refine S_retN ?_ | with_reducible refine S_brk ?_ | with_reducible refine S_ct ?_ | with_reducible refine E_op ?_ | with_reducible refine E_tb ?_ | with_reducible refine E_cb ?_ | with_reducible refine E_cons ?_ | with_reducible refine E_nil ?_ | with_reducible refine E_C ?_ | with_reducible refine E_addI ?_ | with_reducible refine E_subI ?_ | with_reducible refine E_ltI ?_ | with_reducible refine E_leI ?_ | with_reducible refine E_gtI ?_ | with_reducible refine E_geI ?_ | with_reducible refine E_eqI ?_ | with_reducible refine E_neI ?_ | with_reducible refine E_eqS ?_ | with_reducible refine E_neS ?_ | with_reducible refine E_un ?_ | with_reducible refine E_tru ?_ | with_reducible refine E_not ?_ | with_reducible refine E_notV ?_ | with_reducible refine E_tup ?_ | with_reducible refine E_lst ?_ | with_reducible refine E_items ?_ | with_reducible refine E_range ?_ | with_reducible refine E_part ?_ | with_reducible refine E_sl ?_ | with_reducible refine E_callP ?_ | with_reducible refine E_fz ?_ | with_reducible refine E_yes ?_ | with_reducible refine E_lf ?_ | with_reducible refine E_wnil ?_ | with_reducible refine E_wcons ?_ | with_reducible refine E_wlst ?_ | with_reducible refine E_callPW ?_ | with_reducible refine E_meth ?_ | with_reducible refine E_cm ?_ | with_reducible refine if_t ?_ | with_reducible refine if_f ?_ | ((with_reducible apply E_var); (case h => rfl)) | ((with_reducible apply ex_and); (case h => (simp only [List.set, frz] <;> rfl))) | ((with_reducible apply ex_and); (case h => rfl)) | ((with_reducible refine And.intro ?hd ?_); (case hd => decide))))
    refine E_pen2 ?_
    refine E_var rfl ?_
    refine E_modI n1 ?_
    (repeat (first | with_reducible refine S_seq ?_ | with_reducible refine S_set ?_ | with_reducible refine S_asg ?_ | with_reducible refine S_if ?_ | with_reducible refine S_ret ?_ | with_reducible refine S_next ?_ | with_reducible refine S_for ?_ | with_reducible refine S_setW ?_ | with_reducible refine S_retW ?_ | with_reducible refine S_frz ?_ | with_reducible refine S_drop ?_ | with_reducible refine S_par ?_ | with_reducible refine S_retN ?_ | with_reducible refine S_brk ?_ | with_reducible refine S_ct ?_ | with_reducible refine E_op ?_ | with_reducible refine E_tb ?_ | with_reducible refine E_cb ?_ | with_reducible refine E_cons ?_ | with_reducible refine E_nil ?_ | with_reducible refine E_C ?_ | with_reducible refine E_addI ?_ | with_reducible refine E_subI ?_ | with_reducible refine E_ltI ?_ | with_reducible refine E_leI ?_ | with_reducible refine E_gtI ?_ | with_reducible refine E_geI ?_ | with_reducible refine E_eqI ?_ | with_reducible refine E_neI ?_ | with_reducible refine E_eqS ?_ | with_reducible refine E_neS ?_ | with_reducible refine E_un ?_ | with_reducible refine E_tru ?_ | with_reducible refine E_not ?_ | with_reducible refine E_notV ?_ | with_reducible refine E_tup ?_ | with_reducible refine E_lst ?_ | with_reducible refine E_items ?_ | with_reducible refine E_range ?_ | with_reducible refine E_part ?_ | with_reducible refine E_sl ?_ | with_reducible refine E_callP ?_ | with_reducible refine E_fz ?_ | with_reducible refine E_yes ?_ | with_reducible refine E_lf ?_ | with_reducible refine E_wnil ?_ | with_reducible refine E_wcons ?_ | with_reducible refine E_wlst ?_ | with_reducible refine E_callPW ?_ | with_reducible refine E_meth ?_ | with_reducible refine E_cm ?_ | with_reducible refine if_t ?_ | with_reducible refine if_f ?_ | ((with_reducible apply E_var); (case h => rfl)) | ((with_reducible apply ex_and); (case h => (simp only [List.set, frz] <;> rfl))) | ((with_reducible apply ex_and); (case h => rfl)) | ((with_reducible refine And.intro ?hd ?_); (case hd => decide))))
    refine S_penP2 ?_
    (repeat (first | with_reducible refine S_seq ?_ | with_reducible refine S_set ?_ | with_reducible refine S_asg ?_ | with_reducible refine S_if ?_ | with_reducible refine S_ret ?_ | with_reducible refine S_next ?_ | with_reducible refine S_for ?_ | with_reducible refine S_setW ?_ | with_reducible refine S_retW ?_ | with_reducible refine S_frz ?_ | with_reducible refine S_drop ?_ | with_reducible refine S_par ?_ | with_reducible refine S_retN ?_ | with_reducible refine S_brk ?_ | with_reducible refine S_ct ?_ | with_reducible refine E_op ?_ | with_reducible refine E_tb ?_ | with_reducible refine E_cb ?_ | with_reducible refine E_cons ?_ | with_reducible refine E_nil ?_ | with_reducible refine E_C ?_ | with_reducible refine E_addI ?_ | with_reducible refine E_subI ?_ | with_reducible refine E_ltI ?_ | with_reducible refine E_leI ?_ | with_reducible refine E_gtI ?_ | with_reducible refine E_geI ?_ | with_reducible refine E_eqI ?_ | with_reducible refine E_neI ?_ | with_reducible refine E_eqS ?_ | with_reducible refine E_neS ?_ | with_reducible refine E_un ?_ | with_reducible refine E_tru ?_ | with_reducible refine E_not ?_ | with_reducible refine E_notV ?_ | with_reducible refine E_tup ?_ | with_reducible refine E_lst ?_ | with_reducible refine E_items ?_ | with_reducible refine E_range ?_ | with_reducible refine E_part ?_ | with_reducible refine E_sl ?_ | with_reducible refine E_callP ?_ | with_reducible refine E_fz ?_ | with_reducible refine E_yes ?_ | with_reducible refine E_lf ?_ | with_reducible refine E_wnil ?_ | with_reducible refine E_wcons ?_ | with_reducible refine E_wlst ?_ | with_reducible refine E_callPW ?_ | with_reducible refine E_meth ?_ | with_reducible refine E_cm ?_ | with_reducible refine if_t ?_ | with_reducible refine if_f ?_ | ((with_reducible apply E_var); (case h => rfl)) | ((with_reducible apply ex_and); (case h => (simp only [List.set, frz] <;> rfl))) | ((with_reducible apply ex_and); (case h => rfl)) | ((with_reducible refine And.intro ?hd ?_); (case hd => decide))))
    refine E_pen2 ?_
    refine E_var rfl ?_
    refine E_fdivI n1 n2 ?_
    refine ⟨_, rfl, _, rfl, ?_⟩
    (repeat (first | with_reducible refine S_seq ?_ | with_reducible refine S_set ?_ | with_reducible refine S_asg ?_ | with_reducible refine S_if ?_ | with_reducible refine S_ret ?_ | with_reducible refine S_next ?_ | with_reducible refine S_for ?_ | with_reducible refine S_setW ?_ | with_reducible refine S_retW ?_ | with_reducible refine S_frz ?_ | with_reducible refine S_drop ?_ | with_reducible refine S_par ?_ | with_reducible refine S_retN ?_ | with_reducible refine S_brk ?_ | with_reducible refine S_ct ?_ | with_reducible refine E_op ?_ | with_reducible refine E_tb ?_ | with_reducible refine E_cb ?_ | with_reducible refine E_cons ?_ | with_reducible refine E_nil ?_ | with_reducible refine E_C ?_ | with_reducible refine E_addI ?_ | with_reducible refine E_subI ?_ | with_reducible refine E_ltI ?_ | with_reducible refine E_leI ?_ | with_reducible refine E_gtI ?_ | with_reducible refine E_geI ?_ | with_reducible refine E_eqI ?_ | with_reducible refine E_neI ?_ | with_reducible refine E_eqS ?_ | with_reducible refine E_neS ?_ | with_reducible refine E_un ?_ | with_reducible refine E_tru ?_ | with_reducible refine E_not ?_ | with_reducible refine E_notV ?_ | with_reducible refine E_tup ?_ | with_reducible refine E_lst ?_ | with_reducible refine E_items ?_ | with_reducible refine E_range ?_ | with_reducible refine E_part ?_ | with_reducible refine E_sl ?_ | with_reducible refine E_callP ?_ | with_reducible refine E_fz ?_ | with_reducible refine E_yes ?_ | with_reducible refine E_lf ?_ | with_reducible refine E_wnil ?_ | with_reducible refine E_wcons ?_ | with_reducible refine E_wlst ?_ | with_reducible refine E_callPW ?_ | with_reducible refine E_meth ?_ | with_reducible refine E_cm ?_ | with_reducible refine if_t ?_ | with_reducible refine if_f ?_ | ((with_reducible apply E_var); (case h => rfl)) | ((with_reducible apply ex_and); (case h => (simp only [List.set, frz] <;> rfl))) | ((with_reducible apply ex_and); (case h => rfl)) | ((with_reducible refine And.intro ?hd ?_); (case hd => decide))))
    exact ⟨fmod_lo _ hn, fmod_hi _ hn, ns, _, _, rfl, hl, h0, by omega, fdiv_nn hr hn⟩
  · have z : r = 0 := by
      have := of_decide_eq_false z
      omega
    subst z
    (repeat (first | with_reducible refine S_seq ?_ | with_reducible refine S_set ?_ | with_reducible refine S_asg ?_ | with_reducible refine S_if ?_ | with_reducible refine S_ret ?_ | with_reducible refine S_next ?_ | with_reducible refine S_for ?_ | with_reducible refine S_setW ?_ | with_reducible refine S_retW ?_ | with_reducible refine S_frz ?_ | with_reducible refine S_drop ?_ | with_reducible refine S_par ?_ | with_reducible refine S_retN ?_ | with_reducible refine S_brk ?_ | with_reducible refine S_ct ?_ | with_reducible refine E_op ?_ | with_reducible refine E_tb ?_ | with_reducible refine E_cb ?_ | with_reducible refine E_cons ?_ | with_reducible refine E_nil ?_ | with_reducible refine E_C ?_ | with_reducible refine E_addI ?_ | with_reducible refine E_subI ?_ | with_reducible refine E_ltI ?_ | with_reducible refine E_leI ?_ | with_reducible refine E_gtI ?_ | with_reducible refine E_geI ?_ | with_reducible refine E_eqI ?_ | with_reducible refine E_neI ?_ | with_reducible refine E_eqS ?_ | with_reducible refine E_neS ?_ | with_reducible refine E_un ?_ | with_reducible refine E_tru ?_ | with_reducible refine E_not ?_ | with_reducible refine E_notV ?_ | with_reducible refine E_tup ?_ | with_reducible refine E_lst ?_ | with_reducible refine E_items ?_ | with_reducible refine E_range ?_ | with_reducible refine E_part ?_ | with_reducible refine E_sl ?_ | with_reducible refine E_callP ?_ | with_reducible refine E_fz ?_ | with_reducible refine E_yes ?_ | with_reducible refine E_lf ?_ | with_reducible refine E_wnil ?_ | with_reducible refine E_wcons ?_ | with_reducible refine E_wlst ?_ | with_reducible refine E_callPW ?_ | with_reducible refine E_meth ?_ | with_reducible refine E_cm ?_ | with_reducible refine if_t ?_ | with_reducible refine if_f ?_ | ((with_reducible apply E_var); (case h => rfl)) | ((with_reducible apply ex_and); (case h => (simp only [List.set, frz] <;> rfl))) | ((with_reducible apply ex_and); (case h => rfl)) | ((with_reducible refine And.intro ?hd ?_); (case hd => decide))))
    refine E_pen1 ?_
    (repeat (first | with_reducible refine S_seq ?_ | with_reducible refine S_set ?_ | with_reducible refine S_asg ?_ | with_reducible refine S_if ?_ | with_reducible refine S_ret ?_ | with_reducible refine S_next ?_ | with_reducible refine S_for ?_ | with_reducible refine S_setW ?_ | with_reducible refine S_retW ?_ | with_reducible refine S_frz ?_ | with_reducible refine S_drop ?_ | with_reducible refine S_par ?_ | with_reducible refine S_retN ?_ | with_reducible refine S_brk ?_ | with_reducible refine S_ct ?_ | with_reducible refine E_op ?_ | with_reducible refine E_tb ?_ | with_reducible refine E_cb ?_ | with_reducible refine E_cons ?_ | with_reducible refine E_nil ?_ | with_reducible refine E_C ?_ | with_reducible refine E_addI ?_ | with_reducible refine E_subI ?_ | with_reducible refine E_ltI ?_ | with_reducible refine E_leI ?_ | with_reducible refine E_gtI ?_ | with_reducible refine E_geI ?_ | with_reducible refine E_eqI ?_ | with_reducible refine E_neI ?_ | with_reducible refine E_eqS ?_ | with_reducible refine E_neS ?_ | with_reducible refine E_un ?_ | with_reducible refine E_tru ?_ | with_reducible refine E_not ?_ | with_reducible refine E_notV ?_ | with_reducible refine E_tup ?_ | with_reducible refine E_lst ?_ | with_reducible refine E_items ?_ | with_reducible refine E_range ?_ | with_reducible refine E_part ?_ | with_reducible refine E_sl ?_ | with_reducible refine E_callP ?_ | with_reducible refine E_fz ?_ | with_reducible refine E_yes ?_ | with_reducible refine E_lf ?_ | with_reducible refine E_wnil ?_ | with_reducible refine E_wcons ?_ | with_reducible refine E_wlst ?_ | with_reducible refine E_callPW ?_ | with_reducible refine E_meth ?_ | with_reducible refine E_cm ?_ | with_reducible refine if_t ?_ | with_reducible refine if_f ?_ | ((with_reducible apply E_var); (case h => rfl)) | ((with_reducible apply ex_and); (case h => (simp only [List.set, frz] <;> rfl))) | ((with_reducible apply ex_and); (case h => rfl)) | ((with_reducible refine And.intro ?hd ?_); (case hd => decide))))
    refine S_penP1 ?_
    (repeat (first | with_reducible refine S_seq ?_ | with_reducible refine S_set ?_ | with_reducible refine S_asg ?_ | with_reducible refine S_if ?_ | with_reducible refine S_ret ?_ | with_reducible refine S_next ?_ | with_reducible refine S_for ?_ | with_reducible refine S_setW ?_ | with_reducible refine S_retW ?_ | with_reducible refine S_frz ?_ | with_reducible refine S_drop ?_ | with_reducible refine S_par ?_ | with_reducible refine S_retN ?_ | with_reducible refine S_brk ?_ | with_reducible refine S_ct ?_ | with_reducible refine E_op ?_ | with_reducible refine E_tb ?_ | with_reducible refine E_cb ?_ | with_reducible refine E_cons ?_ | with_reducible refine E_nil ?_ | with_reducible refine E_C ?_ | with_reducible refine E_addI ?_ | with_reducible refine E_subI ?_ | with_reducible refine E_ltI ?_ | with_reducible refine E_leI ?_ | with_reducible refine E_gtI ?_ | with_reducible refine E_geI ?_ | with_reducible refine E_eqI ?_ | with_reducible refine E_neI ?_ | with_reducible refine E_eqS ?_ | with_reducible refine E_neS ?_ | with_reducible refine E_un ?_ | with_reducible refine E_tru ?_ | with_reducible refine E_not ?_ | with_reducible refine E_notV ?_ | with_reducible refine E_tup ?_ | with_reducible refine E_lst ?_ | with_reducible refine E_items ?_ | with_reducible refine E_range ?_ | with_reducible refine E_part ?_ | with_reducible refine E_sl ?_ | with_reducible refine E_callP ?_ | with_reducible refine E_fz ?_ | with_reducible refine E_yes ?_ | with_reducible refine E_lf ?_ | with_reducible refine E_wnil ?_ | with_reducible refine E_wcons ?_ | with_reducible refine E_wlst ?_ | with_reducible refine E_callPW ?_ | with_reducible refine E_meth ?_ | with_reducible refine E_cm ?_ | with_reducible refine if_t ?_ | with_reducible refine if_f ?_ | ((with_reducible apply E_var); (case h => rfl)) | ((with_reducible apply ex_and); (case h => (simp only [List.set, frz] <;> rfl))) | ((with_reducible apply ex_and); (case h => rfl)) | ((with_reducible refine And.intro ?hd ?_); (case hd => decide))))
    refine E_mulI (.inl (smallI (by omega) (by omega))) ?_
    (repeat (first | with_reducible refine S_seq ?_ | with_reducible refine S_set ?_ | with_reducible refine S_asg ?_ | with_reducible refine S_if ?_ | with_reducible refine S_ret ?_ | with_reducible refine S_next ?_ | with_reducible refine S_for ?_ | with_reducible refine S_setW ?_ | with_reducible refine S_retW ?_ | with_reducible refine S_frz ?_ | with_reducible refine S_drop ?_ | with_reducible refine S_par ?_ | with_reducible refine S_retN ?_ | with_reducible refine S_brk ?_ | with_reducible refine S_ct ?_ | with_reducible refine E_op ?_ | with_reducible refine E_tb ?_ | with_reducible refine E_cb ?_ | with_reducible refine E_cons ?_ | with_reducible refine E_nil ?_ | with_reducible refine E_C ?_ | with_reducible refine E_addI ?_ | with_reducible refine E_subI ?_ | with_reducible refine E_ltI ?_ | with_reducible refine E_leI ?_ | with_reducible refine E_gtI ?_ | with_reducible refine E_geI ?_ | with_reducible refine E_eqI ?_ | with_reducible refine E_neI ?_ | with_reducible refine E_eqS ?_ | with_reducible refine E_neS ?_ | with_reducible refine E_un ?_ | with_reducible refine E_tru ?_ | with_reducible refine E_not ?_ | with_reducible refine E_notV ?_ | with_reducible refine E_tup ?_ | with_reducible refine E_lst ?_ | with_reducible refine E_items ?_ | with_reducible refine E_range ?_ | with_reducible refine E_part ?_ | with_reducible refine E_sl ?_ | with_reducible refine E_callP ?_ | with_reducible refine E_fz ?_ | with_reducible refine E_yes ?_ | with_reducible refine E_lf ?_ | with_reducible refine E_wnil ?_ | with_reducible refine E_wcons ?_ | with_reducible refine E_wlst ?_ | with_reducible refine E_callPW ?_ | with_reducible refine E_meth ?_ | with_reducible refine E_cm ?_ | with_reducible refine if_t ?_ | with_reducible refine if_f ?_ | ((with_reducible apply E_var); (case h => rfl)) | ((with_reducible apply ex_and); (case h => (simp only [List.set, frz] <;> rfl))) | ((with_reducible apply ex_and); (case h => rfl)) | ((with_reducible refine And.intro ?hd ?_); (case hd => decide))))
    refine E_pen0 ?_
    refine E_lst ?_
    refine E_nil ?_
    refine ⟨by decide, ?_⟩
    refine E_pur (d := .bl (!ns.isEmpty)) (by simp [dNeX, dEqF, scalD, emptD]) ?_
    (repeat (first | with_reducible refine S_seq ?_ | with_reducible refine S_set ?_ | with_reducible refine S_asg ?_ | with_reducible refine S_if ?_ | with_reducible refine S_ret ?_ | with_reducible refine S_next ?_ | with_reducible refine S_for ?_ | with_reducible refine S_setW ?_ | with_reducible refine S_retW ?_ | with_reducible refine S_frz ?_ | with_reducible refine S_drop ?_ | with_reducible refine S_par ?_ | with_reducible refine S_retN ?_ | with_reducible refine S_brk ?_ | with_reducible refine S_ct ?_ | with_reducible refine E_op ?_ | with_reducible refine E_tb ?_ | with_reducible refine E_cb ?_ | with_reducible refine E_cons ?_ | with_reducible refine E_nil ?_ | with_reducible refine E_C ?_ | with_reducible refine E_addI ?_ | with_reducible refine E_subI ?_ | with_reducible refine E_ltI ?_ | with_reducible refine E_leI ?_ | with_reducible refine E_gtI ?_ | with_reducible refine E_geI ?_ | with_reducible refine E_eqI ?_ | with_reducible refine E_neI ?_ | with_reducible refine E_eqS ?_ | with_reducible refine E_neS ?_ | with_reducible refine E_un ?_ | with_reducible refine E_tru ?_ | with_reducible refine E_not ?_ | with_reducible refine E_notV ?_ | with_reducible refine E_tup ?_ | with_reducible refine E_lst ?_ | with_reducible refine E_items ?_ | with_reducible refine E_range ?_ | with_reducible refine E_part ?_ | with_reducible refine E_sl ?_ | with_reducible refine E_callP ?_ | with_reducible refine E_fz ?_ | with_reducible refine E_yes ?_ | with_reducible refine E_lf ?_ | with_reducible refine E_wnil ?_ | with_reducible refine E_wcons ?_ | with_reducible refine E_wlst ?_ | with_reducible refine E_callPW ?_ | with_reducible refine E_meth ?_ | with_reducible refine E_cm ?_ | with_reducible refine if_t ?_ | with_reducible refine if_f ?_ | ((with_reducible apply E_var); (case h => rfl)) | ((with_reducible apply ex_and); (case h => (simp only [List.set, frz] <;> rfl))) | ((with_reducible apply ex_and); (case h => rfl)) | ((with_reducible refine And.intro ?hd ?_); (case hd => decide))))
    refine ⟨fun z => ?_, fun z => ?_⟩
    · have hp : (0 : Int) < ((ns.map D.int).length : Nat) := by
        cases ns with
        | nil => cases z
        | cons => simp
      (repeat (first | with_reducible refine S_seq ?_ | with_reducible refine S_set ?_ | with_reducible refine S_asg ?_ | with_reducible refine S_if ?_ | with_reducible refine S_ret ?_ | with_reducible refine S_next ?_ | with_reducible refine S_for ?_ | with_reducible refine S_setW ?_ | with_reducible refine S_retW ?_ | with_reducible refine S_frz ?_ | with_reducible refine S_drop ?_ | with_reducible refine S_par ?_ | with_reducible refine S_retN ?_ | with_reducible refine S_brk ?_ | with_reducible refine S_ct ?_ | with_reducible refine E_op ?_ | with_reducible refine E_tb ?_ | with_reducible refine E_cb ?_ | with_reducible refine E_cons ?_ | with_reducible refine E_nil ?_ | with_reducible refine E_C ?_ | with_reducible refine E_addI ?_ | with_reducible refine E_subI ?_ | with_reducible refine E_ltI ?_ | with_reducible refine E_leI ?_ | with_reducible refine E_gtI ?_ | with_reducible refine E_geI ?_ | with_reducible refine E_eqI ?_ | with_reducible refine E_neI ?_ | with_reducible refine E_eqS ?_ | with_reducible refine E_neS ?_ | with_reducible refine E_un ?_ | with_reducible refine E_tru ?_ | with_reducible refine E_not ?_ | with_reducible refine E_notV ?_ | with_reducible refine E_tup ?_ | with_reducible refine E_lst ?_ | with_reducible refine E_items ?_ | with_reducible refine E_range ?_ | with_reducible refine E_part ?_ | with_reducible refine E_sl ?_ | with_reducible refine E_callP ?_ | with_reducible refine E_fz ?_ | with_reducible refine E_yes ?_ | with_reducible refine E_lf ?_ | with_reducible refine E_wnil ?_ | with_reducible refine E_wcons ?_ | with_reducible refine E_wlst ?_ | with_reducible refine E_callPW ?_ | with_reducible refine E_meth ?_ | with_reducible refine E_cm ?_ | with_reducible refine if_t ?_ | with_reducible refine if_f ?_ | ((with_reducible apply E_var); (case h => rfl)) | ((with_reducible apply ex_and); (case h => (simp only [List.set, frz] <;> rfl))) | ((with_reducible apply ex_and); (case h => rfl)) | ((with_reducible refine And.intro ?hd ?_); (case hd => decide))))
      refine E_pen0 ?_
      (repeat (first | with_reducible refine S_seq ?_ | with_reducible refine S_set ?_ | with_reducible refine S_asg ?_ | with_reducible refine S_if ?_ | with_reducible refine S_ret ?_ | with_reducible refine S_next ?_ | with_reducible refine S_for ?_ | with_reducible refine S_setW ?_ | with_reducible refine S_retW ?_ | with_reducible refine S_frz ?_ | with_reducible refine S_drop ?_ | with_reducible refine S_par ?_ | with_reducible refine S_retN ?_ | with_reducible refine S_brk ?_ | with_reducible refine S_ct ?_ | with_reducible refine E_op ?_ | with_reducible refine E_tb ?_ | with_reducible refine E_cb ?_ | with_reducible refine E_cons ?_ | with_reducible refine E_nil ?_ | with_reducible refine E_C ?_ | with_reducible refine E_addI ?_ | with_reducible refine E_subI ?_ | with_reducible refine E_ltI ?_ | with_reducible refine E_leI ?_ | with_reducible refine E_gtI ?_ | with_reducible refine E_geI ?_ | with_reducible refine E_eqI ?_ | with_reducible refine E_neI ?_ | with_reducible refine E_eqS ?_ | with_reducible refine E_neS ?_ | with_reducible refine E_un ?_ | with_reducible refine E_tru ?_ | with_reducible refine E_not ?_ | with_reducible refine E_notV ?_ | with_reducible refine E_tup ?_ | with_reducible refine E_lst ?_ | with_reducible refine E_items ?_ | with_reducible refine E_range ?_ | with_reducible refine E_part ?_ | with_reducible refine E_sl ?_ | with_reducible refine E_callP ?_ | with_reducible refine E_fz ?_ | with_reducible refine E_yes ?_ | with_reducible refine E_lf ?_ | with_reducible refine E_wnil ?_ | with_reducible refine E_wcons ?_ | with_reducible refine E_wlst ?_ | with_reducible refine E_callPW ?_ | with_reducible refine E_meth ?_ | with_reducible refine E_cm ?_ | with_reducible refine if_t ?_ | with_reducible refine if_f ?_ | ((with_reducible apply E_var); (case h => rfl)) | ((with_reducible apply ex_and); (case h => (simp only [List.set, frz] <;> rfl))) | ((with_reducible apply ex_and); (case h => rfl)) | ((with_reducible refine And.intro ?hd ?_); (case hd => decide))))
      refine E_pen0 ?_
      (repeat (first | with_reducible refine S_seq ?_ | with_reducible refine S_set ?_ | with_reducible refine S_asg ?_ | with_reducible refine S_if ?_ | with_reducible refine S_ret ?_ | with_reducible refine S_next ?_ | with_reducible refine S_for ?_ | with_reducible refine S_setW ?_ | with_reducible refine S_retW ?_ | with_reducible refine S_frz ?_ | with_reducible refine S_drop ?_ | with_reducible refine S_par ?_ | with_reducible refine S_retN ?_ | with_reducible refine S_brk ?_ | with_reducible refine S_ct ?_ | with_reducible refine E_op ?_ | with_reducible refine E_tb ?_ | with_reducible refine E_cb ?_ | with_reducible refine E_cons ?_ | with_reducible refine E_nil ?_ | with_reducible refine E_C ?_ | with_reducible refine E_addI ?_ | with_reducible refine E_subI ?_ | with_reducible refine E_ltI ?_ | with_reducible refine E_leI ?_ | with_reducible refine E_gtI ?_ | with_reducible refine E_geI ?_ | with_reducible refine E_eqI ?_ | with_reducible refine E_neI ?_ | with_reducible refine E_eqS ?_ | with_reducible refine E_neS ?_ | with_reducible refine E_un ?_ | with_reducible refine E_tru ?_ | with_reducible refine E_not ?_ | with_reducible refine E_notV ?_ | with_reducible refine E_tup ?_ | with_reducible refine E_lst ?_ | with_reducible refine E_items ?_ | with_reducible refine E_range ?_ | with_reducible refine E_part ?_ | with_reducible refine E_sl ?_ | with_reducible refine E_callP ?_ | with_reducible refine E_fz ?_ | with_reducible refine E_yes ?_ | with_reducible refine E_lf ?_ | with_reducible refine E_wnil ?_ | with_reducible refine E_wcons ?_ | with_reducible refine E_wlst ?_ | with_reducible refine E_callPW ?_ | with_reducible refine E_meth ?_ | with_reducible refine E_cm ?_ | with_reducible refine if_t ?_ | with_reducible refine if_f ?_ | ((with_reducible apply E_var); (case h => rfl)) | ((with_reducible apply ex_and); (case h => (simp only [List.set, frz] <;> rfl))) | ((with_reducible apply ex_and); (case h => rfl)) | ((with_reducible refine And.intro ?hd ?_); (case hd => decide))))
      refine E_modI (by omega) ?_
      obtain ⟨x, hx, hm⟩ := atI_some (xs := ns.map D.int) (fmod_lo t hp) (fmod_hi t hp)
      obtain ⟨c, _, rfl⟩ := List.mem_map.mp hm
      refine E_pur (d := .int c) hx ?_
      refine ⟨_, rfl, ?_⟩
      exact lateD_ok (M := N + 1) hl h0 (by omega) (by omega) hn hn2
    · refine S_next ?_
      exact lateD_ok (M := N + 1) hl h0 (by omega) (by omega) hn hn2
end W08
namespace W08
open PySem L2 PySem.Spec PyProof.Rows StX Eo
/-! ## what can be shown -/
noncomputable def Sb (d : Eo.D) (n W : Nat) : Prop := ∃ p, toPyd d = some p ∧ p.showable = true ∧ p.leavesShort 128 = true ∧ p.depth ≤ n ∧ p.weight ≤ W
theorem Sbs {n W : Nat} : ∀ {ds : List Eo.D}, (∀ d ∈ ds, Sb d n W) → ∃ ps, toPyds ds = some ps ∧ PyData.showableAll ps = true ∧ PyData.leavesShortAll 128 ps = true ∧ PyData.depthAll ps ≤ n ∧ PyData.weightAll ps ≤ ds.length * (W + 1)
  | [], _ => ⟨[], rfl, rfl, rfl, Nat.zero_le _, Nat.zero_le _⟩
  | d :: ds, h => by
    obtain ⟨p, a1, a2, a3, a4, a5⟩ := h d (List.mem_cons_self ..)
    obtain ⟨ps, b1, b2, b3, b4, b5⟩ := Sbs (ds := ds) fun x hx => h x (List.mem_cons_of_mem _ hx)
    refine ⟨p :: ps, ?_, ?_, ?_, ?_, ?_⟩
    · simp only [toPyds, a1, b1]
    · simp only [PyData.showableAll, a2, b2, Bool.and_true]
    · simp only [PyData.leavesShortAll, a3, b3, Bool.and_true]
    · simp only [PyData.depthAll]; omega
    · simp only [PyData.weightAll, List.length_cons, Nat.add_mul]; omega
theorem Sb.lst {ds : List Eo.D} {n W : Nat} (h : ∀ d ∈ ds, Sb d n W) : Sb (.lst ds) (n + 1) (ds.length * (W + 1)) := by
  obtain ⟨ps, b1, b2, b3, b4, b5⟩ := Sbs h
  refine ⟨.list ps, ?_, ?_, ?_, ?_, ?_⟩
  · simp only [toPyd, b1, Option.map_some]
  · simp only [PyData.showable, b2]
  · simp only [PyData.leavesShort, b3]
  · simp only [PyData.depth]; omega
  · simp only [PyData.weight]; exact b5
theorem Sb.repr {d : Eo.D} {n W : Nat} (h : Sb d n W) (h1 : n ≤ 64) (h2 : W ≤ 100000) : ∃ z, dRepr [d] = some (.str z) := by
  obtain ⟨p, a, b, c, e, f⟩ := h
  refine ⟨p.shown, ?_⟩
  have hs := PyData.shown_le 128 (by decide) p c
  have hz : p.shown.length ≤ sizeLine := by
    rw [show sizeLine = 16777216 from rfl]
    omega
  have he : p.depth ≤ 64 := by omega
  simp [dRepr, shownD, a, b, he, hz]
/-! ## odd values -/
theorem ix_D {l : List Eo.D} {j : Int} (h0 : 0 ≤ j) (h1 : j < l.length) : ∃ k ∈ l, dIx (.lst l) (.int j) = some k := by
  obtain ⟨x, hx, hm⟩ := atI_some h0 h1
  exact ⟨x, hm, hx⟩
noncomputable def odds1 : List Eo.D := [.non, .bl true, .bl false, .int 0, .int (-1), .str "", .str "a", .str "A", .str "a\n", .str "abcdefghi", .str "abcdefgh", .str "self", .tup [], .lst [], .dct [], .tup [.str "a"]]
noncomputable def odds2 : List Eo.D := [.int 1000000000000000000, .int (1000000000000000000 + 1), .int (0 - 1000000000000000000 - 1), .int (10 ^ 40 + 1), .str "get", .lst [.str "get", .str "a"], .dct [(.inr "a", .int 1)], .tup [.str "put", .str "a"]]
noncomputable def odds3 : List Eo.D := [.str "F", .str "S", .str "f", .tup [.str "F"], .int (10 ^ 50 * 10 ^ 49), .int 1]
theorem odds_sb : ∀ d ∈ (odds1 ++ odds2) ++ odds3, Sb d 2 400 := by
  intro d hd
  simp only [odds1, odds2, odds3, List.cons_append, List.nil_append, List.mem_cons, List.not_mem_nil, or_false] at hd
  rcases hd with rfl | rfl | rfl | rfl | rfl | rfl | rfl | rfl | rfl | rfl | rfl | rfl | rfl | rfl | rfl | rfl | rfl | rfl | rfl | rfl | rfl | rfl | rfl | rfl | rfl | rfl | rfl | rfl | rfl | rfl
  all_goals exact ⟨_, rfl, by decide +kernel, by decide +kernel, by decide +kernel, by decide +kernel⟩
theorem pow18 : dPow (.int 10) (.int 18) = some (.int 1000000000000000000) := by simp [dPow, dI]
theorem addI (i j : Int) : dAdd (.int i) (.int j) = some (.int (i + j)) := rfl
theorem pow40 : dPow (.int 10) (.int 40) = some (.int (10 ^ 40)) := by simp [dPow, dI]
theorem pow50 : dPow (.int 10) (.int 50) = some (.int (10 ^ 50)) := by simp [dPow, dI]
theorem pow49 : dPow (.int 10) (.int 49) = some (.int (10 ^ 49)) := by simp [dPow, dI]
theorem mulWe {i j : Int} (h : decide (i.natAbs.log2 + j.natAbs.log2 < 1000000) = true) : dMulW (.int i) (.int j) = some (.int (i * j)) := by
  show (if decide (i.natAbs.log2 + j.natAbs.log2 < 1000000) = true then some (Eo.D.int (i * j)) else none) = _
  rw [if_pos h]
theorem mulW : dMulW (.int (10 ^ 50)) (.int (10 ^ 49)) = some (.int (10 ^ 50 * 10 ^ 49)) := mulWe (by decide +kernel)
theorem lap (a b : List Eo.D) (h : a.length + b.length ≤ sizeLine) : dAdd (.lst a) (.lst b) = some (.lst (a ++ b)) := by
  show (if _ then some (Eo.D.lst _) else none) = _
  rw [if_pos h]
theorem odd_draw {N : Nat} {p : OT} (hp : POk N p) (hN : N + 100 < 1000000) : ∃ (d : Eo.D) (p' : OT), f_law_odd p [] = some (.dat d, p') ∧ POk (N + 1) p' ∧ Sb d 2 400 := by
  suffices h : ∃ v p', f_law_odd p [] = some (v, p') ∧ ∃ d : Eo.D, v = .dat d ∧ POk (N + 1) p' ∧ Sb d 2 400 by
    obtain ⟨v, p', e, ns, rfl, q⟩ := h
    exact ⟨ns, p', e, q⟩
  refine fnI_W (Q := fun v p' => ∃ d : Eo.D, v = .dat d ∧ POk (N + 1) p' ∧ Sb d 2 400) rfl ?_
  show (m_law_odd [.io p, .emp]).W _ _ _ _ _
  unfold m_law_odd
  refine S_nx (ρ' := [.io p, .dat (.lst odds1)]) (by
    simp only [mSeq, mIf, mAsg, mRet, mRetN, mOp, pur, mVar, mC, mCons, mNil, mCB, mUn, mTB, mTru, mNot, mOr, mAnd, mAndV, mOrV, mNotV, mTup, mLst, mChain, mCallP, mFor, mItems, mRange, mIfE, mNext, mMeth, mCM, mFz, mYes, mSl, mPart, mDGet2, R.bind, R.then, O.seq, lift, gSet, gTupD, gConsD, gNilD, optO, O.val, O.valI, List.getElem?_cons_zero, List.getElem?_cons_succ, List.set_cons_zero, List.set_cons_succ, List.length_cons, List.length_nil, zl0, zl1, zl2, zl3, zl4, zl5, zl6, zl7, zl8, decide_true, decide_false, zk0, zk1, zk2, zk3, zk4, zk5, zk6, zk7, zk8, dTru, Bool.not_true, Bool.not_false, eq_self, Bool.false_eq_true, reduceCtorEq, if_true, if_false, dNeg, odds1, show (0 + 1 + 1 + 1 + 1 + 1 + 1 + 1 + 1 + 1 + 1 + 1 + 1 + 1 + 1 + 1 + 1 ≤ sizeLine) = True from eq_true (by decide)]) ?_
  have l12 := lap odds1 odds2 (by decide)
  have l3 := lap (odds1 ++ odds2) odds3 (by decide)
  refine S_nx (ρ' := [.io p, .dat (.lst (odds1 ++ odds2))]) (by
    have h := l12
    rw [show Eo.D.lst odds2 = .lst [.int 1000000000000000000, .int (1000000000000000000 + 1), .int (0 - 1000000000000000000 - 1), .int (10 ^ 40 + 1), .str "get", .lst [.str "get", .str "a"], .dct [(.inr "a", .int 1)], .tup [.str "put", .str "a"]] from rfl] at h
    simp only [mSeq, mIf, mAsg, mRet, mRetN, mOp, pur, mVar, mC, mCons, mNil, mCB, mUn, mTB, mTru, mNot, mOr, mAnd, mAndV, mOrV, mNotV, mTup, mLst, mChain, mCallP, mFor, mItems, mRange, mIfE, mNext, mMeth, mCM, mFz, mYes, mSl, mPart, mDGet2, R.bind, R.then, O.seq, lift, gSet, gTupD, gConsD, gNilD, optO, O.val, O.valI, List.getElem?_cons_zero, List.getElem?_cons_succ, List.set_cons_zero, List.set_cons_succ, List.length_cons, List.length_nil, zl0, zl1, zl2, zl3, zl4, zl5, zl6, zl7, zl8, decide_true, decide_false, zk0, zk1, zk2, zk3, zk4, zk5, zk6, zk7, zk8, dTru, Bool.not_true, Bool.not_false, eq_self, Bool.false_eq_true, reduceCtorEq, if_true, if_false, pow18, pow40, addI, dSub, dI, mDict1, h]) ?_
  obtain ⟨j, p1, e1, j0, j1, hp1⟩ := draw0 draw_ok hp 30 [.dat (.lst (odds1 ++ odds2))] (mCons (mC (.int 30)) mNil) (by omega) (by decide) (by decide) rfl
  obtain ⟨d, dm, de⟩ := ix_D (l := (odds1 ++ odds2) ++ odds3) (j := j) j0 (by
    rw [show ((odds1 ++ odds2) ++ odds3).length = 30 from rfl]; exact j1)
  refine W_rt (d := d) (ρ' := [.io p1, .dat (.lst (odds1 ++ odds2))]) ?_ ⟨p1, rfl, d, rfl, hp1, odds_sb d dm⟩
  have h := l3
  rw [show Eo.D.lst odds3 = .lst [.str "F", .str "S", .str "f", .tup [.str "F"], .int (10 ^ 50 * 10 ^ 49), .int 1] from rfl] at h
  generalize (odds1 ++ odds2) = o12 at h de e1 ⊢
  generalize o12 ++ odds3 = o3 at h de
  simp only [mSeq, mIf, mAsg, mRet, mRetN, mOp, pur, mVar, mC, mCons, mNil, mCB, mUn, mTB, mTru, mNot, mOr, mAnd, mAndV, mOrV, mNotV, mTup, mLst, mChain, mCallP, mFor, mItems, mRange, mIfE, mNext, mMeth, mCM, mFz, mYes, mSl, mPart, mDGet2, R.bind, R.then, O.seq, lift, gSet, gTupD, gConsD, gNilD, optO, O.val, O.valI, List.getElem?_cons_zero, List.getElem?_cons_succ, List.set_cons_zero, List.set_cons_succ, List.length_cons, List.length_nil, zl0, zl1, zl2, zl3, zl4, zl5, zl6, zl7, zl8, decide_true, decide_false, zk0, zk1, zk2, zk3, zk4, zk5, zk6, zk7, zk8, dTru, Bool.not_true, Bool.not_false, eq_self, Bool.false_eq_true, reduceCtorEq, if_true, if_false, pow50, pow49, mulW, h, e1, de]
end W08
namespace W08
open PySem L2 PySem.Spec PyProof.Rows StX Eo
noncomputable def errsL (a b : Eo.D) : List Eo.D := [.exc "InvalidProgram" [("index", a)], .exc "InvalidDuo" [("pipe", a)], .exc "InvalidSize" [("name", a)], .exc "InvalidTerms" [("name", a)], .exc "InvalidTurn" [("index", a)], .exc "InvalidGuide" [("pair", a)], .exc "InvalidTeam" [("pipe", a)], .exc "InvalidRounds" [("number", a)], .exc "InvalidDurations" [("letter", a)], .exc "InvalidLetter" [("letter", a)], .exc "InvalidEdit" [("index", a)], .exc "InvalidLimit" [("number", a)], .exc "InvalidText" [("word", b), ("line", a)], .exc "Ringed" [("members", a)], .exc "SamePipe" [("index", a)], .exc "NotStuck" [("pair", a)], .exc "Starved" [("pair", a)], .exc "UnknownCommand" [("command", a)], .exc "NoPipe" [("name", a)], .exc "NoPair" [("pair", a)], .exc "NoStep" [("index", a)], .exc "NothingToUndo" [("count", a)], .exc "NothingToRedo" [("count", a)], .exc "NoMark" [("name", a)], .exc "CannotGo" [("who", a)], .exc "TooMany" [("most", a)]]
noncomputable def dueL : List Eo.D := [.lst [.int 1, .int 1, .int 0, .int 0, .int 0, .int 0, .int 0], .lst [.int 1, .int 1, .int 0, .int 0, .int 0, .int 0, .int 0], .lst [.int 1, .int 1, .int 0, .int 0, .int 0, .int 0, .int 0], .lst [.int 1, .int 1, .int 0, .int 0, .int 0, .int 0, .int 0], .lst [.int 1, .int 1, .int 0, .int 0, .int 0, .int 0, .int 0], .lst [.int 1, .int 1, .int 0, .int 0, .int 0, .int 0, .int 0], .lst [.int 1, .int 1, .int 0, .int 0, .int 0, .int 0, .int 0], .lst [.int 1, .int 1, .int 0, .int 0, .int 0, .int 0, .int 0], .lst [.int 1, .int 1, .int 0, .int 0, .int 0, .int 0, .int 0], .lst [.int 1, .int 1, .int 0, .int 0, .int 0, .int 0, .int 0], .lst [.int 1, .int 1, .int 0, .int 0, .int 0, .int 0, .int 0], .lst [.int 1, .int 1, .int 0, .int 0, .int 0, .int 0, .int 0], .lst [.int 1, .int 1, .int 0, .int 0, .int 0, .int 0, .int 0], .lst [.int 1, .int 1, .int 0, .int 0, .int 0, .int 0, .int 0], .lst [.int 1, .int 1, .int 0, .int 0, .int 0, .int 0, .int 0], .lst [.int 1, .int 1, .int 0, .int 0, .int 0, .int 0, .int 0], .lst [.int 1, .int 1, .int 0, .int 0, .int 0, .int 0, .int 0], .lst [.int 1, .int 1, .int 0, .int 0, .int 0, .int 0, .int 0], .lst [.int 0, .int 0, .int 1, .int 0, .int 1, .int 0, .int 0], .lst [.int 0, .int 0, .int 0, .int 1, .int 1, .int 0, .int 0], .lst [.int 0, .int 0, .int 0, .int 1, .int 1, .int 0, .int 0], .lst [.int 0, .int 0, .int 0, .int 0, .int 1, .int 0, .int 0], .lst [.int 0, .int 0, .int 0, .int 0, .int 1, .int 0, .int 0], .lst [.int 0, .int 0, .int 0, .int 0, .int 1, .int 0, .int 0], .lst [.int 0, .int 0, .int 0, .int 0, .int 0, .int 1, .int 0], .lst [.int 0, .int 0, .int 0, .int 0, .int 0, .int 0, .int 1]]
theorem errors_eq (a b : Eo.D) : f_law_errors [a, b] = some (.dat (.lst (errsL a b))) := by kernel_rfl
theorem named_eq (a b : Eo.D) : f_law_named [a, b] = some (.dat (.lst (errsL a b))) := by kernel_rfl
theorem fields_eq (a b : Eo.D) : f_law_fields [.lst (errsL a b)] = some (.dat (.lst (List.replicate 26 a))) := by kernel_rfl
noncomputable def row (k : Nat) : List Eo.D := (List.range 26).map fun j => .bl (decide (j = k))
theorem told_eq (a b : Eo.D) : ∀ k, k < 26 → ∃ x y, (errsL a b)[k]? = some x ∧ dueL[k]? = some (.lst y) ∧ f_law_classes [x] = some (.dat (.lst (row k))) ∧ f_law_bases [x] = some (.dat (.lst y)) ∧ dNeX (.lst y) (.lst y) = some (.bl false) ∧ dNeX (.lst (row k)) (.lst (row k)) = some (.bl false)
  | 0, _ => ⟨_, _, rfl, rfl, by kernel_rfl, by kernel_rfl, by kernel_rfl, by kernel_rfl⟩
  | 1, _ => ⟨_, _, rfl, rfl, by kernel_rfl, by kernel_rfl, by kernel_rfl, by kernel_rfl⟩
  | 2, _ => ⟨_, _, rfl, rfl, by kernel_rfl, by kernel_rfl, by kernel_rfl, by kernel_rfl⟩
  | 3, _ => ⟨_, _, rfl, rfl, by kernel_rfl, by kernel_rfl, by kernel_rfl, by kernel_rfl⟩
  | 4, _ => ⟨_, _, rfl, rfl, by kernel_rfl, by kernel_rfl, by kernel_rfl, by kernel_rfl⟩
  | 5, _ => ⟨_, _, rfl, rfl, by kernel_rfl, by kernel_rfl, by kernel_rfl, by kernel_rfl⟩
  | 6, _ => ⟨_, _, rfl, rfl, by kernel_rfl, by kernel_rfl, by kernel_rfl, by kernel_rfl⟩
  | 7, _ => ⟨_, _, rfl, rfl, by kernel_rfl, by kernel_rfl, by kernel_rfl, by kernel_rfl⟩
  | 8, _ => ⟨_, _, rfl, rfl, by kernel_rfl, by kernel_rfl, by kernel_rfl, by kernel_rfl⟩
  | 9, _ => ⟨_, _, rfl, rfl, by kernel_rfl, by kernel_rfl, by kernel_rfl, by kernel_rfl⟩
  | 10, _ => ⟨_, _, rfl, rfl, by kernel_rfl, by kernel_rfl, by kernel_rfl, by kernel_rfl⟩
  | 11, _ => ⟨_, _, rfl, rfl, by kernel_rfl, by kernel_rfl, by kernel_rfl, by kernel_rfl⟩
  | 12, _ => ⟨_, _, rfl, rfl, by kernel_rfl, by kernel_rfl, by kernel_rfl, by kernel_rfl⟩
  | 13, _ => ⟨_, _, rfl, rfl, by kernel_rfl, by kernel_rfl, by kernel_rfl, by kernel_rfl⟩
  | 14, _ => ⟨_, _, rfl, rfl, by kernel_rfl, by kernel_rfl, by kernel_rfl, by kernel_rfl⟩
  | 15, _ => ⟨_, _, rfl, rfl, by kernel_rfl, by kernel_rfl, by kernel_rfl, by kernel_rfl⟩
  | 16, _ => ⟨_, _, rfl, rfl, by kernel_rfl, by kernel_rfl, by kernel_rfl, by kernel_rfl⟩
  | 17, _ => ⟨_, _, rfl, rfl, by kernel_rfl, by kernel_rfl, by kernel_rfl, by kernel_rfl⟩
  | 18, _ => ⟨_, _, rfl, rfl, by kernel_rfl, by kernel_rfl, by kernel_rfl, by kernel_rfl⟩
  | 19, _ => ⟨_, _, rfl, rfl, by kernel_rfl, by kernel_rfl, by kernel_rfl, by kernel_rfl⟩
  | 20, _ => ⟨_, _, rfl, rfl, by kernel_rfl, by kernel_rfl, by kernel_rfl, by kernel_rfl⟩
  | 21, _ => ⟨_, _, rfl, rfl, by kernel_rfl, by kernel_rfl, by kernel_rfl, by kernel_rfl⟩
  | 22, _ => ⟨_, _, rfl, rfl, by kernel_rfl, by kernel_rfl, by kernel_rfl, by kernel_rfl⟩
  | 23, _ => ⟨_, _, rfl, rfl, by kernel_rfl, by kernel_rfl, by kernel_rfl, by kernel_rfl⟩
  | 24, _ => ⟨_, _, rfl, rfl, by kernel_rfl, by kernel_rfl, by kernel_rfl, by kernel_rfl⟩
  | 25, _ => ⟨_, _, rfl, rfl, by kernel_rfl, by kernel_rfl, by kernel_rfl, by kernel_rfl⟩
  | n + 26, h => absurd h (by omega)
end W08
namespace W08
open PySem L2 PySem.Spec PyProof.Rows StX Eo
theorem pen_made (ns : List Int) : ∃ p, f_law_pen [.scr ns] = some (.own p) ∧ POk 0 p := by
  refine pen_ok (N := N_law_pen) (m := m_law_pen) ns rfl (fun ρ h0 h1 => ?_)
  simp only [m_law_pen, mSeq, mIf, mAsg, mRet, mRetN, mOp, pur, mVar, mC, mCons, mNil, mCB, mUn, mTB, mTru, mNot, mOr, mAnd, mAndV, mOrV, mNotV, mTup, mLst, mChain, mCallP, mFor, mItems, mRange, mIfE, mNext, mMeth, mCM, mFz, mYes, mSl, mPart, mDGet2, R.bind, R.then, O.seq, lift, gSet, gTupD, gConsD, gNilD, optO, O.val, O.valI, List.getElem?_cons_zero, List.getElem?_cons_succ, List.set_cons_zero, List.set_cons_succ, List.length_cons, List.length_nil, zl0, zl1, zl2, zl3, zl4, zl5, zl6, zl7, zl8, decide_true, decide_false, zk0, zk1, zk2, zk3, zk4, zk5, zk6, zk7, zk8, dTru, Bool.not_true, Bool.not_false, eq_self, Bool.false_eq_true, reduceCtorEq, if_true, if_false, mPV, mPIx, mPIxC, mPIxV, mLeaf, mFlat, OT.flat, subE, Sl.tree, OT.sub, OT.kid, OT.setKid, mLk, lockE, backE, R.mapE, keyD, mutE, Sl.mut, putE, Sl.putT, OT.put, mDPutP, mPutP, mAppP, mPopP, mSetFP, mSetW, mRetW, mWLst, mWCons, mWNil, mLf, mCallPW, mFrz, frz, mTakeP, mAppL, h1, dSl, dList]
noncomputable def CB08 : MS := (mIf (mOr (mTB (mOp (pur dNeX) (mCallP f_law_classes (mCons (mOp (pur dIx) (mVar 7) (mVar 4)) mNil)) (mLc [9] (mRange dRange1 (mCons (mC (.int 26)) mNil)) (gSet 9) mYes (mOp (pur dEqX) (mVar 9) (mVar 4))))) (mTB (mOp (pur dNeX) (mCallP f_law_bases (mCons (mOp (pur dIx) (mVar 7) (mVar 4)) mNil)) (mOp (pur dIx) (mVar 2) (mVar 4))))) (mRet (mC (.bl false))) mNext)
noncomputable def LB08 : MS := (mSeq (mPar 5 6 (mCons (mCallI f_law_odd 1 (mPV 1) mNil) (mCons (mCallI f_law_odd 1 (mPV 1) mNil) mNil)))
    (mSeq (mPar 7 8 (mCons (mCallP f_law_errors (mCons (mVar 5) (mCons (mVar 6) mNil))) (mCons (mCallP f_law_named (mCons (mVar 5) (mCons (mVar 6) mNil))) mNil)))
    (mSeq (mFor (mRange dRange1 (mCons (mC (.int 26)) mNil)) (gSet 4) CB08)
    (mSeq (mIf (mTB (mOp (pur dNeX) (mCB dRepr (mCons (mLst (mCons (mCallP f_law_fields (mCons (mVar 7) mNil)) (mCons (mCallP f_law_fields (mCons (mVar 8) mNil)) mNil))) mNil)) (mCB dRepr (mCons (mOp (pur dMulA) (mLst (mCons (mOp (pur dMulA) (mLst (mCons (mVar 5) mNil)) (mC (.int 26))) mNil)) (mC (.int 2))) mNil)))) (mRet (mC (.bl false))) mNext)
    (mIf (mTB (mOp (pur dNeX) (mCB dRepr (mCons (mLst (mCons (mUn (dXf (fun c => fl_word.contains c) "word") (mOp (pur dIx) (mVar 7) (mC (.int 12)))) (mCons (mUn (dXf (fun c => fl_word.contains c) "word") (mOp (pur dIx) (mVar 8) (mC (.int 12)))) mNil))) mNil)) (mCB dRepr (mCons (mLst (mCons (mVar 6) (mCons (mVar 6) mNil))) mNil)))) (mRet (mC (.bl false))) mNext)))))
theorem dIx_nat {l : List Eo.D} {k : Nat} {x : Eo.D} (h : l[k]? = some x) : dIx (.lst l) (.int (k : Int)) = some x := Eo.atI_nat h
theorem rangeN (n : Nat) : rangeD 0 n = (List.range n).map fun i : Nat => Eo.D.int (i : Int) := by
  unfold rangeD
  refine List.map_congr_left fun i _ => ?_
  rw [Int.zero_add]
theorem eq_ii (i j : Nat) : dEqX (.int (i : Int)) (.int (j : Int)) = some (.bl (decide (i = j))) := by
  refine eq_of_F ?_
  simp [dEqF, scalD]
  omega
theorem ne_ss (z : Str) : dNeX (.str z) (.str z) = some (.bl false) := by
  refine (ne_of_F (c := true) ?_)
  simp [dEqF, scalD]
theorem r26 : dRange1 [.int 26] = some ((List.range 26).map fun i : Nat => Eo.D.int (i : Int)) := by
  rw [← rangeN]; exact range1 (n := 26) (by decide)
theorem check_ok {ns : List Int} {p : OT} {a b : Eo.D} {s3 s9 : Sl} {k : Nat} (hk : k < 26) :
    CB08 [.dat (.scr ns), .own p, .dat (.lst dueL), s3, .dat (.int (k : Int)), .dat a, .dat b, .dat (.lst (errsL a b)), .dat (.lst (errsL a b)), s9] = .nx [.dat (.scr ns), .own p, .dat (.lst dueL), s3, .dat (.int (k : Int)), .dat a, .dat b, .dat (.lst (errsL a b)), .dat (.lst (errsL a b)), .emp] := by
  obtain ⟨x, y, hx, hy, e1, e2, e3, e4⟩ := told_eq a b k hk
  unfold CB08
  generalize errsL a b = L at hx ⊢
  generalize dueL = U at hy ⊢
  have i1 := dIx_nat hx
  have i2 := dIx_nat hy
  have lc : mLc [9] (mRange dRange1 (mCons (mC (.int 26)) mNil)) (gSet 9) mYes (mOp (pur dEqX) (mVar 9) (mVar 4)) [.dat (.scr ns), .own p, .dat (.lst U), s3, .dat (.int (k : Int)), .dat a, .dat b, .dat (.lst L), .dat (.lst L), s9] = .ok (.lst (row k)) [.dat (.scr ns), .own p, .dat (.lst U), s3, .dat (.int (k : Int)), .dat a, .dat b, .dat (.lst L), .dat (.lst L), .emp] :=
    mLc_each _ (fun i : Nat => Eo.D.int (i : Int)) (fun j : Nat => Eo.D.bl (decide (j = k))) (List.range 26) rfl rfl (mRange_eq (mCons_eq (mC_eq _ _) (mNil_eq _)) r26) (by decide)
      (fun j _ => ⟨[.dat (.scr ns), .own p, .dat (.lst U), s3, .dat (.int (k : Int)), .dat a, .dat b, .dat (.lst L), .dat (.lst L), .dat (.int (j : Int))], rfl, rfl, mOp_eq (mVar_eq rfl) (mVar_eq rfl) (pur_eq (eq_ii j k))⟩)
  exact if_ff (mOr_ff (mTB_eq (b := false) (mOp_eq (call1 (mOp_eq (mVar_eq rfl) (mVar_eq rfl) (pur_eq i1)) e1) lc (pur_eq e4))) (mTB_eq (b := false) (mOp_eq (call1 (mOp_eq (mVar_eq rfl) (mVar_eq rfl) (pur_eq i1)) e2) (mOp_eq (mVar_eq rfl) (mVar_eq rfl) (pur_eq i2)) (pur_eq e3))))
theorem mul26 (a : Eo.D) : dMulA (.lst [a]) (.int 26) = some (.lst (List.replicate 26 a)) := by kernel_rfl
theorem mul2 (a : Eo.D) : dMulA (.lst [a]) (.int 2) = some (.lst [a, a]) := by kernel_rfl
theorem word12 (a b : Eo.D) : ∃ x, (errsL a b)[12]? = some x ∧ dXf (fun c => fl_word.contains c) "word" x = some b := ⟨_, rfl, by kernel_rfl⟩
theorem rep_fields {a : Eo.D} (h : Sb a 2 400) : ∃ z, dRepr [.lst [.lst (List.replicate 26 a), .lst (List.replicate 26 a)]] = some (.str z) := by
  have h1 : Sb (.lst (List.replicate 26 a)) 3 (26 * 401) := by
    have := Sb.lst (ds := List.replicate 26 a) (n := 2) (W := 400) fun d hd => by
      rw [(List.mem_replicate.mp hd).2]; exact h
    rw [List.length_replicate] at this
    exact this
  refine Sb.repr (Sb.lst (n := 3) (W := 26 * 401) fun d hd => ?_) (by decide) (Nat.le_of_ble_eq_true rfl)
  rcases List.mem_cons.mp hd with rfl | hd
  · exact h1
  · rcases List.mem_cons.mp hd with rfl | hd
    · exact h1
    · cases hd
theorem rep_words {b : Eo.D} (h : Sb b 2 400) : ∃ z, dRepr [.lst [b, b]] = some (.str z) := by
  refine Sb.repr (Sb.lst (n := 2) (W := 400) fun d hd => ?_) (by decide) (Nat.le_of_ble_eq_true rfl)
  rcases List.mem_cons.mp hd with rfl | hd
  · exact h
  · rcases List.mem_cons.mp hd with rfl | hd
    · exact h
    · cases hd
noncomputable def St (N : Nat) (ns : List Int) (ρ : Eo.Env) : Prop := ∃ p s3 s4 s5 s6 s7 s8 s9, ρ = [.dat (.scr ns), .own p, .dat (.lst dueL), s3, s4, s5, s6, s7, s8, s9] ∧ POk N p
theorem turn08 {N : Nat} {p : OT} {ns : List Int} (hp : POk N p) (hN : N + 200 < 1000000) (s3 s4 s5 s6 s7 s8 s9 : Sl) : (LB08 [.dat (.scr ns), .own p, .dat (.lst dueL), s3, s4, s5, s6, s7, s8, s9]).W (St (N + 2) ns) (fun _ => False) (fun _ => False) (fun _ _ => False) nox := by
  unfold LB08
  obtain ⟨a, p1, e1, hp1, ha⟩ := odd_draw hp (by omega)
  obtain ⟨b, p2, e2, hp2, hb⟩ := odd_draw hp1 (by omega)
  have hc := fun (k : Nat) (hk : k < 26) (s9 : Sl) => check_ok (ns := ns) (p := p2) (a := a) (b := b) (s3 := s3) (s9 := s9) hk
  have q1 := errors_eq a b
  have q2 := named_eq a b
  have q3 := fields_eq a b
  obtain ⟨x, hx, hw⟩ := word12 a b
  have e1' := callI1 (s0 := .dat (.scr ns)) (s1 := .dat (.scr ns)) (r := [.dat (.lst dueL), s3, s4, s5, s6, s7, s8, s9]) (r2 := [.dat (.lst dueL), s3, s4, s5, s6, s7, s8, s9]) (mr := mNil) rfl e1
  have e2' := callI1 (s0 := .dat (.scr ns)) (s1 := .dat (.scr ns)) (r := [.dat (.lst dueL), s3, s4, s5, s6, s7, s8, s9]) (r2 := [.dat (.lst dueL), s3, s4, s5, s6, s7, s8, s9]) (mr := mNil) rfl e2
  unfold St
  generalize dueL = U at *
  generalize errsL a b = L at *
  refine S_nx (ρ' := [.dat (.scr ns), .own p2, .dat (.lst U), s3, s4, .dat a, .dat b, s7, s8, s9]) (mPar_eq (mCons_eq e1' (mCons_eq e2' (mNil_eq _)))) ?_
  refine S_nx (ρ' := [.dat (.scr ns), .own p2, .dat (.lst U), s3, s4, .dat a, .dat b, .dat (.lst L), .dat (.lst L), s9]) (mPar_eq (mCons_eq (call2 (mVar_eq rfl) (mVar_eq rfl) q1) (mCons_eq (call2 (mVar_eq rfl) (mVar_eq rfl) q2) (mNil_eq _)))) ?_
  refine S_cut (fun ρ => ∃ s4 s9, ρ = [.dat (.scr ns), .own p2, .dat (.lst U), s3, s4, .dat a, .dat b, .dat (.lst L), .dat (.lst L), s9]) ?_ ?_
  · refine S_for (W_eq (a := (List.range 26).map fun i : Nat => Eo.D.int (i : Int)) (ρ := [.dat (.scr ns), .own p2, .dat (.lst U), s3, s4, .dat a, .dat b, .dat (.lst L), .dat (.lst L), s9]) (mRange_eq (mCons_eq (mC_eq _ _) (mNil_eq _)) r26) ?_)
    refine F_inv (fun k ρ => ∃ s4 s9, ρ = [.dat (.scr ns), .own p2, .dat (.lst U), s3, s4, .dat a, .dat b, .dat (.lst L), .dat (.lst L), s9]) _ 0 _ ⟨_, _, rfl⟩ ?_ (fun ρ h => h)
    rintro i d ρ hd ⟨t4, t9, rfl⟩
    rw [← rangeN] at hd
    obtain ⟨hi, rfl⟩ := range_mem hd
    refine ⟨_, rfl, ?_⟩
    refine W_nx (ρ' := [.dat (.scr ns), .own p2, .dat (.lst U), s3, .dat (.int (i : Int)), .dat a, .dat b, .dat (.lst L), .dat (.lst L), .emp]) ?_ ⟨_, _, rfl⟩
    rw [Int.zero_add]
    exact hc i hi t9
  rintro ρ ⟨t4, t9, rfl⟩
  obtain ⟨z, hz⟩ := rep_fields ha
  obtain ⟨y, hy⟩ := rep_words hb
  refine S_nx (ρ' := [.dat (.scr ns), .own p2, .dat (.lst U), s3, t4, .dat a, .dat b, .dat (.lst L), .dat (.lst L), t9]) (if_ff (mTB_eq (b := false) (mOp_eq (mCB_eq (mCons_eq (mLst_eq (mCons_eq (call1 (mVar_eq rfl) q3) (mCons_eq (call1 (mVar_eq rfl) q3) (mNil_eq _))) (by simp; decide)) (mNil_eq _)) hz)
    (mCB_eq (mCons_eq (mOp_eq (mLst_eq (mCons_eq (mOp_eq (mLst_eq (mCons_eq (mVar_eq rfl) (mNil_eq _)) (by simp; decide)) (mC_eq _ _) (pur_eq (mul26 a))) (mNil_eq _)) (by simp; decide)) (mC_eq _ _) (pur_eq (mul2 _))) (mNil_eq _)) hz) (pur_eq (ne_ss z))))) ?_
  refine W_nx (ρ' := [.dat (.scr ns), .own p2, .dat (.lst U), s3, t4, .dat a, .dat b, .dat (.lst L), .dat (.lst L), t9]) (if_ff (mTB_eq (b := false) (mOp_eq (mCB_eq (mCons_eq (mLst_eq (mCons_eq (mUn_eq (mOp_eq (mVar_eq rfl) (mC_eq _ _) (pur_eq (dIx_nat (k := 12) hx))) hw) (mCons_eq (mUn_eq (mOp_eq (mVar_eq rfl) (mC_eq _ _) (pur_eq (dIx_nat (k := 12) hx))) hw) (mNil_eq _))) (by simp; decide)) (mNil_eq _)) hy)
    (mCB_eq (mCons_eq (mLst_eq (mCons_eq (mVar_eq rfl) (mCons_eq (mVar_eq rfl) (mNil_eq _))) (by simp; decide)) (mNil_eq _)) hy) (pur_eq (ne_ss y))))) ⟨p2, _, _, _, _, _, _, _, rfl, hp2⟩
noncomputable def due1 : List Eo.D := dueL.take 21
noncomputable def DA08 : MS := (mAsg (mOp (pur dAdd) (mOp (pur dAdd) (mOp (pur dMulA) (mLst (mCons (mLst (mCons (mC (.int 1)) (mCons (mC (.int 1)) (mCons (mC (.int 0)) (mCons (mC (.int 0)) (mCons (mC (.int 0)) (mCons (mC (.int 0)) (mCons (mC (.int 0)) mNil)))))))) mNil)) (mC (.int 18))) (mLst (mCons (mLst (mCons (mC (.int 0)) (mCons (mC (.int 0)) (mCons (mC (.int 1)) (mCons (mC (.int 0)) (mCons (mC (.int 1)) (mCons (mC (.int 0)) (mCons (mC (.int 0)) mNil)))))))) mNil))) (mOp (pur dMulA) (mLst (mCons (mLst (mCons (mC (.int 0)) (mCons (mC (.int 0)) (mCons (mC (.int 0)) (mCons (mC (.int 1)) (mCons (mC (.int 1)) (mCons (mC (.int 0)) (mCons (mC (.int 0)) mNil)))))))) mNil)) (mC (.int 2)))) (gSet 2))
noncomputable def DB08 : MS := (mAsg (mOp (pur dAdd) (mOp (pur dAdd) (mVar 2) (mOp (pur dMulA) (mLst (mCons (mLst (mCons (mC (.int 0)) (mCons (mC (.int 0)) (mCons (mC (.int 0)) (mCons (mC (.int 0)) (mCons (mC (.int 1)) (mCons (mC (.int 0)) (mCons (mC (.int 0)) mNil)))))))) mNil)) (mC (.int 3)))) (mLst (mCons (mLst (mCons (mC (.int 0)) (mCons (mC (.int 0)) (mCons (mC (.int 0)) (mCons (mC (.int 0)) (mCons (mC (.int 0)) (mCons (mC (.int 1)) (mCons (mC (.int 0)) mNil)))))))) (mCons (mLst (mCons (mC (.int 0)) (mCons (mC (.int 0)) (mCons (mC (.int 0)) (mCons (mC (.int 0)) (mCons (mC (.int 0)) (mCons (mC (.int 0)) (mCons (mC (.int 1)) mNil)))))))) mNil)))) (gSet 2))
theorem da_eq (x y : Sl) (r : Eo.Env) : DA08 (x :: y :: .emp :: r) = .nx (x :: y :: .dat (.lst due1) :: r) := by kernel_rfl
theorem db_eq (x y : Sl) (r : Eo.Env) : DB08 (x :: y :: .dat (.lst due1) :: r) = .nx (x :: y :: .dat (.lst dueL) :: r) := by kernel_rfl
theorem law_true (ns : List Int) : f_law [.scr ns] = some (.dat (.bl true)) := by
  refine fnP_eq (N := N_law) (n := 1) (m := m_law) (ds := [.scr ns]) rfl ?_
  show (m_law [.dat (.scr ns), .emp, .emp, .emp, .emp, .emp, .emp, .emp, .emp, .emp]).W _ _ _ _ _
  unfold m_law
  obtain ⟨p0, e0, hp0⟩ := pen_made ns
  refine S_nx (ρ' := [.dat (.scr ns), .own p0, .emp, .emp, .emp, .emp, .emp, .emp, .emp, .emp]) (by simp only [mSeq, mIf, mAsg, mRet, mRetN, mOp, pur, mVar, mC, mCons, mNil, mCB, mUn, mTB, mTru, mNot, mOr, mAnd, mAndV, mOrV, mNotV, mTup, mLst, mChain, mCallP, mFor, mItems, mRange, mIfE, mNext, mMeth, mCM, mFz, mYes, mSl, mPart, mDGet2, R.bind, R.then, O.seq, lift, gSet, gTupD, gConsD, gNilD, optO, O.val, O.valI, List.getElem?_cons_zero, List.getElem?_cons_succ, List.set_cons_zero, List.set_cons_succ, List.length_cons, List.length_nil, zl0, zl1, zl2, zl3, zl4, zl5, zl6, zl7, zl8, decide_true, decide_false, zk0, zk1, zk2, zk3, zk4, zk5, zk6, zk7, zk8, dTru, Bool.not_true, Bool.not_false, eq_self, Bool.false_eq_true, reduceCtorEq, if_true, if_false, mPV, mPIx, mPIxC, mPIxV, mLeaf, mFlat, OT.flat, subE, Sl.tree, OT.sub, OT.kid, OT.setKid, mLk, lockE, backE, R.mapE, keyD, mutE, Sl.mut, putE, Sl.putT, OT.put, mDPutP, mPutP, mAppP, mPopP, mSetFP, mSetW, mRetW, mWLst, mWCons, mWNil, mLf, mCallPW, mFrz, frz, mTakeP, mAppL, e0]) ?_
  refine S_nx (ρ' := [.dat (.scr ns), .own p0, .dat (.lst due1), .emp, .emp, .emp, .emp, .emp, .emp, .emp]) (da_eq _ _ _) ?_
  refine S_nx (ρ' := [.dat (.scr ns), .own p0, .dat (.lst dueL), .emp, .emp, .emp, .emp, .emp, .emp, .emp]) (db_eq _ _ _) ?_
  refine S_cut (fun _ => True) ?_ ?_
  · refine S_for (W_eq (a := rangeD 0 4) (ρ := [.dat (.scr ns), .own p0, .dat (.lst dueL), .emp, .emp, .emp, .emp, .emp, .emp, .emp]) (mRange_eq (mCons_eq (mC_eq _ _) (mNil_eq _)) (range1 (n := 4) (by decide))) ?_)
    refine F_inv (fun k ρ => St (2 * k) ns ρ) _ 0 _ ⟨p0, _, _, _, _, _, _, _, rfl, hp0⟩ ?_ (fun _ _ => trivial)
    rintro i x ρ hx ⟨p, s3, s4, s5, s6, s7, s8, s9, rfl, hp⟩
    obtain ⟨hi, rfl⟩ := range_mem hx
    refine ⟨_, rfl, ?_⟩
    refine O.W.mono (turn08 hp (by omega) _ _ _ _ _ _ _) (fun ρ h => ?_) (fun _ h => h.elim) (fun _ h => h.elim) (fun _ _ h => h.elim) (fun _ _ _ h => h)
    obtain ⟨p', u3, u4, u5, u6, u7, u8, u9, rfl, hp'⟩ := h
    exact ⟨p', _, _, _, _, _, _, _, rfl, hp'.le (by omega)⟩
  rintro ρ -
  exact W_rt (d := .bl true) (ρ' := ρ) rfl rfl
end W08
namespace W08
open PySem L2 Eo
theorem txt_mk {K : PySem.W.Frag} {h : Heap} {mg : Str → Option Value} (X : K.In h) (G : h.Ns mainGlobals mg)
    {f1 : Addr} {oc1 kV1 dc1 pm1 cd1 ct1 : Value} {od1 an1 : Option Addr} {sl1 : Array (Option Value)} (a1 : PySem.W.nsIn K mainGlobals "_law_pen" = some (some (.ref f1))) (l1 : K.lookup f1 = some ⟨oc1, od1, .func (PySem.W.fnOf "_law_pen" "_law_pen" (defArgs s_law_pen) (defBody s_law_pen) (defScope s_law_pen) .none kV1 dc1 pm1 an1 cd1 ct1), sl1⟩) (c1 : PySem.W.codeIn K cd1 "_law_pen" = true) (k1 : PySem.W.keepIn K (.ref f1) = true)
    {f2 : Addr} {oc2 kV2 dc2 pm2 cd2 ct2 : Value} {od2 an2 : Option Addr} {sl2 : Array (Option Value)} (a2 : PySem.W.nsIn K mainGlobals "_law_draw" = some (some (.ref f2))) (l2 : K.lookup f2 = some ⟨oc2, od2, .func (PySem.W.fnOf "_law_draw" "_law_draw" (defArgs s_law_draw) (defBody s_law_draw) (defScope s_law_draw) .none kV2 dc2 pm2 an2 cd2 ct2), sl2⟩) (c2 : PySem.W.codeIn K cd2 "_law_draw" = true) (k2 : PySem.W.keepIn K (.ref f2) = true)
    {f3 : Addr} {oc3 kV3 dc3 pm3 cd3 ct3 : Value} {od3 an3 : Option Addr} {sl3 : Array (Option Value)} (a3 : PySem.W.nsIn K mainGlobals "_law_odd" = some (some (.ref f3))) (l3 : K.lookup f3 = some ⟨oc3, od3, .func (PySem.W.fnOf "_law_odd" "_law_odd" (defArgs s_law_odd) (defBody s_law_odd) (defScope s_law_odd) .none kV3 dc3 pm3 an3 cd3 ct3), sl3⟩) (c3 : PySem.W.codeIn K cd3 "_law_odd" = true) (k3 : PySem.W.keepIn K (.ref f3) = true)
    {f4 : Addr} {oc4 kV4 dc4 pm4 cd4 ct4 : Value} {od4 an4 : Option Addr} {sl4 : Array (Option Value)} (a4 : PySem.W.nsIn K mainGlobals "_law_errors" = some (some (.ref f4))) (l4 : K.lookup f4 = some ⟨oc4, od4, .func (PySem.W.fnOf "_law_errors" "_law_errors" (defArgs s_law_errors) (defBody s_law_errors) (defScope s_law_errors) .none kV4 dc4 pm4 an4 cd4 ct4), sl4⟩) (c4 : PySem.W.codeIn K cd4 "_law_errors" = true) (k4 : PySem.W.keepIn K (.ref f4) = true)
    {f5 : Addr} {oc5 kV5 dc5 pm5 cd5 ct5 : Value} {od5 an5 : Option Addr} {sl5 : Array (Option Value)} (a5 : PySem.W.nsIn K mainGlobals "_law_named" = some (some (.ref f5))) (l5 : K.lookup f5 = some ⟨oc5, od5, .func (PySem.W.fnOf "_law_named" "_law_named" (defArgs s_law_named) (defBody s_law_named) (defScope s_law_named) .none kV5 dc5 pm5 an5 cd5 ct5), sl5⟩) (c5 : PySem.W.codeIn K cd5 "_law_named" = true) (k5 : PySem.W.keepIn K (.ref f5) = true)
    {f6 : Addr} {oc6 kV6 dc6 pm6 cd6 ct6 : Value} {od6 an6 : Option Addr} {sl6 : Array (Option Value)} (a6 : PySem.W.nsIn K mainGlobals "_law_classes" = some (some (.ref f6))) (l6 : K.lookup f6 = some ⟨oc6, od6, .func (PySem.W.fnOf "_law_classes" "_law_classes" (defArgs s_law_classes) (defBody s_law_classes) (defScope s_law_classes) .none kV6 dc6 pm6 an6 cd6 ct6), sl6⟩) (c6 : PySem.W.codeIn K cd6 "_law_classes" = true) (k6 : PySem.W.keepIn K (.ref f6) = true)
    {f7 : Addr} {oc7 kV7 dc7 pm7 cd7 ct7 : Value} {od7 an7 : Option Addr} {sl7 : Array (Option Value)} (a7 : PySem.W.nsIn K mainGlobals "_law_bases" = some (some (.ref f7))) (l7 : K.lookup f7 = some ⟨oc7, od7, .func (PySem.W.fnOf "_law_bases" "_law_bases" (defArgs s_law_bases) (defBody s_law_bases) (defScope s_law_bases) .none kV7 dc7 pm7 an7 cd7 ct7), sl7⟩) (c7 : PySem.W.codeIn K cd7 "_law_bases" = true) (k7 : PySem.W.keepIn K (.ref f7) = true)
    {f8 : Addr} {oc8 kV8 dc8 pm8 cd8 ct8 : Value} {od8 an8 : Option Addr} {sl8 : Array (Option Value)} (a8 : PySem.W.nsIn K mainGlobals "_law_fields" = some (some (.ref f8))) (l8 : K.lookup f8 = some ⟨oc8, od8, .func (PySem.W.fnOf "_law_fields" "_law_fields" (defArgs s_law_fields) (defBody s_law_fields) (defScope s_law_fields) .none kV8 dc8 pm8 an8 cd8 ct8), sl8⟩) (c8 : PySem.W.codeIn K cd8 "_law_fields" = true) (k8 : PySem.W.keepIn K (.ref f8) = true)
    {f9 : Addr} {oc9 kV9 dc9 pm9 cd9 ct9 : Value} {od9 an9 : Option Addr} {sl9 : Array (Option Value)} (a9 : PySem.W.nsIn K mainGlobals "law" = some (some (.ref f9))) (l9 : K.lookup f9 = some ⟨oc9, od9, .func (PySem.W.fnOf "law" "law" (defArgs s_law) (defBody s_law) (defScope s_law) .none kV9 dc9 pm9 an9 cd9 ct9), sl9⟩) (c9 : PySem.W.codeIn K cd9 "law" = true) (k9 : PySem.W.keepIn K (.ref f9) = true)
    {f10 : Addr} {oc10 kV10 dc10 pm10 cd10 ct10 : Value} {od10 an10 : Option Addr} {sl10 : Array (Option Value)} {C10 : Addr} (a10 : PySem.W.nsIn K mainGlobals "CannotGo" = some (some (.ref C10))) (r10 : exTB K C10 [.type "RuntimeError", .type "Exception", .type "BaseException", .type "object"] "RuntimeError.__new__" = true) (s10 : PySem.W.findIn K (.ref C10) "__setattr__" = some (some (.builtin "object.__setattr__"))) (x10 : PySem.W.subIn K (.ref C10) (.type "BaseException") = some true) (y10 : PySem.W.typeIn K (.ref C10) = some (.type "type")) (z10 : PySem.W.keepIn K (.ref C10) = true) (b10 : PySem.W.findIn K (.ref C10) "__init__" = some (some (.ref f10))) (t10 : PySem.W.typeIn K (.ref f10) = some (.type "function")) (l10 : K.lookup f10 = some ⟨oc10, od10, .func (PySem.W.fnOf "__init__" "CannotGo.__init__" (defArgs s_CannotGo) (defBody s_CannotGo) (defScope s_CannotGo) .none kV10 dc10 pm10 an10 cd10 ct10), sl10⟩) (c10 : PySem.W.codeIn K cd10 "CannotGo.__init__" = true) (k10 : PySem.W.keepIn K (.ref f10) = true)
    {C11 : Addr} (a11 : PySem.W.nsIn K mainGlobals "CannotGo" = some (some (.ref C11))) (b11 : PySem.W.findIn K (.ref C11) "who" = some none)
    {f12 : Addr} {oc12 kV12 dc12 pm12 cd12 ct12 : Value} {od12 an12 : Option Addr} {sl12 : Array (Option Value)} {C12 : Addr} (a12 : PySem.W.nsIn K mainGlobals "InvalidDuo" = some (some (.ref C12))) (r12 : exTB K C12 [.type "ValueError", .type "Exception", .type "BaseException", .type "object"] "ValueError.__new__" = true) (s12 : PySem.W.findIn K (.ref C12) "__setattr__" = some (some (.builtin "object.__setattr__"))) (x12 : PySem.W.subIn K (.ref C12) (.type "BaseException") = some true) (y12 : PySem.W.typeIn K (.ref C12) = some (.type "type")) (z12 : PySem.W.keepIn K (.ref C12) = true) (b12 : PySem.W.findIn K (.ref C12) "__init__" = some (some (.ref f12))) (t12 : PySem.W.typeIn K (.ref f12) = some (.type "function")) (l12 : K.lookup f12 = some ⟨oc12, od12, .func (PySem.W.fnOf "__init__" "InvalidDuo.__init__" (defArgs s_InvalidDuo) (defBody s_InvalidDuo) (defScope s_InvalidDuo) .none kV12 dc12 pm12 an12 cd12 ct12), sl12⟩) (c12 : PySem.W.codeIn K cd12 "InvalidDuo.__init__" = true) (k12 : PySem.W.keepIn K (.ref f12) = true)
    {C13 : Addr} (a13 : PySem.W.nsIn K mainGlobals "InvalidDuo" = some (some (.ref C13))) (b13 : PySem.W.findIn K (.ref C13) "pipe" = some none)
    {f14 : Addr} {oc14 kV14 dc14 pm14 cd14 ct14 : Value} {od14 an14 : Option Addr} {sl14 : Array (Option Value)} {C14 : Addr} (a14 : PySem.W.nsIn K mainGlobals "InvalidDurations" = some (some (.ref C14))) (r14 : exTB K C14 [.type "ValueError", .type "Exception", .type "BaseException", .type "object"] "ValueError.__new__" = true) (s14 : PySem.W.findIn K (.ref C14) "__setattr__" = some (some (.builtin "object.__setattr__"))) (x14 : PySem.W.subIn K (.ref C14) (.type "BaseException") = some true) (y14 : PySem.W.typeIn K (.ref C14) = some (.type "type")) (z14 : PySem.W.keepIn K (.ref C14) = true) (b14 : PySem.W.findIn K (.ref C14) "__init__" = some (some (.ref f14))) (t14 : PySem.W.typeIn K (.ref f14) = some (.type "function")) (l14 : K.lookup f14 = some ⟨oc14, od14, .func (PySem.W.fnOf "__init__" "InvalidDurations.__init__" (defArgs s_InvalidDurations) (defBody s_InvalidDurations) (defScope s_InvalidDurations) .none kV14 dc14 pm14 an14 cd14 ct14), sl14⟩) (c14 : PySem.W.codeIn K cd14 "InvalidDurations.__init__" = true) (k14 : PySem.W.keepIn K (.ref f14) = true)
    {C15 : Addr} (a15 : PySem.W.nsIn K mainGlobals "InvalidDurations" = some (some (.ref C15))) (b15 : PySem.W.findIn K (.ref C15) "letter" = some none)
    {f16 : Addr} {oc16 kV16 dc16 pm16 cd16 ct16 : Value} {od16 an16 : Option Addr} {sl16 : Array (Option Value)} {C16 : Addr} (a16 : PySem.W.nsIn K mainGlobals "InvalidEdit" = some (some (.ref C16))) (r16 : exTB K C16 [.type "ValueError", .type "Exception", .type "BaseException", .type "object"] "ValueError.__new__" = true) (s16 : PySem.W.findIn K (.ref C16) "__setattr__" = some (some (.builtin "object.__setattr__"))) (x16 : PySem.W.subIn K (.ref C16) (.type "BaseException") = some true) (y16 : PySem.W.typeIn K (.ref C16) = some (.type "type")) (z16 : PySem.W.keepIn K (.ref C16) = true) (b16 : PySem.W.findIn K (.ref C16) "__init__" = some (some (.ref f16))) (t16 : PySem.W.typeIn K (.ref f16) = some (.type "function")) (l16 : K.lookup f16 = some ⟨oc16, od16, .func (PySem.W.fnOf "__init__" "InvalidEdit.__init__" (defArgs s_InvalidEdit) (defBody s_InvalidEdit) (defScope s_InvalidEdit) .none kV16 dc16 pm16 an16 cd16 ct16), sl16⟩) (c16 : PySem.W.codeIn K cd16 "InvalidEdit.__init__" = true) (k16 : PySem.W.keepIn K (.ref f16) = true)
    {C17 : Addr} (a17 : PySem.W.nsIn K mainGlobals "InvalidEdit" = some (some (.ref C17))) (b17 : PySem.W.findIn K (.ref C17) "index" = some none)
    {f18 : Addr} {oc18 kV18 dc18 pm18 cd18 ct18 : Value} {od18 an18 : Option Addr} {sl18 : Array (Option Value)} {C18 : Addr} (a18 : PySem.W.nsIn K mainGlobals "InvalidGuide" = some (some (.ref C18))) (r18 : exTB K C18 [.type "ValueError", .type "Exception", .type "BaseException", .type "object"] "ValueError.__new__" = true) (s18 : PySem.W.findIn K (.ref C18) "__setattr__" = some (some (.builtin "object.__setattr__"))) (x18 : PySem.W.subIn K (.ref C18) (.type "BaseException") = some true) (y18 : PySem.W.typeIn K (.ref C18) = some (.type "type")) (z18 : PySem.W.keepIn K (.ref C18) = true) (b18 : PySem.W.findIn K (.ref C18) "__init__" = some (some (.ref f18))) (t18 : PySem.W.typeIn K (.ref f18) = some (.type "function")) (l18 : K.lookup f18 = some ⟨oc18, od18, .func (PySem.W.fnOf "__init__" "InvalidGuide.__init__" (defArgs s_InvalidGuide) (defBody s_InvalidGuide) (defScope s_InvalidGuide) .none kV18 dc18 pm18 an18 cd18 ct18), sl18⟩) (c18 : PySem.W.codeIn K cd18 "InvalidGuide.__init__" = true) (k18 : PySem.W.keepIn K (.ref f18) = true)
    {C19 : Addr} (a19 : PySem.W.nsIn K mainGlobals "InvalidGuide" = some (some (.ref C19))) (b19 : PySem.W.findIn K (.ref C19) "pair" = some none)
    {f20 : Addr} {oc20 kV20 dc20 pm20 cd20 ct20 : Value} {od20 an20 : Option Addr} {sl20 : Array (Option Value)} {C20 : Addr} (a20 : PySem.W.nsIn K mainGlobals "InvalidLetter" = some (some (.ref C20))) (r20 : exTB K C20 [.type "ValueError", .type "Exception", .type "BaseException", .type "object"] "ValueError.__new__" = true) (s20 : PySem.W.findIn K (.ref C20) "__setattr__" = some (some (.builtin "object.__setattr__"))) (x20 : PySem.W.subIn K (.ref C20) (.type "BaseException") = some true) (y20 : PySem.W.typeIn K (.ref C20) = some (.type "type")) (z20 : PySem.W.keepIn K (.ref C20) = true) (b20 : PySem.W.findIn K (.ref C20) "__init__" = some (some (.ref f20))) (t20 : PySem.W.typeIn K (.ref f20) = some (.type "function")) (l20 : K.lookup f20 = some ⟨oc20, od20, .func (PySem.W.fnOf "__init__" "InvalidLetter.__init__" (defArgs s_InvalidLetter) (defBody s_InvalidLetter) (defScope s_InvalidLetter) .none kV20 dc20 pm20 an20 cd20 ct20), sl20⟩) (c20 : PySem.W.codeIn K cd20 "InvalidLetter.__init__" = true) (k20 : PySem.W.keepIn K (.ref f20) = true)
    {C21 : Addr} (a21 : PySem.W.nsIn K mainGlobals "InvalidLetter" = some (some (.ref C21))) (b21 : PySem.W.findIn K (.ref C21) "letter" = some none)
    {f22 : Addr} {oc22 kV22 dc22 pm22 cd22 ct22 : Value} {od22 an22 : Option Addr} {sl22 : Array (Option Value)} {C22 : Addr} (a22 : PySem.W.nsIn K mainGlobals "InvalidLimit" = some (some (.ref C22))) (r22 : exTB K C22 [.type "ValueError", .type "Exception", .type "BaseException", .type "object"] "ValueError.__new__" = true) (s22 : PySem.W.findIn K (.ref C22) "__setattr__" = some (some (.builtin "object.__setattr__"))) (x22 : PySem.W.subIn K (.ref C22) (.type "BaseException") = some true) (y22 : PySem.W.typeIn K (.ref C22) = some (.type "type")) (z22 : PySem.W.keepIn K (.ref C22) = true) (b22 : PySem.W.findIn K (.ref C22) "__init__" = some (some (.ref f22))) (t22 : PySem.W.typeIn K (.ref f22) = some (.type "function")) (l22 : K.lookup f22 = some ⟨oc22, od22, .func (PySem.W.fnOf "__init__" "InvalidLimit.__init__" (defArgs s_InvalidLimit) (defBody s_InvalidLimit) (defScope s_InvalidLimit) .none kV22 dc22 pm22 an22 cd22 ct22), sl22⟩) (c22 : PySem.W.codeIn K cd22 "InvalidLimit.__init__" = true) (k22 : PySem.W.keepIn K (.ref f22) = true)
    {C23 : Addr} (a23 : PySem.W.nsIn K mainGlobals "InvalidLimit" = some (some (.ref C23))) (b23 : PySem.W.findIn K (.ref C23) "number" = some none)
    {f24 : Addr} {oc24 kV24 dc24 pm24 cd24 ct24 : Value} {od24 an24 : Option Addr} {sl24 : Array (Option Value)} {C24 : Addr} (a24 : PySem.W.nsIn K mainGlobals "InvalidProgram" = some (some (.ref C24))) (r24 : exTB K C24 [.type "ValueError", .type "Exception", .type "BaseException", .type "object"] "ValueError.__new__" = true) (s24 : PySem.W.findIn K (.ref C24) "__setattr__" = some (some (.builtin "object.__setattr__"))) (x24 : PySem.W.subIn K (.ref C24) (.type "BaseException") = some true) (y24 : PySem.W.typeIn K (.ref C24) = some (.type "type")) (z24 : PySem.W.keepIn K (.ref C24) = true) (b24 : PySem.W.findIn K (.ref C24) "__init__" = some (some (.ref f24))) (t24 : PySem.W.typeIn K (.ref f24) = some (.type "function")) (l24 : K.lookup f24 = some ⟨oc24, od24, .func (PySem.W.fnOf "__init__" "InvalidProgram.__init__" (defArgs s_InvalidProgram) (defBody s_InvalidProgram) (defScope s_InvalidProgram) .none kV24 dc24 pm24 an24 cd24 ct24), sl24⟩) (c24 : PySem.W.codeIn K cd24 "InvalidProgram.__init__" = true) (k24 : PySem.W.keepIn K (.ref f24) = true)
    {C25 : Addr} (a25 : PySem.W.nsIn K mainGlobals "InvalidProgram" = some (some (.ref C25))) (b25 : PySem.W.findIn K (.ref C25) "index" = some none)
    {f26 : Addr} {oc26 kV26 dc26 pm26 cd26 ct26 : Value} {od26 an26 : Option Addr} {sl26 : Array (Option Value)} {C26 : Addr} (a26 : PySem.W.nsIn K mainGlobals "InvalidRounds" = some (some (.ref C26))) (r26 : exTB K C26 [.type "ValueError", .type "Exception", .type "BaseException", .type "object"] "ValueError.__new__" = true) (s26 : PySem.W.findIn K (.ref C26) "__setattr__" = some (some (.builtin "object.__setattr__"))) (x26 : PySem.W.subIn K (.ref C26) (.type "BaseException") = some true) (y26 : PySem.W.typeIn K (.ref C26) = some (.type "type")) (z26 : PySem.W.keepIn K (.ref C26) = true) (b26 : PySem.W.findIn K (.ref C26) "__init__" = some (some (.ref f26))) (t26 : PySem.W.typeIn K (.ref f26) = some (.type "function")) (l26 : K.lookup f26 = some ⟨oc26, od26, .func (PySem.W.fnOf "__init__" "InvalidRounds.__init__" (defArgs s_InvalidRounds) (defBody s_InvalidRounds) (defScope s_InvalidRounds) .none kV26 dc26 pm26 an26 cd26 ct26), sl26⟩) (c26 : PySem.W.codeIn K cd26 "InvalidRounds.__init__" = true) (k26 : PySem.W.keepIn K (.ref f26) = true)
    {C27 : Addr} (a27 : PySem.W.nsIn K mainGlobals "InvalidRounds" = some (some (.ref C27))) (b27 : PySem.W.findIn K (.ref C27) "number" = some none)
    {f28 : Addr} {oc28 kV28 dc28 pm28 cd28 ct28 : Value} {od28 an28 : Option Addr} {sl28 : Array (Option Value)} {C28 : Addr} (a28 : PySem.W.nsIn K mainGlobals "InvalidSize" = some (some (.ref C28))) (r28 : exTB K C28 [.type "ValueError", .type "Exception", .type "BaseException", .type "object"] "ValueError.__new__" = true) (s28 : PySem.W.findIn K (.ref C28) "__setattr__" = some (some (.builtin "object.__setattr__"))) (x28 : PySem.W.subIn K (.ref C28) (.type "BaseException") = some true) (y28 : PySem.W.typeIn K (.ref C28) = some (.type "type")) (z28 : PySem.W.keepIn K (.ref C28) = true) (b28 : PySem.W.findIn K (.ref C28) "__init__" = some (some (.ref f28))) (t28 : PySem.W.typeIn K (.ref f28) = some (.type "function")) (l28 : K.lookup f28 = some ⟨oc28, od28, .func (PySem.W.fnOf "__init__" "InvalidSize.__init__" (defArgs s_InvalidSize) (defBody s_InvalidSize) (defScope s_InvalidSize) .none kV28 dc28 pm28 an28 cd28 ct28), sl28⟩) (c28 : PySem.W.codeIn K cd28 "InvalidSize.__init__" = true) (k28 : PySem.W.keepIn K (.ref f28) = true)
    {C29 : Addr} (a29 : PySem.W.nsIn K mainGlobals "InvalidSize" = some (some (.ref C29))) (b29 : PySem.W.findIn K (.ref C29) "name" = some none)
    {f30 : Addr} {oc30 kV30 dc30 pm30 cd30 ct30 : Value} {od30 an30 : Option Addr} {sl30 : Array (Option Value)} {C30 : Addr} (a30 : PySem.W.nsIn K mainGlobals "InvalidTeam" = some (some (.ref C30))) (r30 : exTB K C30 [.type "ValueError", .type "Exception", .type "BaseException", .type "object"] "ValueError.__new__" = true) (s30 : PySem.W.findIn K (.ref C30) "__setattr__" = some (some (.builtin "object.__setattr__"))) (x30 : PySem.W.subIn K (.ref C30) (.type "BaseException") = some true) (y30 : PySem.W.typeIn K (.ref C30) = some (.type "type")) (z30 : PySem.W.keepIn K (.ref C30) = true) (b30 : PySem.W.findIn K (.ref C30) "__init__" = some (some (.ref f30))) (t30 : PySem.W.typeIn K (.ref f30) = some (.type "function")) (l30 : K.lookup f30 = some ⟨oc30, od30, .func (PySem.W.fnOf "__init__" "InvalidTeam.__init__" (defArgs s_InvalidTeam) (defBody s_InvalidTeam) (defScope s_InvalidTeam) .none kV30 dc30 pm30 an30 cd30 ct30), sl30⟩) (c30 : PySem.W.codeIn K cd30 "InvalidTeam.__init__" = true) (k30 : PySem.W.keepIn K (.ref f30) = true)
    {C31 : Addr} (a31 : PySem.W.nsIn K mainGlobals "InvalidTeam" = some (some (.ref C31))) (b31 : PySem.W.findIn K (.ref C31) "pipe" = some none)
    {f32 : Addr} {oc32 kV32 dc32 pm32 cd32 ct32 : Value} {od32 an32 : Option Addr} {sl32 : Array (Option Value)} {C32 : Addr} (a32 : PySem.W.nsIn K mainGlobals "InvalidTerms" = some (some (.ref C32))) (r32 : exTB K C32 [.type "ValueError", .type "Exception", .type "BaseException", .type "object"] "ValueError.__new__" = true) (s32 : PySem.W.findIn K (.ref C32) "__setattr__" = some (some (.builtin "object.__setattr__"))) (x32 : PySem.W.subIn K (.ref C32) (.type "BaseException") = some true) (y32 : PySem.W.typeIn K (.ref C32) = some (.type "type")) (z32 : PySem.W.keepIn K (.ref C32) = true) (b32 : PySem.W.findIn K (.ref C32) "__init__" = some (some (.ref f32))) (t32 : PySem.W.typeIn K (.ref f32) = some (.type "function")) (l32 : K.lookup f32 = some ⟨oc32, od32, .func (PySem.W.fnOf "__init__" "InvalidTerms.__init__" (defArgs s_InvalidTerms) (defBody s_InvalidTerms) (defScope s_InvalidTerms) .none kV32 dc32 pm32 an32 cd32 ct32), sl32⟩) (c32 : PySem.W.codeIn K cd32 "InvalidTerms.__init__" = true) (k32 : PySem.W.keepIn K (.ref f32) = true)
    {C33 : Addr} (a33 : PySem.W.nsIn K mainGlobals "InvalidTerms" = some (some (.ref C33))) (b33 : PySem.W.findIn K (.ref C33) "name" = some none)
    {f34 : Addr} {oc34 kV34 dc34 pm34 cd34 ct34 : Value} {od34 an34 : Option Addr} {sl34 : Array (Option Value)} {C34 : Addr} (a34 : PySem.W.nsIn K mainGlobals "InvalidText" = some (some (.ref C34))) (r34 : exTB K C34 [.type "ValueError", .type "Exception", .type "BaseException", .type "object"] "ValueError.__new__" = true) (s34 : PySem.W.findIn K (.ref C34) "__setattr__" = some (some (.builtin "object.__setattr__"))) (x34 : PySem.W.subIn K (.ref C34) (.type "BaseException") = some true) (y34 : PySem.W.typeIn K (.ref C34) = some (.type "type")) (z34 : PySem.W.keepIn K (.ref C34) = true) (b34 : PySem.W.findIn K (.ref C34) "__init__" = some (some (.ref f34))) (t34 : PySem.W.typeIn K (.ref f34) = some (.type "function")) (l34 : K.lookup f34 = some ⟨oc34, od34, .func (PySem.W.fnOf "__init__" "InvalidText.__init__" (defArgs s_InvalidText) (defBody s_InvalidText) (defScope s_InvalidText) .none kV34 dc34 pm34 an34 cd34 ct34), sl34⟩) (c34 : PySem.W.codeIn K cd34 "InvalidText.__init__" = true) (k34 : PySem.W.keepIn K (.ref f34) = true)
    {C35 : Addr} (a35 : PySem.W.nsIn K mainGlobals "InvalidText" = some (some (.ref C35))) (b35 : PySem.W.findIn K (.ref C35) "line" = some none)
    {C36 : Addr} (a36 : PySem.W.nsIn K mainGlobals "InvalidText" = some (some (.ref C36))) (b36 : PySem.W.findIn K (.ref C36) "word" = some none)
    {f37 : Addr} {oc37 kV37 dc37 pm37 cd37 ct37 : Value} {od37 an37 : Option Addr} {sl37 : Array (Option Value)} {C37 : Addr} (a37 : PySem.W.nsIn K mainGlobals "InvalidTurn" = some (some (.ref C37))) (r37 : exTB K C37 [.type "ValueError", .type "Exception", .type "BaseException", .type "object"] "ValueError.__new__" = true) (s37 : PySem.W.findIn K (.ref C37) "__setattr__" = some (some (.builtin "object.__setattr__"))) (x37 : PySem.W.subIn K (.ref C37) (.type "BaseException") = some true) (y37 : PySem.W.typeIn K (.ref C37) = some (.type "type")) (z37 : PySem.W.keepIn K (.ref C37) = true) (b37 : PySem.W.findIn K (.ref C37) "__init__" = some (some (.ref f37))) (t37 : PySem.W.typeIn K (.ref f37) = some (.type "function")) (l37 : K.lookup f37 = some ⟨oc37, od37, .func (PySem.W.fnOf "__init__" "InvalidTurn.__init__" (defArgs s_InvalidTurn) (defBody s_InvalidTurn) (defScope s_InvalidTurn) .none kV37 dc37 pm37 an37 cd37 ct37), sl37⟩) (c37 : PySem.W.codeIn K cd37 "InvalidTurn.__init__" = true) (k37 : PySem.W.keepIn K (.ref f37) = true)
    {C38 : Addr} (a38 : PySem.W.nsIn K mainGlobals "InvalidTurn" = some (some (.ref C38))) (b38 : PySem.W.findIn K (.ref C38) "index" = some none)
    {f39 : Addr} {oc39 kV39 dc39 pm39 cd39 ct39 : Value} {od39 an39 : Option Addr} {sl39 : Array (Option Value)} {C39 : Addr} (a39 : PySem.W.nsIn K mainGlobals "NoMark" = some (some (.ref C39))) (r39 : exTB K C39 [.type "LookupError", .type "Exception", .type "BaseException", .type "object"] "LookupError.__new__" = true) (s39 : PySem.W.findIn K (.ref C39) "__setattr__" = some (some (.builtin "object.__setattr__"))) (x39 : PySem.W.subIn K (.ref C39) (.type "BaseException") = some true) (y39 : PySem.W.typeIn K (.ref C39) = some (.type "type")) (z39 : PySem.W.keepIn K (.ref C39) = true) (b39 : PySem.W.findIn K (.ref C39) "__init__" = some (some (.ref f39))) (t39 : PySem.W.typeIn K (.ref f39) = some (.type "function")) (l39 : K.lookup f39 = some ⟨oc39, od39, .func (PySem.W.fnOf "__init__" "NoMark.__init__" (defArgs s_NoMark) (defBody s_NoMark) (defScope s_NoMark) .none kV39 dc39 pm39 an39 cd39 ct39), sl39⟩) (c39 : PySem.W.codeIn K cd39 "NoMark.__init__" = true) (k39 : PySem.W.keepIn K (.ref f39) = true)
    {C40 : Addr} (a40 : PySem.W.nsIn K mainGlobals "NoMark" = some (some (.ref C40))) (b40 : PySem.W.findIn K (.ref C40) "name" = some none)
    {f41 : Addr} {oc41 kV41 dc41 pm41 cd41 ct41 : Value} {od41 an41 : Option Addr} {sl41 : Array (Option Value)} {C41 : Addr} (a41 : PySem.W.nsIn K mainGlobals "NoPair" = some (some (.ref C41))) (r41 : exTB K C41 [.type "IndexError", .type "LookupError", .type "Exception", .type "BaseException", .type "object"] "IndexError.__new__" = true) (s41 : PySem.W.findIn K (.ref C41) "__setattr__" = some (some (.builtin "object.__setattr__"))) (x41 : PySem.W.subIn K (.ref C41) (.type "BaseException") = some true) (y41 : PySem.W.typeIn K (.ref C41) = some (.type "type")) (z41 : PySem.W.keepIn K (.ref C41) = true) (b41 : PySem.W.findIn K (.ref C41) "__init__" = some (some (.ref f41))) (t41 : PySem.W.typeIn K (.ref f41) = some (.type "function")) (l41 : K.lookup f41 = some ⟨oc41, od41, .func (PySem.W.fnOf "__init__" "NoPair.__init__" (defArgs s_NoPair) (defBody s_NoPair) (defScope s_NoPair) .none kV41 dc41 pm41 an41 cd41 ct41), sl41⟩) (c41 : PySem.W.codeIn K cd41 "NoPair.__init__" = true) (k41 : PySem.W.keepIn K (.ref f41) = true)
    {C42 : Addr} (a42 : PySem.W.nsIn K mainGlobals "NoPair" = some (some (.ref C42))) (b42 : PySem.W.findIn K (.ref C42) "pair" = some none)
    {f43 : Addr} {oc43 kV43 dc43 pm43 cd43 ct43 : Value} {od43 an43 : Option Addr} {sl43 : Array (Option Value)} {C43 : Addr} (a43 : PySem.W.nsIn K mainGlobals "NoPipe" = some (some (.ref C43))) (r43 : exTB K C43 [.type "KeyError", .type "LookupError", .type "Exception", .type "BaseException", .type "object"] "LookupError.__new__" = true) (s43 : PySem.W.findIn K (.ref C43) "__setattr__" = some (some (.builtin "object.__setattr__"))) (x43 : PySem.W.subIn K (.ref C43) (.type "BaseException") = some true) (y43 : PySem.W.typeIn K (.ref C43) = some (.type "type")) (z43 : PySem.W.keepIn K (.ref C43) = true) (b43 : PySem.W.findIn K (.ref C43) "__init__" = some (some (.ref f43))) (t43 : PySem.W.typeIn K (.ref f43) = some (.type "function")) (l43 : K.lookup f43 = some ⟨oc43, od43, .func (PySem.W.fnOf "__init__" "NoPipe.__init__" (defArgs s_NoPipe) (defBody s_NoPipe) (defScope s_NoPipe) .none kV43 dc43 pm43 an43 cd43 ct43), sl43⟩) (c43 : PySem.W.codeIn K cd43 "NoPipe.__init__" = true) (k43 : PySem.W.keepIn K (.ref f43) = true)
    {C44 : Addr} (a44 : PySem.W.nsIn K mainGlobals "NoPipe" = some (some (.ref C44))) (b44 : PySem.W.findIn K (.ref C44) "name" = some none)
    {f45 : Addr} {oc45 kV45 dc45 pm45 cd45 ct45 : Value} {od45 an45 : Option Addr} {sl45 : Array (Option Value)} {C45 : Addr} (a45 : PySem.W.nsIn K mainGlobals "NoStep" = some (some (.ref C45))) (r45 : exTB K C45 [.type "IndexError", .type "LookupError", .type "Exception", .type "BaseException", .type "object"] "IndexError.__new__" = true) (s45 : PySem.W.findIn K (.ref C45) "__setattr__" = some (some (.builtin "object.__setattr__"))) (x45 : PySem.W.subIn K (.ref C45) (.type "BaseException") = some true) (y45 : PySem.W.typeIn K (.ref C45) = some (.type "type")) (z45 : PySem.W.keepIn K (.ref C45) = true) (b45 : PySem.W.findIn K (.ref C45) "__init__" = some (some (.ref f45))) (t45 : PySem.W.typeIn K (.ref f45) = some (.type "function")) (l45 : K.lookup f45 = some ⟨oc45, od45, .func (PySem.W.fnOf "__init__" "NoStep.__init__" (defArgs s_NoStep) (defBody s_NoStep) (defScope s_NoStep) .none kV45 dc45 pm45 an45 cd45 ct45), sl45⟩) (c45 : PySem.W.codeIn K cd45 "NoStep.__init__" = true) (k45 : PySem.W.keepIn K (.ref f45) = true)
    {C46 : Addr} (a46 : PySem.W.nsIn K mainGlobals "NoStep" = some (some (.ref C46))) (b46 : PySem.W.findIn K (.ref C46) "index" = some none)
    {f47 : Addr} {oc47 kV47 dc47 pm47 cd47 ct47 : Value} {od47 an47 : Option Addr} {sl47 : Array (Option Value)} {C47 : Addr} (a47 : PySem.W.nsIn K mainGlobals "NotStuck" = some (some (.ref C47))) (r47 : exTB K C47 [.type "ValueError", .type "Exception", .type "BaseException", .type "object"] "ValueError.__new__" = true) (s47 : PySem.W.findIn K (.ref C47) "__setattr__" = some (some (.builtin "object.__setattr__"))) (x47 : PySem.W.subIn K (.ref C47) (.type "BaseException") = some true) (y47 : PySem.W.typeIn K (.ref C47) = some (.type "type")) (z47 : PySem.W.keepIn K (.ref C47) = true) (b47 : PySem.W.findIn K (.ref C47) "__init__" = some (some (.ref f47))) (t47 : PySem.W.typeIn K (.ref f47) = some (.type "function")) (l47 : K.lookup f47 = some ⟨oc47, od47, .func (PySem.W.fnOf "__init__" "NotStuck.__init__" (defArgs s_NotStuck) (defBody s_NotStuck) (defScope s_NotStuck) .none kV47 dc47 pm47 an47 cd47 ct47), sl47⟩) (c47 : PySem.W.codeIn K cd47 "NotStuck.__init__" = true) (k47 : PySem.W.keepIn K (.ref f47) = true)
    {C48 : Addr} (a48 : PySem.W.nsIn K mainGlobals "NotStuck" = some (some (.ref C48))) (b48 : PySem.W.findIn K (.ref C48) "pair" = some none)
    {f49 : Addr} {oc49 kV49 dc49 pm49 cd49 ct49 : Value} {od49 an49 : Option Addr} {sl49 : Array (Option Value)} {C49 : Addr} (a49 : PySem.W.nsIn K mainGlobals "NothingToRedo" = some (some (.ref C49))) (r49 : exTB K C49 [.type "LookupError", .type "Exception", .type "BaseException", .type "object"] "LookupError.__new__" = true) (s49 : PySem.W.findIn K (.ref C49) "__setattr__" = some (some (.builtin "object.__setattr__"))) (x49 : PySem.W.subIn K (.ref C49) (.type "BaseException") = some true) (y49 : PySem.W.typeIn K (.ref C49) = some (.type "type")) (z49 : PySem.W.keepIn K (.ref C49) = true) (b49 : PySem.W.findIn K (.ref C49) "__init__" = some (some (.ref f49))) (t49 : PySem.W.typeIn K (.ref f49) = some (.type "function")) (l49 : K.lookup f49 = some ⟨oc49, od49, .func (PySem.W.fnOf "__init__" "NothingToRedo.__init__" (defArgs s_NothingToRedo) (defBody s_NothingToRedo) (defScope s_NothingToRedo) .none kV49 dc49 pm49 an49 cd49 ct49), sl49⟩) (c49 : PySem.W.codeIn K cd49 "NothingToRedo.__init__" = true) (k49 : PySem.W.keepIn K (.ref f49) = true)
    {C50 : Addr} (a50 : PySem.W.nsIn K mainGlobals "NothingToRedo" = some (some (.ref C50))) (b50 : PySem.W.findIn K (.ref C50) "count" = some none)
    {f51 : Addr} {oc51 kV51 dc51 pm51 cd51 ct51 : Value} {od51 an51 : Option Addr} {sl51 : Array (Option Value)} {C51 : Addr} (a51 : PySem.W.nsIn K mainGlobals "NothingToUndo" = some (some (.ref C51))) (r51 : exTB K C51 [.type "LookupError", .type "Exception", .type "BaseException", .type "object"] "LookupError.__new__" = true) (s51 : PySem.W.findIn K (.ref C51) "__setattr__" = some (some (.builtin "object.__setattr__"))) (x51 : PySem.W.subIn K (.ref C51) (.type "BaseException") = some true) (y51 : PySem.W.typeIn K (.ref C51) = some (.type "type")) (z51 : PySem.W.keepIn K (.ref C51) = true) (b51 : PySem.W.findIn K (.ref C51) "__init__" = some (some (.ref f51))) (t51 : PySem.W.typeIn K (.ref f51) = some (.type "function")) (l51 : K.lookup f51 = some ⟨oc51, od51, .func (PySem.W.fnOf "__init__" "NothingToUndo.__init__" (defArgs s_NothingToUndo) (defBody s_NothingToUndo) (defScope s_NothingToUndo) .none kV51 dc51 pm51 an51 cd51 ct51), sl51⟩) (c51 : PySem.W.codeIn K cd51 "NothingToUndo.__init__" = true) (k51 : PySem.W.keepIn K (.ref f51) = true)
    {C52 : Addr} (a52 : PySem.W.nsIn K mainGlobals "NothingToUndo" = some (some (.ref C52))) (b52 : PySem.W.findIn K (.ref C52) "count" = some none)
    {f53 : Addr} {oc53 kV53 dc53 pm53 cd53 ct53 : Value} {od53 an53 : Option Addr} {sl53 : Array (Option Value)} {C53 : Addr} (a53 : PySem.W.nsIn K mainGlobals "Ringed" = some (some (.ref C53))) (r53 : exTB K C53 [.type "ValueError", .type "Exception", .type "BaseException", .type "object"] "ValueError.__new__" = true) (s53 : PySem.W.findIn K (.ref C53) "__setattr__" = some (some (.builtin "object.__setattr__"))) (x53 : PySem.W.subIn K (.ref C53) (.type "BaseException") = some true) (y53 : PySem.W.typeIn K (.ref C53) = some (.type "type")) (z53 : PySem.W.keepIn K (.ref C53) = true) (b53 : PySem.W.findIn K (.ref C53) "__init__" = some (some (.ref f53))) (t53 : PySem.W.typeIn K (.ref f53) = some (.type "function")) (l53 : K.lookup f53 = some ⟨oc53, od53, .func (PySem.W.fnOf "__init__" "Ringed.__init__" (defArgs s_Ringed) (defBody s_Ringed) (defScope s_Ringed) .none kV53 dc53 pm53 an53 cd53 ct53), sl53⟩) (c53 : PySem.W.codeIn K cd53 "Ringed.__init__" = true) (k53 : PySem.W.keepIn K (.ref f53) = true)
    {C54 : Addr} (a54 : PySem.W.nsIn K mainGlobals "Ringed" = some (some (.ref C54))) (b54 : PySem.W.findIn K (.ref C54) "members" = some none)
    {f55 : Addr} {oc55 kV55 dc55 pm55 cd55 ct55 : Value} {od55 an55 : Option Addr} {sl55 : Array (Option Value)} {C55 : Addr} (a55 : PySem.W.nsIn K mainGlobals "SamePipe" = some (some (.ref C55))) (r55 : exTB K C55 [.type "ValueError", .type "Exception", .type "BaseException", .type "object"] "ValueError.__new__" = true) (s55 : PySem.W.findIn K (.ref C55) "__setattr__" = some (some (.builtin "object.__setattr__"))) (x55 : PySem.W.subIn K (.ref C55) (.type "BaseException") = some true) (y55 : PySem.W.typeIn K (.ref C55) = some (.type "type")) (z55 : PySem.W.keepIn K (.ref C55) = true) (b55 : PySem.W.findIn K (.ref C55) "__init__" = some (some (.ref f55))) (t55 : PySem.W.typeIn K (.ref f55) = some (.type "function")) (l55 : K.lookup f55 = some ⟨oc55, od55, .func (PySem.W.fnOf "__init__" "SamePipe.__init__" (defArgs s_SamePipe) (defBody s_SamePipe) (defScope s_SamePipe) .none kV55 dc55 pm55 an55 cd55 ct55), sl55⟩) (c55 : PySem.W.codeIn K cd55 "SamePipe.__init__" = true) (k55 : PySem.W.keepIn K (.ref f55) = true)
    {C56 : Addr} (a56 : PySem.W.nsIn K mainGlobals "SamePipe" = some (some (.ref C56))) (b56 : PySem.W.findIn K (.ref C56) "index" = some none)
    {f57 : Addr} {oc57 kV57 dc57 pm57 cd57 ct57 : Value} {od57 an57 : Option Addr} {sl57 : Array (Option Value)} {C57 : Addr} (a57 : PySem.W.nsIn K mainGlobals "Starved" = some (some (.ref C57))) (r57 : exTB K C57 [.type "ValueError", .type "Exception", .type "BaseException", .type "object"] "ValueError.__new__" = true) (s57 : PySem.W.findIn K (.ref C57) "__setattr__" = some (some (.builtin "object.__setattr__"))) (x57 : PySem.W.subIn K (.ref C57) (.type "BaseException") = some true) (y57 : PySem.W.typeIn K (.ref C57) = some (.type "type")) (z57 : PySem.W.keepIn K (.ref C57) = true) (b57 : PySem.W.findIn K (.ref C57) "__init__" = some (some (.ref f57))) (t57 : PySem.W.typeIn K (.ref f57) = some (.type "function")) (l57 : K.lookup f57 = some ⟨oc57, od57, .func (PySem.W.fnOf "__init__" "Starved.__init__" (defArgs s_Starved) (defBody s_Starved) (defScope s_Starved) .none kV57 dc57 pm57 an57 cd57 ct57), sl57⟩) (c57 : PySem.W.codeIn K cd57 "Starved.__init__" = true) (k57 : PySem.W.keepIn K (.ref f57) = true)
    {C58 : Addr} (a58 : PySem.W.nsIn K mainGlobals "Starved" = some (some (.ref C58))) (b58 : PySem.W.findIn K (.ref C58) "pair" = some none)
    {f59 : Addr} {oc59 kV59 dc59 pm59 cd59 ct59 : Value} {od59 an59 : Option Addr} {sl59 : Array (Option Value)} {C59 : Addr} (a59 : PySem.W.nsIn K mainGlobals "TooMany" = some (some (.ref C59))) (r59 : exTB K C59 [.type "OverflowError", .type "ArithmeticError", .type "Exception", .type "BaseException", .type "object"] "OverflowError.__new__" = true) (s59 : PySem.W.findIn K (.ref C59) "__setattr__" = some (some (.builtin "object.__setattr__"))) (x59 : PySem.W.subIn K (.ref C59) (.type "BaseException") = some true) (y59 : PySem.W.typeIn K (.ref C59) = some (.type "type")) (z59 : PySem.W.keepIn K (.ref C59) = true) (b59 : PySem.W.findIn K (.ref C59) "__init__" = some (some (.ref f59))) (t59 : PySem.W.typeIn K (.ref f59) = some (.type "function")) (l59 : K.lookup f59 = some ⟨oc59, od59, .func (PySem.W.fnOf "__init__" "TooMany.__init__" (defArgs s_TooMany) (defBody s_TooMany) (defScope s_TooMany) .none kV59 dc59 pm59 an59 cd59 ct59), sl59⟩) (c59 : PySem.W.codeIn K cd59 "TooMany.__init__" = true) (k59 : PySem.W.keepIn K (.ref f59) = true)
    {C60 : Addr} (a60 : PySem.W.nsIn K mainGlobals "TooMany" = some (some (.ref C60))) (b60 : PySem.W.findIn K (.ref C60) "most" = some none)
    {f61 : Addr} {oc61 kV61 dc61 pm61 cd61 ct61 : Value} {od61 an61 : Option Addr} {sl61 : Array (Option Value)} {C61 : Addr} (a61 : PySem.W.nsIn K mainGlobals "UnknownCommand" = some (some (.ref C61))) (r61 : exTB K C61 [.type "ValueError", .type "Exception", .type "BaseException", .type "object"] "ValueError.__new__" = true) (s61 : PySem.W.findIn K (.ref C61) "__setattr__" = some (some (.builtin "object.__setattr__"))) (x61 : PySem.W.subIn K (.ref C61) (.type "BaseException") = some true) (y61 : PySem.W.typeIn K (.ref C61) = some (.type "type")) (z61 : PySem.W.keepIn K (.ref C61) = true) (b61 : PySem.W.findIn K (.ref C61) "__init__" = some (some (.ref f61))) (t61 : PySem.W.typeIn K (.ref f61) = some (.type "function")) (l61 : K.lookup f61 = some ⟨oc61, od61, .func (PySem.W.fnOf "__init__" "UnknownCommand.__init__" (defArgs s_UnknownCommand) (defBody s_UnknownCommand) (defScope s_UnknownCommand) .none kV61 dc61 pm61 an61 cd61 ct61), sl61⟩) (c61 : PySem.W.codeIn K cd61 "UnknownCommand.__init__" = true) (k61 : PySem.W.keepIn K (.ref f61) = true)
    {C62 : Addr} (a62 : PySem.W.nsIn K mainGlobals "UnknownCommand" = some (some (.ref C62))) (b62 : PySem.W.findIn K (.ref C62) "command" = some none)
    (b63 : (errN.all fun c => clsB K c (excCB K)) = true)
    (b64 : isXoB K "CannotGo" tb_CannotGo = true)
    (b65 : isXB K (.type "IndexError") tb_IndexError = true)
    (b66 : isXoB K "InvalidDuo" tb_InvalidDuo = true)
    (b67 : isXoB K "InvalidDurations" tb_InvalidDurations = true)
    (b68 : isXoB K "InvalidEdit" tb_InvalidEdit = true)
    (b69 : isXoB K "InvalidGuide" tb_InvalidGuide = true)
    (b70 : isXoB K "InvalidLetter" tb_InvalidLetter = true)
    (b71 : isXoB K "InvalidLimit" tb_InvalidLimit = true)
    (b72 : isXoB K "InvalidProgram" tb_InvalidProgram = true)
    (b73 : isXoB K "InvalidRounds" tb_InvalidRounds = true)
    (b74 : isXoB K "InvalidSize" tb_InvalidSize = true)
    (b75 : isXoB K "InvalidTeam" tb_InvalidTeam = true)
    (b76 : isXoB K "InvalidTerms" tb_InvalidTerms = true)
    (b77 : isXoB K "InvalidText" tb_InvalidText = true)
    (b78 : isXoB K "InvalidTurn" tb_InvalidTurn = true)
    (b79 : isXB K (.type "KeyError") tb_KeyError = true)
    (b80 : isXB K (.type "LookupError") tb_LookupError = true)
    (b81 : isXoB K "NoMark" tb_NoMark = true)
    (b82 : isXoB K "NoPair" tb_NoPair = true)
    (b83 : isXoB K "NoPipe" tb_NoPipe = true)
    (b84 : isXoB K "NoStep" tb_NoStep = true)
    (b85 : isXoB K "NotStuck" tb_NotStuck = true)
    (b86 : isXoB K "NothingToRedo" tb_NothingToRedo = true)
    (b87 : isXoB K "NothingToUndo" tb_NothingToUndo = true)
    (b88 : isXB K (.type "OverflowError") tb_OverflowError = true)
    (b89 : isXoB K "Ringed" tb_Ringed = true)
    (b90 : isXB K (.type "RuntimeError") tb_RuntimeError = true)
    (b91 : isXoB K "SamePipe" tb_SamePipe = true)
    (b92 : isXoB K "Starved" tb_Starved = true)
    {C93 : Addr} (a93 : PySem.W.nsIn K mainGlobals "TallyError" = some (some (.ref C93)))
    (b94 : isXoB K "TallyError" tb_TallyError = true)
    (b95 : isXoB K "TooMany" tb_TooMany = true)
    (b96 : isXoB K "UnknownCommand" tb_UnknownCommand = true)
    (b97 : isXB K (.type "ValueError") tb_ValueError = true)
    (b98 : (fl_command.all fun c => clsB K c fun C => PySem.W.findIn K (.ref C) "command" == some none) = true)
    (b99 : (fl_count.all fun c => clsB K c fun C => PySem.W.findIn K (.ref C) "count" == some none) = true)
    (b100 : (fl_index.all fun c => clsB K c fun C => PySem.W.findIn K (.ref C) "index" == some none) = true)
    (b101 : (fl_letter.all fun c => clsB K c fun C => PySem.W.findIn K (.ref C) "letter" == some none) = true)
    (b102 : (fl_line.all fun c => clsB K c fun C => PySem.W.findIn K (.ref C) "line" == some none) = true)
    (b103 : (fl_members.all fun c => clsB K c fun C => PySem.W.findIn K (.ref C) "members" == some none) = true)
    (b104 : (fl_most.all fun c => clsB K c fun C => PySem.W.findIn K (.ref C) "most" == some none) = true)
    (b105 : (fl_name.all fun c => clsB K c fun C => PySem.W.findIn K (.ref C) "name" == some none) = true)
    (b106 : (fl_number.all fun c => clsB K c fun C => PySem.W.findIn K (.ref C) "number" == some none) = true)
    (b107 : (fl_pair.all fun c => clsB K c fun C => PySem.W.findIn K (.ref C) "pair" == some none) = true)
    (b108 : (fl_pipe.all fun c => clsB K c fun C => PySem.W.findIn K (.ref C) "pipe" == some none) = true)
    (b109 : (fl_who.all fun c => clsB K c fun C => PySem.W.findIn K (.ref C) "who" == some none) = true)
    (b110 : (fl_word.all fun c => clsB K c fun C => PySem.W.findIn K (.ref C) "word" == some none) = true)
    (a111 : PySem.W.nsIn K mainGlobals "IndexError" = some none)
    (a112 : PySem.W.nsIn K mainGlobals "KeyError" = some none)
    (a113 : PySem.W.nsIn K mainGlobals "LookupError" = some none)
    (a114 : PySem.W.nsIn K mainGlobals "OverflowError" = some none)
    (a115 : PySem.W.nsIn K mainGlobals "RuntimeError" = some none)
    (a116 : PySem.W.nsIn K mainGlobals "ValueError" = some none)
    (a117 : PySem.W.nsIn K mainGlobals "abs" = some none)
    (a118 : PySem.W.nsIn K mainGlobals "int" = some none)
    (a119 : PySem.W.nsIn K mainGlobals "isinstance" = some none)
    (a120 : PySem.W.nsIn K mainGlobals "len" = some none)
    (a121 : PySem.W.nsIn K mainGlobals "list" = some none)
    (a122 : PySem.W.nsIn K mainGlobals "range" = some none)
    (a123 : PySem.W.nsIn K mainGlobals "repr" = some none)
    : Txt K mg where
  d_law_pen := defAt_mk X G a1 l1 c1 k1
  d_law_draw := defAt_mk X G a2 l2 c2 k2
  d_law_odd := defAt_mk X G a3 l3 c3 k3
  d_law_errors := defAt_mk X G a4 l4 c4 k4
  d_law_named := defAt_mk X G a5 l5 c5 k5
  d_law_classes := defAt_mk X G a6 l6 c6 k6
  d_law_bases := defAt_mk X G a7 l7 c7 k7
  d_law_fields := defAt_mk X G a8 l8 c8 k8
  d_law := defAt_mk X G a9 l9 c9 k9
  x_CannotGo := errAt_mk X G a10 (oexT_mk baseX_RE r10 s10 x10 y10 z10) b10 t10 l10 c10 k10
  y_CannotGo_who := fldAt_mk a11 b11
  x_InvalidDuo := errAt_mk X G a12 (oexT_mk baseX_VE r12 s12 x12 y12 z12) b12 t12 l12 c12 k12
  y_InvalidDuo_pipe := fldAt_mk a13 b13
  x_InvalidDurations := errAt_mk X G a14 (oexT_mk baseX_VE r14 s14 x14 y14 z14) b14 t14 l14 c14 k14
  y_InvalidDurations_letter := fldAt_mk a15 b15
  x_InvalidEdit := errAt_mk X G a16 (oexT_mk baseX_VE r16 s16 x16 y16 z16) b16 t16 l16 c16 k16
  y_InvalidEdit_index := fldAt_mk a17 b17
  x_InvalidGuide := errAt_mk X G a18 (oexT_mk baseX_VE r18 s18 x18 y18 z18) b18 t18 l18 c18 k18
  y_InvalidGuide_pair := fldAt_mk a19 b19
  x_InvalidLetter := errAt_mk X G a20 (oexT_mk baseX_VE r20 s20 x20 y20 z20) b20 t20 l20 c20 k20
  y_InvalidLetter_letter := fldAt_mk a21 b21
  x_InvalidLimit := errAt_mk X G a22 (oexT_mk baseX_VE r22 s22 x22 y22 z22) b22 t22 l22 c22 k22
  y_InvalidLimit_number := fldAt_mk a23 b23
  x_InvalidProgram := errAt_mk X G a24 (oexT_mk baseX_VE r24 s24 x24 y24 z24) b24 t24 l24 c24 k24
  y_InvalidProgram_index := fldAt_mk a25 b25
  x_InvalidRounds := errAt_mk X G a26 (oexT_mk baseX_VE r26 s26 x26 y26 z26) b26 t26 l26 c26 k26
  y_InvalidRounds_number := fldAt_mk a27 b27
  x_InvalidSize := errAt_mk X G a28 (oexT_mk baseX_VE r28 s28 x28 y28 z28) b28 t28 l28 c28 k28
  y_InvalidSize_name := fldAt_mk a29 b29
  x_InvalidTeam := errAt_mk X G a30 (oexT_mk baseX_VE r30 s30 x30 y30 z30) b30 t30 l30 c30 k30
  y_InvalidTeam_pipe := fldAt_mk a31 b31
  x_InvalidTerms := errAt_mk X G a32 (oexT_mk baseX_VE r32 s32 x32 y32 z32) b32 t32 l32 c32 k32
  y_InvalidTerms_name := fldAt_mk a33 b33
  x_InvalidText := errAt_mk X G a34 (oexT_mk baseX_VE r34 s34 x34 y34 z34) b34 t34 l34 c34 k34
  y_InvalidText_line := fldAt_mk a35 b35
  y_InvalidText_word := fldAt_mk a36 b36
  x_InvalidTurn := errAt_mk X G a37 (oexT_mk baseX_VE r37 s37 x37 y37 z37) b37 t37 l37 c37 k37
  y_InvalidTurn_index := fldAt_mk a38 b38
  x_NoMark := errAt_mk X G a39 (oexT_mk baseX_LE r39 s39 x39 y39 z39) b39 t39 l39 c39 k39
  y_NoMark_name := fldAt_mk a40 b40
  x_NoPair := errAt_mk X G a41 (oexT_mk baseX_IE r41 s41 x41 y41 z41) b41 t41 l41 c41 k41
  y_NoPair_pair := fldAt_mk a42 b42
  x_NoPipe := errAt_mk X G a43 (oexT_mk baseX_KE r43 s43 x43 y43 z43) b43 t43 l43 c43 k43
  y_NoPipe_name := fldAt_mk a44 b44
  x_NoStep := errAt_mk X G a45 (oexT_mk baseX_IE r45 s45 x45 y45 z45) b45 t45 l45 c45 k45
  y_NoStep_index := fldAt_mk a46 b46
  x_NotStuck := errAt_mk X G a47 (oexT_mk baseX_VE r47 s47 x47 y47 z47) b47 t47 l47 c47 k47
  y_NotStuck_pair := fldAt_mk a48 b48
  x_NothingToRedo := errAt_mk X G a49 (oexT_mk baseX_LE r49 s49 x49 y49 z49) b49 t49 l49 c49 k49
  y_NothingToRedo_count := fldAt_mk a50 b50
  x_NothingToUndo := errAt_mk X G a51 (oexT_mk baseX_LE r51 s51 x51 y51 z51) b51 t51 l51 c51 k51
  y_NothingToUndo_count := fldAt_mk a52 b52
  x_Ringed := errAt_mk X G a53 (oexT_mk baseX_VE r53 s53 x53 y53 z53) b53 t53 l53 c53 k53
  y_Ringed_members := fldAt_mk a54 b54
  x_SamePipe := errAt_mk X G a55 (oexT_mk baseX_VE r55 s55 x55 y55 z55) b55 t55 l55 c55 k55
  y_SamePipe_index := fldAt_mk a56 b56
  x_Starved := errAt_mk X G a57 (oexT_mk baseX_VE r57 s57 x57 y57 z57) b57 t57 l57 c57 k57
  y_Starved_pair := fldAt_mk a58 b58
  x_TooMany := errAt_mk X G a59 (oexT_mk baseX_OE r59 s59 x59 y59 z59) b59 t59 l59 c59 k59
  y_TooMany_most := fldAt_mk a60 b60
  x_UnknownCommand := errAt_mk X G a61 (oexT_mk baseX_VE r61 s61 x61 y61 z61) b61 t61 l61 c61 k61
  y_UnknownCommand_command := fldAt_mk a62 b62
  ex_all := excAll_mk b63
  ie_CannotGo := isXo_mk (excAll_mk b63) b64 (by decide +kernel)
  ib_IndexError := isX_mk (excAll_mk b63) b65 (by decide +kernel)
  ie_InvalidDuo := isXo_mk (excAll_mk b63) b66 (by decide +kernel)
  ie_InvalidDurations := isXo_mk (excAll_mk b63) b67 (by decide +kernel)
  ie_InvalidEdit := isXo_mk (excAll_mk b63) b68 (by decide +kernel)
  ie_InvalidGuide := isXo_mk (excAll_mk b63) b69 (by decide +kernel)
  ie_InvalidLetter := isXo_mk (excAll_mk b63) b70 (by decide +kernel)
  ie_InvalidLimit := isXo_mk (excAll_mk b63) b71 (by decide +kernel)
  ie_InvalidProgram := isXo_mk (excAll_mk b63) b72 (by decide +kernel)
  ie_InvalidRounds := isXo_mk (excAll_mk b63) b73 (by decide +kernel)
  ie_InvalidSize := isXo_mk (excAll_mk b63) b74 (by decide +kernel)
  ie_InvalidTeam := isXo_mk (excAll_mk b63) b75 (by decide +kernel)
  ie_InvalidTerms := isXo_mk (excAll_mk b63) b76 (by decide +kernel)
  ie_InvalidText := isXo_mk (excAll_mk b63) b77 (by decide +kernel)
  ie_InvalidTurn := isXo_mk (excAll_mk b63) b78 (by decide +kernel)
  ib_KeyError := isX_mk (excAll_mk b63) b79 (by decide +kernel)
  ib_LookupError := isX_mk (excAll_mk b63) b80 (by decide +kernel)
  ie_NoMark := isXo_mk (excAll_mk b63) b81 (by decide +kernel)
  ie_NoPair := isXo_mk (excAll_mk b63) b82 (by decide +kernel)
  ie_NoPipe := isXo_mk (excAll_mk b63) b83 (by decide +kernel)
  ie_NoStep := isXo_mk (excAll_mk b63) b84 (by decide +kernel)
  ie_NotStuck := isXo_mk (excAll_mk b63) b85 (by decide +kernel)
  ie_NothingToRedo := isXo_mk (excAll_mk b63) b86 (by decide +kernel)
  ie_NothingToUndo := isXo_mk (excAll_mk b63) b87 (by decide +kernel)
  ib_OverflowError := isX_mk (excAll_mk b63) b88 (by decide +kernel)
  ie_Ringed := isXo_mk (excAll_mk b63) b89 (by decide +kernel)
  ib_RuntimeError := isX_mk (excAll_mk b63) b90 (by decide +kernel)
  ie_SamePipe := isXo_mk (excAll_mk b63) b91 (by decide +kernel)
  ie_Starved := isXo_mk (excAll_mk b63) b92 (by decide +kernel)
  q_TallyError := ⟨C93, clsOf_mk a93, PySem.W.mg_of X G a93⟩
  ie_TallyError := isXo_mk (excAll_mk b63) b94 (by decide +kernel)
  ie_TooMany := isXo_mk (excAll_mk b63) b95 (by decide +kernel)
  ie_UnknownCommand := isXo_mk (excAll_mk b63) b96 (by decide +kernel)
  ib_ValueError := isX_mk (excAll_mk b63) b97 (by decide +kernel)
  xf_command := xfAt_mk (excAll_mk b63) b98 (by decide +kernel)
  xf_count := xfAt_mk (excAll_mk b63) b99 (by decide +kernel)
  xf_index := xfAt_mk (excAll_mk b63) b100 (by decide +kernel)
  xf_letter := xfAt_mk (excAll_mk b63) b101 (by decide +kernel)
  xf_line := xfAt_mk (excAll_mk b63) b102 (by decide +kernel)
  xf_members := xfAt_mk (excAll_mk b63) b103 (by decide +kernel)
  xf_most := xfAt_mk (excAll_mk b63) b104 (by decide +kernel)
  xf_name := xfAt_mk (excAll_mk b63) b105 (by decide +kernel)
  xf_number := xfAt_mk (excAll_mk b63) b106 (by decide +kernel)
  xf_pair := xfAt_mk (excAll_mk b63) b107 (by decide +kernel)
  xf_pipe := xfAt_mk (excAll_mk b63) b108 (by decide +kernel)
  xf_who := xfAt_mk (excAll_mk b63) b109 (by decide +kernel)
  xf_word := xfAt_mk (excAll_mk b63) b110 (by decide +kernel)
  n_IndexError := PySem.W.mg_none_of X G a111
  n_KeyError := PySem.W.mg_none_of X G a112
  n_LookupError := PySem.W.mg_none_of X G a113
  n_OverflowError := PySem.W.mg_none_of X G a114
  n_RuntimeError := PySem.W.mg_none_of X G a115
  n_ValueError := PySem.W.mg_none_of X G a116
  n_abs := PySem.W.mg_none_of X G a117
  n_int := PySem.W.mg_none_of X G a118
  n_isinstance := PySem.W.mg_none_of X G a119
  n_len := PySem.W.mg_none_of X G a120
  n_list := PySem.W.mg_none_of X G a121
  n_range := PySem.W.mg_none_of X G a122
  n_repr := PySem.W.mg_none_of X G a123
theorem all_mk {P : Program} {w : World} {K : PySem.W.Frag} {mg : Str → Option Value} {base : Heap} (T : Txt K mg) (hs : ∃ o, base.get? sysModules = some o) : Cal P w K mg base 4 "law" ["_law_script"] (SpP (gOf K plT) f_law) := by
  have c_law_pen := k_law_pen (P := P) (w := w) (base := base) (G := gOf K plT) T rfl rfl rfl hs
  have c_law_draw := k_law_draw (P := P) (w := w) (base := base) (G := gOf K plT) T rfl rfl rfl hs
  have c_law_odd := k_law_odd (P := P) (w := w) (base := base) (G := gOf K plT) T rfl rfl rfl hs c_law_draw
  have c_law_errors := k_law_errors (P := P) (w := w) (base := base) (G := gOf K plT) T rfl rfl rfl hs
  have c_law_named := k_law_named (P := P) (w := w) (base := base) (G := gOf K plT) T rfl rfl rfl hs
  have c_law_classes := k_law_classes (P := P) (w := w) (base := base) (G := gOf K plT) T rfl rfl rfl hs
  have c_law_bases := k_law_bases (P := P) (w := w) (base := base) (G := gOf K plT) T rfl rfl rfl hs
  have c_law_fields := k_law_fields (P := P) (w := w) (base := base) (G := gOf K plT) T rfl rfl rfl hs
  have c_law := k_law (P := P) (w := w) (base := base) (G := gOf K plT) T rfl rfl rfl hs c_law_pen c_law_odd c_law_errors c_law_named c_law_classes c_law_bases c_law_fields
  exact c_law
theorem fin_mk {P : Program} {w : World} {K : PySem.W.Frag} {h : Heap} {mg : Str → Option Value} {fa : Addr} {base : Heap} (X : K.In h) (G : h.Ns mainGlobals mg) (hmg : mg "law" = some (.ref fa)) (hs : ∃ o, base.get? sysModules = some o)
    {f1 : Addr} {oc1 kV1 dc1 pm1 cd1 ct1 : Value} {od1 an1 : Option Addr} {sl1 : Array (Option Value)} (a1 : PySem.W.nsIn K mainGlobals "_law_pen" = some (some (.ref f1))) (l1 : K.lookup f1 = some ⟨oc1, od1, .func (PySem.W.fnOf "_law_pen" "_law_pen" (defArgs s_law_pen) (defBody s_law_pen) (defScope s_law_pen) .none kV1 dc1 pm1 an1 cd1 ct1), sl1⟩) (c1 : PySem.W.codeIn K cd1 "_law_pen" = true) (k1 : PySem.W.keepIn K (.ref f1) = true)
    {f2 : Addr} {oc2 kV2 dc2 pm2 cd2 ct2 : Value} {od2 an2 : Option Addr} {sl2 : Array (Option Value)} (a2 : PySem.W.nsIn K mainGlobals "_law_draw" = some (some (.ref f2))) (l2 : K.lookup f2 = some ⟨oc2, od2, .func (PySem.W.fnOf "_law_draw" "_law_draw" (defArgs s_law_draw) (defBody s_law_draw) (defScope s_law_draw) .none kV2 dc2 pm2 an2 cd2 ct2), sl2⟩) (c2 : PySem.W.codeIn K cd2 "_law_draw" = true) (k2 : PySem.W.keepIn K (.ref f2) = true)
    {f3 : Addr} {oc3 kV3 dc3 pm3 cd3 ct3 : Value} {od3 an3 : Option Addr} {sl3 : Array (Option Value)} (a3 : PySem.W.nsIn K mainGlobals "_law_odd" = some (some (.ref f3))) (l3 : K.lookup f3 = some ⟨oc3, od3, .func (PySem.W.fnOf "_law_odd" "_law_odd" (defArgs s_law_odd) (defBody s_law_odd) (defScope s_law_odd) .none kV3 dc3 pm3 an3 cd3 ct3), sl3⟩) (c3 : PySem.W.codeIn K cd3 "_law_odd" = true) (k3 : PySem.W.keepIn K (.ref f3) = true)
    {f4 : Addr} {oc4 kV4 dc4 pm4 cd4 ct4 : Value} {od4 an4 : Option Addr} {sl4 : Array (Option Value)} (a4 : PySem.W.nsIn K mainGlobals "_law_errors" = some (some (.ref f4))) (l4 : K.lookup f4 = some ⟨oc4, od4, .func (PySem.W.fnOf "_law_errors" "_law_errors" (defArgs s_law_errors) (defBody s_law_errors) (defScope s_law_errors) .none kV4 dc4 pm4 an4 cd4 ct4), sl4⟩) (c4 : PySem.W.codeIn K cd4 "_law_errors" = true) (k4 : PySem.W.keepIn K (.ref f4) = true)
    {f5 : Addr} {oc5 kV5 dc5 pm5 cd5 ct5 : Value} {od5 an5 : Option Addr} {sl5 : Array (Option Value)} (a5 : PySem.W.nsIn K mainGlobals "_law_named" = some (some (.ref f5))) (l5 : K.lookup f5 = some ⟨oc5, od5, .func (PySem.W.fnOf "_law_named" "_law_named" (defArgs s_law_named) (defBody s_law_named) (defScope s_law_named) .none kV5 dc5 pm5 an5 cd5 ct5), sl5⟩) (c5 : PySem.W.codeIn K cd5 "_law_named" = true) (k5 : PySem.W.keepIn K (.ref f5) = true)
    {f6 : Addr} {oc6 kV6 dc6 pm6 cd6 ct6 : Value} {od6 an6 : Option Addr} {sl6 : Array (Option Value)} (a6 : PySem.W.nsIn K mainGlobals "_law_classes" = some (some (.ref f6))) (l6 : K.lookup f6 = some ⟨oc6, od6, .func (PySem.W.fnOf "_law_classes" "_law_classes" (defArgs s_law_classes) (defBody s_law_classes) (defScope s_law_classes) .none kV6 dc6 pm6 an6 cd6 ct6), sl6⟩) (c6 : PySem.W.codeIn K cd6 "_law_classes" = true) (k6 : PySem.W.keepIn K (.ref f6) = true)
    {f7 : Addr} {oc7 kV7 dc7 pm7 cd7 ct7 : Value} {od7 an7 : Option Addr} {sl7 : Array (Option Value)} (a7 : PySem.W.nsIn K mainGlobals "_law_bases" = some (some (.ref f7))) (l7 : K.lookup f7 = some ⟨oc7, od7, .func (PySem.W.fnOf "_law_bases" "_law_bases" (defArgs s_law_bases) (defBody s_law_bases) (defScope s_law_bases) .none kV7 dc7 pm7 an7 cd7 ct7), sl7⟩) (c7 : PySem.W.codeIn K cd7 "_law_bases" = true) (k7 : PySem.W.keepIn K (.ref f7) = true)
    {f8 : Addr} {oc8 kV8 dc8 pm8 cd8 ct8 : Value} {od8 an8 : Option Addr} {sl8 : Array (Option Value)} (a8 : PySem.W.nsIn K mainGlobals "_law_fields" = some (some (.ref f8))) (l8 : K.lookup f8 = some ⟨oc8, od8, .func (PySem.W.fnOf "_law_fields" "_law_fields" (defArgs s_law_fields) (defBody s_law_fields) (defScope s_law_fields) .none kV8 dc8 pm8 an8 cd8 ct8), sl8⟩) (c8 : PySem.W.codeIn K cd8 "_law_fields" = true) (k8 : PySem.W.keepIn K (.ref f8) = true)
    {f9 : Addr} {oc9 kV9 dc9 pm9 cd9 ct9 : Value} {od9 an9 : Option Addr} {sl9 : Array (Option Value)} (a9 : PySem.W.nsIn K mainGlobals "law" = some (some (.ref f9))) (l9 : K.lookup f9 = some ⟨oc9, od9, .func (PySem.W.fnOf "law" "law" (defArgs s_law) (defBody s_law) (defScope s_law) .none kV9 dc9 pm9 an9 cd9 ct9), sl9⟩) (c9 : PySem.W.codeIn K cd9 "law" = true) (k9 : PySem.W.keepIn K (.ref f9) = true)
    {f10 : Addr} {oc10 kV10 dc10 pm10 cd10 ct10 : Value} {od10 an10 : Option Addr} {sl10 : Array (Option Value)} {C10 : Addr} (a10 : PySem.W.nsIn K mainGlobals "CannotGo" = some (some (.ref C10))) (r10 : exTB K C10 [.type "RuntimeError", .type "Exception", .type "BaseException", .type "object"] "RuntimeError.__new__" = true) (s10 : PySem.W.findIn K (.ref C10) "__setattr__" = some (some (.builtin "object.__setattr__"))) (x10 : PySem.W.subIn K (.ref C10) (.type "BaseException") = some true) (y10 : PySem.W.typeIn K (.ref C10) = some (.type "type")) (z10 : PySem.W.keepIn K (.ref C10) = true) (b10 : PySem.W.findIn K (.ref C10) "__init__" = some (some (.ref f10))) (t10 : PySem.W.typeIn K (.ref f10) = some (.type "function")) (l10 : K.lookup f10 = some ⟨oc10, od10, .func (PySem.W.fnOf "__init__" "CannotGo.__init__" (defArgs s_CannotGo) (defBody s_CannotGo) (defScope s_CannotGo) .none kV10 dc10 pm10 an10 cd10 ct10), sl10⟩) (c10 : PySem.W.codeIn K cd10 "CannotGo.__init__" = true) (k10 : PySem.W.keepIn K (.ref f10) = true)
    {C11 : Addr} (a11 : PySem.W.nsIn K mainGlobals "CannotGo" = some (some (.ref C11))) (b11 : PySem.W.findIn K (.ref C11) "who" = some none)
    {f12 : Addr} {oc12 kV12 dc12 pm12 cd12 ct12 : Value} {od12 an12 : Option Addr} {sl12 : Array (Option Value)} {C12 : Addr} (a12 : PySem.W.nsIn K mainGlobals "InvalidDuo" = some (some (.ref C12))) (r12 : exTB K C12 [.type "ValueError", .type "Exception", .type "BaseException", .type "object"] "ValueError.__new__" = true) (s12 : PySem.W.findIn K (.ref C12) "__setattr__" = some (some (.builtin "object.__setattr__"))) (x12 : PySem.W.subIn K (.ref C12) (.type "BaseException") = some true) (y12 : PySem.W.typeIn K (.ref C12) = some (.type "type")) (z12 : PySem.W.keepIn K (.ref C12) = true) (b12 : PySem.W.findIn K (.ref C12) "__init__" = some (some (.ref f12))) (t12 : PySem.W.typeIn K (.ref f12) = some (.type "function")) (l12 : K.lookup f12 = some ⟨oc12, od12, .func (PySem.W.fnOf "__init__" "InvalidDuo.__init__" (defArgs s_InvalidDuo) (defBody s_InvalidDuo) (defScope s_InvalidDuo) .none kV12 dc12 pm12 an12 cd12 ct12), sl12⟩) (c12 : PySem.W.codeIn K cd12 "InvalidDuo.__init__" = true) (k12 : PySem.W.keepIn K (.ref f12) = true)
    {C13 : Addr} (a13 : PySem.W.nsIn K mainGlobals "InvalidDuo" = some (some (.ref C13))) (b13 : PySem.W.findIn K (.ref C13) "pipe" = some none)
    {f14 : Addr} {oc14 kV14 dc14 pm14 cd14 ct14 : Value} {od14 an14 : Option Addr} {sl14 : Array (Option Value)} {C14 : Addr} (a14 : PySem.W.nsIn K mainGlobals "InvalidDurations" = some (some (.ref C14))) (r14 : exTB K C14 [.type "ValueError", .type "Exception", .type "BaseException", .type "object"] "ValueError.__new__" = true) (s14 : PySem.W.findIn K (.ref C14) "__setattr__" = some (some (.builtin "object.__setattr__"))) (x14 : PySem.W.subIn K (.ref C14) (.type "BaseException") = some true) (y14 : PySem.W.typeIn K (.ref C14) = some (.type "type")) (z14 : PySem.W.keepIn K (.ref C14) = true) (b14 : PySem.W.findIn K (.ref C14) "__init__" = some (some (.ref f14))) (t14 : PySem.W.typeIn K (.ref f14) = some (.type "function")) (l14 : K.lookup f14 = some ⟨oc14, od14, .func (PySem.W.fnOf "__init__" "InvalidDurations.__init__" (defArgs s_InvalidDurations) (defBody s_InvalidDurations) (defScope s_InvalidDurations) .none kV14 dc14 pm14 an14 cd14 ct14), sl14⟩) (c14 : PySem.W.codeIn K cd14 "InvalidDurations.__init__" = true) (k14 : PySem.W.keepIn K (.ref f14) = true)
    {C15 : Addr} (a15 : PySem.W.nsIn K mainGlobals "InvalidDurations" = some (some (.ref C15))) (b15 : PySem.W.findIn K (.ref C15) "letter" = some none)
    {f16 : Addr} {oc16 kV16 dc16 pm16 cd16 ct16 : Value} {od16 an16 : Option Addr} {sl16 : Array (Option Value)} {C16 : Addr} (a16 : PySem.W.nsIn K mainGlobals "InvalidEdit" = some (some (.ref C16))) (r16 : exTB K C16 [.type "ValueError", .type "Exception", .type "BaseException", .type "object"] "ValueError.__new__" = true) (s16 : PySem.W.findIn K (.ref C16) "__setattr__" = some (some (.builtin "object.__setattr__"))) (x16 : PySem.W.subIn K (.ref C16) (.type "BaseException") = some true) (y16 : PySem.W.typeIn K (.ref C16) = some (.type "type")) (z16 : PySem.W.keepIn K (.ref C16) = true) (b16 : PySem.W.findIn K (.ref C16) "__init__" = some (some (.ref f16))) (t16 : PySem.W.typeIn K (.ref f16) = some (.type "function")) (l16 : K.lookup f16 = some ⟨oc16, od16, .func (PySem.W.fnOf "__init__" "InvalidEdit.__init__" (defArgs s_InvalidEdit) (defBody s_InvalidEdit) (defScope s_InvalidEdit) .none kV16 dc16 pm16 an16 cd16 ct16), sl16⟩) (c16 : PySem.W.codeIn K cd16 "InvalidEdit.__init__" = true) (k16 : PySem.W.keepIn K (.ref f16) = true)
    {C17 : Addr} (a17 : PySem.W.nsIn K mainGlobals "InvalidEdit" = some (some (.ref C17))) (b17 : PySem.W.findIn K (.ref C17) "index" = some none)
    {f18 : Addr} {oc18 kV18 dc18 pm18 cd18 ct18 : Value} {od18 an18 : Option Addr} {sl18 : Array (Option Value)} {C18 : Addr} (a18 : PySem.W.nsIn K mainGlobals "InvalidGuide" = some (some (.ref C18))) (r18 : exTB K C18 [.type "ValueError", .type "Exception", .type "BaseException", .type "object"] "ValueError.__new__" = true) (s18 : PySem.W.findIn K (.ref C18) "__setattr__" = some (some (.builtin "object.__setattr__"))) (x18 : PySem.W.subIn K (.ref C18) (.type "BaseException") = some true) (y18 : PySem.W.typeIn K (.ref C18) = some (.type "type")) (z18 : PySem.W.keepIn K (.ref C18) = true) (b18 : PySem.W.findIn K (.ref C18) "__init__" = some (some (.ref f18))) (t18 : PySem.W.typeIn K (.ref f18) = some (.type "function")) (l18 : K.lookup f18 = some ⟨oc18, od18, .func (PySem.W.fnOf "__init__" "InvalidGuide.__init__" (defArgs s_InvalidGuide) (defBody s_InvalidGuide) (defScope s_InvalidGuide) .none kV18 dc18 pm18 an18 cd18 ct18), sl18⟩) (c18 : PySem.W.codeIn K cd18 "InvalidGuide.__init__" = true) (k18 : PySem.W.keepIn K (.ref f18) = true)
    {C19 : Addr} (a19 : PySem.W.nsIn K mainGlobals "InvalidGuide" = some (some (.ref C19))) (b19 : PySem.W.findIn K (.ref C19) "pair" = some none)
    {f20 : Addr} {oc20 kV20 dc20 pm20 cd20 ct20 : Value} {od20 an20 : Option Addr} {sl20 : Array (Option Value)} {C20 : Addr} (a20 : PySem.W.nsIn K mainGlobals "InvalidLetter" = some (some (.ref C20))) (r20 : exTB K C20 [.type "ValueError", .type "Exception", .type "BaseException", .type "object"] "ValueError.__new__" = true) (s20 : PySem.W.findIn K (.ref C20) "__setattr__" = some (some (.builtin "object.__setattr__"))) (x20 : PySem.W.subIn K (.ref C20) (.type "BaseException") = some true) (y20 : PySem.W.typeIn K (.ref C20) = some (.type "type")) (z20 : PySem.W.keepIn K (.ref C20) = true) (b20 : PySem.W.findIn K (.ref C20) "__init__" = some (some (.ref f20))) (t20 : PySem.W.typeIn K (.ref f20) = some (.type "function")) (l20 : K.lookup f20 = some ⟨oc20, od20, .func (PySem.W.fnOf "__init__" "InvalidLetter.__init__" (defArgs s_InvalidLetter) (defBody s_InvalidLetter) (defScope s_InvalidLetter) .none kV20 dc20 pm20 an20 cd20 ct20), sl20⟩) (c20 : PySem.W.codeIn K cd20 "InvalidLetter.__init__" = true) (k20 : PySem.W.keepIn K (.ref f20) = true)
    {C21 : Addr} (a21 : PySem.W.nsIn K mainGlobals "InvalidLetter" = some (some (.ref C21))) (b21 : PySem.W.findIn K (.ref C21) "letter" = some none)
    {f22 : Addr} {oc22 kV22 dc22 pm22 cd22 ct22 : Value} {od22 an22 : Option Addr} {sl22 : Array (Option Value)} {C22 : Addr} (a22 : PySem.W.nsIn K mainGlobals "InvalidLimit" = some (some (.ref C22))) (r22 : exTB K C22 [.type "ValueError", .type "Exception", .type "BaseException", .type "object"] "ValueError.__new__" = true) (s22 : PySem.W.findIn K (.ref C22) "__setattr__" = some (some (.builtin "object.__setattr__"))) (x22 : PySem.W.subIn K (.ref C22) (.type "BaseException") = some true) (y22 : PySem.W.typeIn K (.ref C22) = some (.type "type")) (z22 : PySem.W.keepIn K (.ref C22) = true) (b22 : PySem.W.findIn K (.ref C22) "__init__" = some (some (.ref f22))) (t22 : PySem.W.typeIn K (.ref f22) = some (.type "function")) (l22 : K.lookup f22 = some ⟨oc22, od22, .func (PySem.W.fnOf "__init__" "InvalidLimit.__init__" (defArgs s_InvalidLimit) (defBody s_InvalidLimit) (defScope s_InvalidLimit) .none kV22 dc22 pm22 an22 cd22 ct22), sl22⟩) (c22 : PySem.W.codeIn K cd22 "InvalidLimit.__init__" = true) (k22 : PySem.W.keepIn K (.ref f22) = true)
    {C23 : Addr} (a23 : PySem.W.nsIn K mainGlobals "InvalidLimit" = some (some (.ref C23))) (b23 : PySem.W.findIn K (.ref C23) "number" = some none)
    {f24 : Addr} {oc24 kV24 dc24 pm24 cd24 ct24 : Value} {od24 an24 : Option Addr} {sl24 : Array (Option Value)} {C24 : Addr} (a24 : PySem.W.nsIn K mainGlobals "InvalidProgram" = some (some (.ref C24))) (r24 : exTB K C24 [.type "ValueError", .type "Exception", .type "BaseException", .type "object"] "ValueError.__new__" = true) (s24 : PySem.W.findIn K (.ref C24) "__setattr__" = some (some (.builtin "object.__setattr__"))) (x24 : PySem.W.subIn K (.ref C24) (.type "BaseException") = some true) (y24 : PySem.W.typeIn K (.ref C24) = some (.type "type")) (z24 : PySem.W.keepIn K (.ref C24) = true) (b24 : PySem.W.findIn K (.ref C24) "__init__" = some (some (.ref f24))) (t24 : PySem.W.typeIn K (.ref f24) = some (.type "function")) (l24 : K.lookup f24 = some ⟨oc24, od24, .func (PySem.W.fnOf "__init__" "InvalidProgram.__init__" (defArgs s_InvalidProgram) (defBody s_InvalidProgram) (defScope s_InvalidProgram) .none kV24 dc24 pm24 an24 cd24 ct24), sl24⟩) (c24 : PySem.W.codeIn K cd24 "InvalidProgram.__init__" = true) (k24 : PySem.W.keepIn K (.ref f24) = true)
    {C25 : Addr} (a25 : PySem.W.nsIn K mainGlobals "InvalidProgram" = some (some (.ref C25))) (b25 : PySem.W.findIn K (.ref C25) "index" = some none)
    {f26 : Addr} {oc26 kV26 dc26 pm26 cd26 ct26 : Value} {od26 an26 : Option Addr} {sl26 : Array (Option Value)} {C26 : Addr} (a26 : PySem.W.nsIn K mainGlobals "InvalidRounds" = some (some (.ref C26))) (r26 : exTB K C26 [.type "ValueError", .type "Exception", .type "BaseException", .type "object"] "ValueError.__new__" = true) (s26 : PySem.W.findIn K (.ref C26) "__setattr__" = some (some (.builtin "object.__setattr__"))) (x26 : PySem.W.subIn K (.ref C26) (.type "BaseException") = some true) (y26 : PySem.W.typeIn K (.ref C26) = some (.type "type")) (z26 : PySem.W.keepIn K (.ref C26) = true) (b26 : PySem.W.findIn K (.ref C26) "__init__" = some (some (.ref f26))) (t26 : PySem.W.typeIn K (.ref f26) = some (.type "function")) (l26 : K.lookup f26 = some ⟨oc26, od26, .func (PySem.W.fnOf "__init__" "InvalidRounds.__init__" (defArgs s_InvalidRounds) (defBody s_InvalidRounds) (defScope s_InvalidRounds) .none kV26 dc26 pm26 an26 cd26 ct26), sl26⟩) (c26 : PySem.W.codeIn K cd26 "InvalidRounds.__init__" = true) (k26 : PySem.W.keepIn K (.ref f26) = true)
    {C27 : Addr} (a27 : PySem.W.nsIn K mainGlobals "InvalidRounds" = some (some (.ref C27))) (b27 : PySem.W.findIn K (.ref C27) "number" = some none)
    {f28 : Addr} {oc28 kV28 dc28 pm28 cd28 ct28 : Value} {od28 an28 : Option Addr} {sl28 : Array (Option Value)} {C28 : Addr} (a28 : PySem.W.nsIn K mainGlobals "InvalidSize" = some (some (.ref C28))) (r28 : exTB K C28 [.type "ValueError", .type "Exception", .type "BaseException", .type "object"] "ValueError.__new__" = true) (s28 : PySem.W.findIn K (.ref C28) "__setattr__" = some (some (.builtin "object.__setattr__"))) (x28 : PySem.W.subIn K (.ref C28) (.type "BaseException") = some true) (y28 : PySem.W.typeIn K (.ref C28) = some (.type "type")) (z28 : PySem.W.keepIn K (.ref C28) = true) (b28 : PySem.W.findIn K (.ref C28) "__init__" = some (some (.ref f28))) (t28 : PySem.W.typeIn K (.ref f28) = some (.type "function")) (l28 : K.lookup f28 = some ⟨oc28, od28, .func (PySem.W.fnOf "__init__" "InvalidSize.__init__" (defArgs s_InvalidSize) (defBody s_InvalidSize) (defScope s_InvalidSize) .none kV28 dc28 pm28 an28 cd28 ct28), sl28⟩) (c28 : PySem.W.codeIn K cd28 "InvalidSize.__init__" = true) (k28 : PySem.W.keepIn K (.ref f28) = true)
    {C29 : Addr} (a29 : PySem.W.nsIn K mainGlobals "InvalidSize" = some (some (.ref C29))) (b29 : PySem.W.findIn K (.ref C29) "name" = some none)
    {f30 : Addr} {oc30 kV30 dc30 pm30 cd30 ct30 : Value} {od30 an30 : Option Addr} {sl30 : Array (Option Value)} {C30 : Addr} (a30 : PySem.W.nsIn K mainGlobals "InvalidTeam" = some (some (.ref C30))) (r30 : exTB K C30 [.type "ValueError", .type "Exception", .type "BaseException", .type "object"] "ValueError.__new__" = true) (s30 : PySem.W.findIn K (.ref C30) "__setattr__" = some (some (.builtin "object.__setattr__"))) (x30 : PySem.W.subIn K (.ref C30) (.type "BaseException") = some true) (y30 : PySem.W.typeIn K (.ref C30) = some (.type "type")) (z30 : PySem.W.keepIn K (.ref C30) = true) (b30 : PySem.W.findIn K (.ref C30) "__init__" = some (some (.ref f30))) (t30 : PySem.W.typeIn K (.ref f30) = some (.type "function")) (l30 : K.lookup f30 = some ⟨oc30, od30, .func (PySem.W.fnOf "__init__" "InvalidTeam.__init__" (defArgs s_InvalidTeam) (defBody s_InvalidTeam) (defScope s_InvalidTeam) .none kV30 dc30 pm30 an30 cd30 ct30), sl30⟩) (c30 : PySem.W.codeIn K cd30 "InvalidTeam.__init__" = true) (k30 : PySem.W.keepIn K (.ref f30) = true)
    {C31 : Addr} (a31 : PySem.W.nsIn K mainGlobals "InvalidTeam" = some (some (.ref C31))) (b31 : PySem.W.findIn K (.ref C31) "pipe" = some none)
    {f32 : Addr} {oc32 kV32 dc32 pm32 cd32 ct32 : Value} {od32 an32 : Option Addr} {sl32 : Array (Option Value)} {C32 : Addr} (a32 : PySem.W.nsIn K mainGlobals "InvalidTerms" = some (some (.ref C32))) (r32 : exTB K C32 [.type "ValueError", .type "Exception", .type "BaseException", .type "object"] "ValueError.__new__" = true) (s32 : PySem.W.findIn K (.ref C32) "__setattr__" = some (some (.builtin "object.__setattr__"))) (x32 : PySem.W.subIn K (.ref C32) (.type "BaseException") = some true) (y32 : PySem.W.typeIn K (.ref C32) = some (.type "type")) (z32 : PySem.W.keepIn K (.ref C32) = true) (b32 : PySem.W.findIn K (.ref C32) "__init__" = some (some (.ref f32))) (t32 : PySem.W.typeIn K (.ref f32) = some (.type "function")) (l32 : K.lookup f32 = some ⟨oc32, od32, .func (PySem.W.fnOf "__init__" "InvalidTerms.__init__" (defArgs s_InvalidTerms) (defBody s_InvalidTerms) (defScope s_InvalidTerms) .none kV32 dc32 pm32 an32 cd32 ct32), sl32⟩) (c32 : PySem.W.codeIn K cd32 "InvalidTerms.__init__" = true) (k32 : PySem.W.keepIn K (.ref f32) = true)
    {C33 : Addr} (a33 : PySem.W.nsIn K mainGlobals "InvalidTerms" = some (some (.ref C33))) (b33 : PySem.W.findIn K (.ref C33) "name" = some none)
    {f34 : Addr} {oc34 kV34 dc34 pm34 cd34 ct34 : Value} {od34 an34 : Option Addr} {sl34 : Array (Option Value)} {C34 : Addr} (a34 : PySem.W.nsIn K mainGlobals "InvalidText" = some (some (.ref C34))) (r34 : exTB K C34 [.type "ValueError", .type "Exception", .type "BaseException", .type "object"] "ValueError.__new__" = true) (s34 : PySem.W.findIn K (.ref C34) "__setattr__" = some (some (.builtin "object.__setattr__"))) (x34 : PySem.W.subIn K (.ref C34) (.type "BaseException") = some true) (y34 : PySem.W.typeIn K (.ref C34) = some (.type "type")) (z34 : PySem.W.keepIn K (.ref C34) = true) (b34 : PySem.W.findIn K (.ref C34) "__init__" = some (some (.ref f34))) (t34 : PySem.W.typeIn K (.ref f34) = some (.type "function")) (l34 : K.lookup f34 = some ⟨oc34, od34, .func (PySem.W.fnOf "__init__" "InvalidText.__init__" (defArgs s_InvalidText) (defBody s_InvalidText) (defScope s_InvalidText) .none kV34 dc34 pm34 an34 cd34 ct34), sl34⟩) (c34 : PySem.W.codeIn K cd34 "InvalidText.__init__" = true) (k34 : PySem.W.keepIn K (.ref f34) = true)
    {C35 : Addr} (a35 : PySem.W.nsIn K mainGlobals "InvalidText" = some (some (.ref C35))) (b35 : PySem.W.findIn K (.ref C35) "line" = some none)
    {C36 : Addr} (a36 : PySem.W.nsIn K mainGlobals "InvalidText" = some (some (.ref C36))) (b36 : PySem.W.findIn K (.ref C36) "word" = some none)
    {f37 : Addr} {oc37 kV37 dc37 pm37 cd37 ct37 : Value} {od37 an37 : Option Addr} {sl37 : Array (Option Value)} {C37 : Addr} (a37 : PySem.W.nsIn K mainGlobals "InvalidTurn" = some (some (.ref C37))) (r37 : exTB K C37 [.type "ValueError", .type "Exception", .type "BaseException", .type "object"] "ValueError.__new__" = true) (s37 : PySem.W.findIn K (.ref C37) "__setattr__" = some (some (.builtin "object.__setattr__"))) (x37 : PySem.W.subIn K (.ref C37) (.type "BaseException") = some true) (y37 : PySem.W.typeIn K (.ref C37) = some (.type "type")) (z37 : PySem.W.keepIn K (.ref C37) = true) (b37 : PySem.W.findIn K (.ref C37) "__init__" = some (some (.ref f37))) (t37 : PySem.W.typeIn K (.ref f37) = some (.type "function")) (l37 : K.lookup f37 = some ⟨oc37, od37, .func (PySem.W.fnOf "__init__" "InvalidTurn.__init__" (defArgs s_InvalidTurn) (defBody s_InvalidTurn) (defScope s_InvalidTurn) .none kV37 dc37 pm37 an37 cd37 ct37), sl37⟩) (c37 : PySem.W.codeIn K cd37 "InvalidTurn.__init__" = true) (k37 : PySem.W.keepIn K (.ref f37) = true)
    {C38 : Addr} (a38 : PySem.W.nsIn K mainGlobals "InvalidTurn" = some (some (.ref C38))) (b38 : PySem.W.findIn K (.ref C38) "index" = some none)
    {f39 : Addr} {oc39 kV39 dc39 pm39 cd39 ct39 : Value} {od39 an39 : Option Addr} {sl39 : Array (Option Value)} {C39 : Addr} (a39 : PySem.W.nsIn K mainGlobals "NoMark" = some (some (.ref C39))) (r39 : exTB K C39 [.type "LookupError", .type "Exception", .type "BaseException", .type "object"] "LookupError.__new__" = true) (s39 : PySem.W.findIn K (.ref C39) "__setattr__" = some (some (.builtin "object.__setattr__"))) (x39 : PySem.W.subIn K (.ref C39) (.type "BaseException") = some true) (y39 : PySem.W.typeIn K (.ref C39) = some (.type "type")) (z39 : PySem.W.keepIn K (.ref C39) = true) (b39 : PySem.W.findIn K (.ref C39) "__init__" = some (some (.ref f39))) (t39 : PySem.W.typeIn K (.ref f39) = some (.type "function")) (l39 : K.lookup f39 = some ⟨oc39, od39, .func (PySem.W.fnOf "__init__" "NoMark.__init__" (defArgs s_NoMark) (defBody s_NoMark) (defScope s_NoMark) .none kV39 dc39 pm39 an39 cd39 ct39), sl39⟩) (c39 : PySem.W.codeIn K cd39 "NoMark.__init__" = true) (k39 : PySem.W.keepIn K (.ref f39) = true)
    {C40 : Addr} (a40 : PySem.W.nsIn K mainGlobals "NoMark" = some (some (.ref C40))) (b40 : PySem.W.findIn K (.ref C40) "name" = some none)
    {f41 : Addr} {oc41 kV41 dc41 pm41 cd41 ct41 : Value} {od41 an41 : Option Addr} {sl41 : Array (Option Value)} {C41 : Addr} (a41 : PySem.W.nsIn K mainGlobals "NoPair" = some (some (.ref C41))) (r41 : exTB K C41 [.type "IndexError", .type "LookupError", .type "Exception", .type "BaseException", .type "object"] "IndexError.__new__" = true) (s41 : PySem.W.findIn K (.ref C41) "__setattr__" = some (some (.builtin "object.__setattr__"))) (x41 : PySem.W.subIn K (.ref C41) (.type "BaseException") = some true) (y41 : PySem.W.typeIn K (.ref C41) = some (.type "type")) (z41 : PySem.W.keepIn K (.ref C41) = true) (b41 : PySem.W.findIn K (.ref C41) "__init__" = some (some (.ref f41))) (t41 : PySem.W.typeIn K (.ref f41) = some (.type "function")) (l41 : K.lookup f41 = some ⟨oc41, od41, .func (PySem.W.fnOf "__init__" "NoPair.__init__" (defArgs s_NoPair) (defBody s_NoPair) (defScope s_NoPair) .none kV41 dc41 pm41 an41 cd41 ct41), sl41⟩) (c41 : PySem.W.codeIn K cd41 "NoPair.__init__" = true) (k41 : PySem.W.keepIn K (.ref f41) = true)
    {C42 : Addr} (a42 : PySem.W.nsIn K mainGlobals "NoPair" = some (some (.ref C42))) (b42 : PySem.W.findIn K (.ref C42) "pair" = some none)
    {f43 : Addr} {oc43 kV43 dc43 pm43 cd43 ct43 : Value} {od43 an43 : Option Addr} {sl43 : Array (Option Value)} {C43 : Addr} (a43 : PySem.W.nsIn K mainGlobals "NoPipe" = some (some (.ref C43))) (r43 : exTB K C43 [.type "KeyError", .type "LookupError", .type "Exception", .type "BaseException", .type "object"] "LookupError.__new__" = true) (s43 : PySem.W.findIn K (.ref C43) "__setattr__" = some (some (.builtin "object.__setattr__"))) (x43 : PySem.W.subIn K (.ref C43) (.type "BaseException") = some true) (y43 : PySem.W.typeIn K (.ref C43) = some (.type "type")) (z43 : PySem.W.keepIn K (.ref C43) = true) (b43 : PySem.W.findIn K (.ref C43) "__init__" = some (some (.ref f43))) (t43 : PySem.W.typeIn K (.ref f43) = some (.type "function")) (l43 : K.lookup f43 = some ⟨oc43, od43, .func (PySem.W.fnOf "__init__" "NoPipe.__init__" (defArgs s_NoPipe) (defBody s_NoPipe) (defScope s_NoPipe) .none kV43 dc43 pm43 an43 cd43 ct43), sl43⟩) (c43 : PySem.W.codeIn K cd43 "NoPipe.__init__" = true) (k43 : PySem.W.keepIn K (.ref f43) = true)
    {C44 : Addr} (a44 : PySem.W.nsIn K mainGlobals "NoPipe" = some (some (.ref C44))) (b44 : PySem.W.findIn K (.ref C44) "name" = some none)
    {f45 : Addr} {oc45 kV45 dc45 pm45 cd45 ct45 : Value} {od45 an45 : Option Addr} {sl45 : Array (Option Value)} {C45 : Addr} (a45 : PySem.W.nsIn K mainGlobals "NoStep" = some (some (.ref C45))) (r45 : exTB K C45 [.type "IndexError", .type "LookupError", .type "Exception", .type "BaseException", .type "object"] "IndexError.__new__" = true) (s45 : PySem.W.findIn K (.ref C45) "__setattr__" = some (some (.builtin "object.__setattr__"))) (x45 : PySem.W.subIn K (.ref C45) (.type "BaseException") = some true) (y45 : PySem.W.typeIn K (.ref C45) = some (.type "type")) (z45 : PySem.W.keepIn K (.ref C45) = true) (b45 : PySem.W.findIn K (.ref C45) "__init__" = some (some (.ref f45))) (t45 : PySem.W.typeIn K (.ref f45) = some (.type "function")) (l45 : K.lookup f45 = some ⟨oc45, od45, .func (PySem.W.fnOf "__init__" "NoStep.__init__" (defArgs s_NoStep) (defBody s_NoStep) (defScope s_NoStep) .none kV45 dc45 pm45 an45 cd45 ct45), sl45⟩) (c45 : PySem.W.codeIn K cd45 "NoStep.__init__" = true) (k45 : PySem.W.keepIn K (.ref f45) = true)
    {C46 : Addr} (a46 : PySem.W.nsIn K mainGlobals "NoStep" = some (some (.ref C46))) (b46 : PySem.W.findIn K (.ref C46) "index" = some none)
    {f47 : Addr} {oc47 kV47 dc47 pm47 cd47 ct47 : Value} {od47 an47 : Option Addr} {sl47 : Array (Option Value)} {C47 : Addr} (a47 : PySem.W.nsIn K mainGlobals "NotStuck" = some (some (.ref C47))) (r47 : exTB K C47 [.type "ValueError", .type "Exception", .type "BaseException", .type "object"] "ValueError.__new__" = true) (s47 : PySem.W.findIn K (.ref C47) "__setattr__" = some (some (.builtin "object.__setattr__"))) (x47 : PySem.W.subIn K (.ref C47) (.type "BaseException") = some true) (y47 : PySem.W.typeIn K (.ref C47) = some (.type "type")) (z47 : PySem.W.keepIn K (.ref C47) = true) (b47 : PySem.W.findIn K (.ref C47) "__init__" = some (some (.ref f47))) (t47 : PySem.W.typeIn K (.ref f47) = some (.type "function")) (l47 : K.lookup f47 = some ⟨oc47, od47, .func (PySem.W.fnOf "__init__" "NotStuck.__init__" (defArgs s_NotStuck) (defBody s_NotStuck) (defScope s_NotStuck) .none kV47 dc47 pm47 an47 cd47 ct47), sl47⟩) (c47 : PySem.W.codeIn K cd47 "NotStuck.__init__" = true) (k47 : PySem.W.keepIn K (.ref f47) = true)
    {C48 : Addr} (a48 : PySem.W.nsIn K mainGlobals "NotStuck" = some (some (.ref C48))) (b48 : PySem.W.findIn K (.ref C48) "pair" = some none)
    {f49 : Addr} {oc49 kV49 dc49 pm49 cd49 ct49 : Value} {od49 an49 : Option Addr} {sl49 : Array (Option Value)} {C49 : Addr} (a49 : PySem.W.nsIn K mainGlobals "NothingToRedo" = some (some (.ref C49))) (r49 : exTB K C49 [.type "LookupError", .type "Exception", .type "BaseException", .type "object"] "LookupError.__new__" = true) (s49 : PySem.W.findIn K (.ref C49) "__setattr__" = some (some (.builtin "object.__setattr__"))) (x49 : PySem.W.subIn K (.ref C49) (.type "BaseException") = some true) (y49 : PySem.W.typeIn K (.ref C49) = some (.type "type")) (z49 : PySem.W.keepIn K (.ref C49) = true) (b49 : PySem.W.findIn K (.ref C49) "__init__" = some (some (.ref f49))) (t49 : PySem.W.typeIn K (.ref f49) = some (.type "function")) (l49 : K.lookup f49 = some ⟨oc49, od49, .func (PySem.W.fnOf "__init__" "NothingToRedo.__init__" (defArgs s_NothingToRedo) (defBody s_NothingToRedo) (defScope s_NothingToRedo) .none kV49 dc49 pm49 an49 cd49 ct49), sl49⟩) (c49 : PySem.W.codeIn K cd49 "NothingToRedo.__init__" = true) (k49 : PySem.W.keepIn K (.ref f49) = true)
    {C50 : Addr} (a50 : PySem.W.nsIn K mainGlobals "NothingToRedo" = some (some (.ref C50))) (b50 : PySem.W.findIn K (.ref C50) "count" = some none)
    {f51 : Addr} {oc51 kV51 dc51 pm51 cd51 ct51 : Value} {od51 an51 : Option Addr} {sl51 : Array (Option Value)} {C51 : Addr} (a51 : PySem.W.nsIn K mainGlobals "NothingToUndo" = some (some (.ref C51))) (r51 : exTB K C51 [.type "LookupError", .type "Exception", .type "BaseException", .type "object"] "LookupError.__new__" = true) (s51 : PySem.W.findIn K (.ref C51) "__setattr__" = some (some (.builtin "object.__setattr__"))) (x51 : PySem.W.subIn K (.ref C51) (.type "BaseException") = some true) (y51 : PySem.W.typeIn K (.ref C51) = some (.type "type")) (z51 : PySem.W.keepIn K (.ref C51) = true) (b51 : PySem.W.findIn K (.ref C51) "__init__" = some (some (.ref f51))) (t51 : PySem.W.typeIn K (.ref f51) = some (.type "function")) (l51 : K.lookup f51 = some ⟨oc51, od51, .func (PySem.W.fnOf "__init__" "NothingToUndo.__init__" (defArgs s_NothingToUndo) (defBody s_NothingToUndo) (defScope s_NothingToUndo) .none kV51 dc51 pm51 an51 cd51 ct51), sl51⟩) (c51 : PySem.W.codeIn K cd51 "NothingToUndo.__init__" = true) (k51 : PySem.W.keepIn K (.ref f51) = true)
    {C52 : Addr} (a52 : PySem.W.nsIn K mainGlobals "NothingToUndo" = some (some (.ref C52))) (b52 : PySem.W.findIn K (.ref C52) "count" = some none)
    {f53 : Addr} {oc53 kV53 dc53 pm53 cd53 ct53 : Value} {od53 an53 : Option Addr} {sl53 : Array (Option Value)} {C53 : Addr} (a53 : PySem.W.nsIn K mainGlobals "Ringed" = some (some (.ref C53))) (r53 : exTB K C53 [.type "ValueError", .type "Exception", .type "BaseException", .type "object"] "ValueError.__new__" = true) (s53 : PySem.W.findIn K (.ref C53) "__setattr__" = some (some (.builtin "object.__setattr__"))) (x53 : PySem.W.subIn K (.ref C53) (.type "BaseException") = some true) (y53 : PySem.W.typeIn K (.ref C53) = some (.type "type")) (z53 : PySem.W.keepIn K (.ref C53) = true) (b53 : PySem.W.findIn K (.ref C53) "__init__" = some (some (.ref f53))) (t53 : PySem.W.typeIn K (.ref f53) = some (.type "function")) (l53 : K.lookup f53 = some ⟨oc53, od53, .func (PySem.W.fnOf "__init__" "Ringed.__init__" (defArgs s_Ringed) (defBody s_Ringed) (defScope s_Ringed) .none kV53 dc53 pm53 an53 cd53 ct53), sl53⟩) (c53 : PySem.W.codeIn K cd53 "Ringed.__init__" = true) (k53 : PySem.W.keepIn K (.ref f53) = true)
    {C54 : Addr} (a54 : PySem.W.nsIn K mainGlobals "Ringed" = some (some (.ref C54))) (b54 : PySem.W.findIn K (.ref C54) "members" = some none)
    {f55 : Addr} {oc55 kV55 dc55 pm55 cd55 ct55 : Value} {od55 an55 : Option Addr} {sl55 : Array (Option Value)} {C55 : Addr} (a55 : PySem.W.nsIn K mainGlobals "SamePipe" = some (some (.ref C55))) (r55 : exTB K C55 [.type "ValueError", .type "Exception", .type "BaseException", .type "object"] "ValueError.__new__" = true) (s55 : PySem.W.findIn K (.ref C55) "__setattr__" = some (some (.builtin "object.__setattr__"))) (x55 : PySem.W.subIn K (.ref C55) (.type "BaseException") = some true) (y55 : PySem.W.typeIn K (.ref C55) = some (.type "type")) (z55 : PySem.W.keepIn K (.ref C55) = true) (b55 : PySem.W.findIn K (.ref C55) "__init__" = some (some (.ref f55))) (t55 : PySem.W.typeIn K (.ref f55) = some (.type "function")) (l55 : K.lookup f55 = some ⟨oc55, od55, .func (PySem.W.fnOf "__init__" "SamePipe.__init__" (defArgs s_SamePipe) (defBody s_SamePipe) (defScope s_SamePipe) .none kV55 dc55 pm55 an55 cd55 ct55), sl55⟩) (c55 : PySem.W.codeIn K cd55 "SamePipe.__init__" = true) (k55 : PySem.W.keepIn K (.ref f55) = true)
    {C56 : Addr} (a56 : PySem.W.nsIn K mainGlobals "SamePipe" = some (some (.ref C56))) (b56 : PySem.W.findIn K (.ref C56) "index" = some none)
    {f57 : Addr} {oc57 kV57 dc57 pm57 cd57 ct57 : Value} {od57 an57 : Option Addr} {sl57 : Array (Option Value)} {C57 : Addr} (a57 : PySem.W.nsIn K mainGlobals "Starved" = some (some (.ref C57))) (r57 : exTB K C57 [.type "ValueError", .type "Exception", .type "BaseException", .type "object"] "ValueError.__new__" = true) (s57 : PySem.W.findIn K (.ref C57) "__setattr__" = some (some (.builtin "object.__setattr__"))) (x57 : PySem.W.subIn K (.ref C57) (.type "BaseException") = some true) (y57 : PySem.W.typeIn K (.ref C57) = some (.type "type")) (z57 : PySem.W.keepIn K (.ref C57) = true) (b57 : PySem.W.findIn K (.ref C57) "__init__" = some (some (.ref f57))) (t57 : PySem.W.typeIn K (.ref f57) = some (.type "function")) (l57 : K.lookup f57 = some ⟨oc57, od57, .func (PySem.W.fnOf "__init__" "Starved.__init__" (defArgs s_Starved) (defBody s_Starved) (defScope s_Starved) .none kV57 dc57 pm57 an57 cd57 ct57), sl57⟩) (c57 : PySem.W.codeIn K cd57 "Starved.__init__" = true) (k57 : PySem.W.keepIn K (.ref f57) = true)
    {C58 : Addr} (a58 : PySem.W.nsIn K mainGlobals "Starved" = some (some (.ref C58))) (b58 : PySem.W.findIn K (.ref C58) "pair" = some none)
    {f59 : Addr} {oc59 kV59 dc59 pm59 cd59 ct59 : Value} {od59 an59 : Option Addr} {sl59 : Array (Option Value)} {C59 : Addr} (a59 : PySem.W.nsIn K mainGlobals "TooMany" = some (some (.ref C59))) (r59 : exTB K C59 [.type "OverflowError", .type "ArithmeticError", .type "Exception", .type "BaseException", .type "object"] "OverflowError.__new__" = true) (s59 : PySem.W.findIn K (.ref C59) "__setattr__" = some (some (.builtin "object.__setattr__"))) (x59 : PySem.W.subIn K (.ref C59) (.type "BaseException") = some true) (y59 : PySem.W.typeIn K (.ref C59) = some (.type "type")) (z59 : PySem.W.keepIn K (.ref C59) = true) (b59 : PySem.W.findIn K (.ref C59) "__init__" = some (some (.ref f59))) (t59 : PySem.W.typeIn K (.ref f59) = some (.type "function")) (l59 : K.lookup f59 = some ⟨oc59, od59, .func (PySem.W.fnOf "__init__" "TooMany.__init__" (defArgs s_TooMany) (defBody s_TooMany) (defScope s_TooMany) .none kV59 dc59 pm59 an59 cd59 ct59), sl59⟩) (c59 : PySem.W.codeIn K cd59 "TooMany.__init__" = true) (k59 : PySem.W.keepIn K (.ref f59) = true)
    {C60 : Addr} (a60 : PySem.W.nsIn K mainGlobals "TooMany" = some (some (.ref C60))) (b60 : PySem.W.findIn K (.ref C60) "most" = some none)
    {f61 : Addr} {oc61 kV61 dc61 pm61 cd61 ct61 : Value} {od61 an61 : Option Addr} {sl61 : Array (Option Value)} {C61 : Addr} (a61 : PySem.W.nsIn K mainGlobals "UnknownCommand" = some (some (.ref C61))) (r61 : exTB K C61 [.type "ValueError", .type "Exception", .type "BaseException", .type "object"] "ValueError.__new__" = true) (s61 : PySem.W.findIn K (.ref C61) "__setattr__" = some (some (.builtin "object.__setattr__"))) (x61 : PySem.W.subIn K (.ref C61) (.type "BaseException") = some true) (y61 : PySem.W.typeIn K (.ref C61) = some (.type "type")) (z61 : PySem.W.keepIn K (.ref C61) = true) (b61 : PySem.W.findIn K (.ref C61) "__init__" = some (some (.ref f61))) (t61 : PySem.W.typeIn K (.ref f61) = some (.type "function")) (l61 : K.lookup f61 = some ⟨oc61, od61, .func (PySem.W.fnOf "__init__" "UnknownCommand.__init__" (defArgs s_UnknownCommand) (defBody s_UnknownCommand) (defScope s_UnknownCommand) .none kV61 dc61 pm61 an61 cd61 ct61), sl61⟩) (c61 : PySem.W.codeIn K cd61 "UnknownCommand.__init__" = true) (k61 : PySem.W.keepIn K (.ref f61) = true)
    {C62 : Addr} (a62 : PySem.W.nsIn K mainGlobals "UnknownCommand" = some (some (.ref C62))) (b62 : PySem.W.findIn K (.ref C62) "command" = some none)
    (b63 : (errN.all fun c => clsB K c (excCB K)) = true)
    (b64 : isXoB K "CannotGo" tb_CannotGo = true)
    (b65 : isXB K (.type "IndexError") tb_IndexError = true)
    (b66 : isXoB K "InvalidDuo" tb_InvalidDuo = true)
    (b67 : isXoB K "InvalidDurations" tb_InvalidDurations = true)
    (b68 : isXoB K "InvalidEdit" tb_InvalidEdit = true)
    (b69 : isXoB K "InvalidGuide" tb_InvalidGuide = true)
    (b70 : isXoB K "InvalidLetter" tb_InvalidLetter = true)
    (b71 : isXoB K "InvalidLimit" tb_InvalidLimit = true)
    (b72 : isXoB K "InvalidProgram" tb_InvalidProgram = true)
    (b73 : isXoB K "InvalidRounds" tb_InvalidRounds = true)
    (b74 : isXoB K "InvalidSize" tb_InvalidSize = true)
    (b75 : isXoB K "InvalidTeam" tb_InvalidTeam = true)
    (b76 : isXoB K "InvalidTerms" tb_InvalidTerms = true)
    (b77 : isXoB K "InvalidText" tb_InvalidText = true)
    (b78 : isXoB K "InvalidTurn" tb_InvalidTurn = true)
    (b79 : isXB K (.type "KeyError") tb_KeyError = true)
    (b80 : isXB K (.type "LookupError") tb_LookupError = true)
    (b81 : isXoB K "NoMark" tb_NoMark = true)
    (b82 : isXoB K "NoPair" tb_NoPair = true)
    (b83 : isXoB K "NoPipe" tb_NoPipe = true)
    (b84 : isXoB K "NoStep" tb_NoStep = true)
    (b85 : isXoB K "NotStuck" tb_NotStuck = true)
    (b86 : isXoB K "NothingToRedo" tb_NothingToRedo = true)
    (b87 : isXoB K "NothingToUndo" tb_NothingToUndo = true)
    (b88 : isXB K (.type "OverflowError") tb_OverflowError = true)
    (b89 : isXoB K "Ringed" tb_Ringed = true)
    (b90 : isXB K (.type "RuntimeError") tb_RuntimeError = true)
    (b91 : isXoB K "SamePipe" tb_SamePipe = true)
    (b92 : isXoB K "Starved" tb_Starved = true)
    {C93 : Addr} (a93 : PySem.W.nsIn K mainGlobals "TallyError" = some (some (.ref C93)))
    (b94 : isXoB K "TallyError" tb_TallyError = true)
    (b95 : isXoB K "TooMany" tb_TooMany = true)
    (b96 : isXoB K "UnknownCommand" tb_UnknownCommand = true)
    (b97 : isXB K (.type "ValueError") tb_ValueError = true)
    (b98 : (fl_command.all fun c => clsB K c fun C => PySem.W.findIn K (.ref C) "command" == some none) = true)
    (b99 : (fl_count.all fun c => clsB K c fun C => PySem.W.findIn K (.ref C) "count" == some none) = true)
    (b100 : (fl_index.all fun c => clsB K c fun C => PySem.W.findIn K (.ref C) "index" == some none) = true)
    (b101 : (fl_letter.all fun c => clsB K c fun C => PySem.W.findIn K (.ref C) "letter" == some none) = true)
    (b102 : (fl_line.all fun c => clsB K c fun C => PySem.W.findIn K (.ref C) "line" == some none) = true)
    (b103 : (fl_members.all fun c => clsB K c fun C => PySem.W.findIn K (.ref C) "members" == some none) = true)
    (b104 : (fl_most.all fun c => clsB K c fun C => PySem.W.findIn K (.ref C) "most" == some none) = true)
    (b105 : (fl_name.all fun c => clsB K c fun C => PySem.W.findIn K (.ref C) "name" == some none) = true)
    (b106 : (fl_number.all fun c => clsB K c fun C => PySem.W.findIn K (.ref C) "number" == some none) = true)
    (b107 : (fl_pair.all fun c => clsB K c fun C => PySem.W.findIn K (.ref C) "pair" == some none) = true)
    (b108 : (fl_pipe.all fun c => clsB K c fun C => PySem.W.findIn K (.ref C) "pipe" == some none) = true)
    (b109 : (fl_who.all fun c => clsB K c fun C => PySem.W.findIn K (.ref C) "who" == some none) = true)
    (b110 : (fl_word.all fun c => clsB K c fun C => PySem.W.findIn K (.ref C) "word" == some none) = true)
    (a111 : PySem.W.nsIn K mainGlobals "IndexError" = some none)
    (a112 : PySem.W.nsIn K mainGlobals "KeyError" = some none)
    (a113 : PySem.W.nsIn K mainGlobals "LookupError" = some none)
    (a114 : PySem.W.nsIn K mainGlobals "OverflowError" = some none)
    (a115 : PySem.W.nsIn K mainGlobals "RuntimeError" = some none)
    (a116 : PySem.W.nsIn K mainGlobals "ValueError" = some none)
    (a117 : PySem.W.nsIn K mainGlobals "abs" = some none)
    (a118 : PySem.W.nsIn K mainGlobals "int" = some none)
    (a119 : PySem.W.nsIn K mainGlobals "isinstance" = some none)
    (a120 : PySem.W.nsIn K mainGlobals "len" = some none)
    (a121 : PySem.W.nsIn K mainGlobals "list" = some none)
    (a122 : PySem.W.nsIn K mainGlobals "range" = some none)
    (a123 : PySem.W.nsIn K mainGlobals "repr" = some none)
    : ∃ fd : FuncData, (∀ (s : Shared) (u : Value), K.In s.heap → BindsTo s fd ⟨[u], []⟩ [("_law_script", u)]) ∧ FnG P w K mg base CX0 4 fa fd ["_law_script"] (SpP (gOf K plT) f_law) :=
  (all_mk (txt_mk X G a1 l1 c1 k1 a2 l2 c2 k2 a3 l3 c3 k3 a4 l4 c4 k4 a5 l5 c5 k5 a6 l6 c6 k6 a7 l7 c7 k7 a8 l8 c8 k8 a9 l9 c9 k9 a10 r10 s10 x10 y10 z10 b10 t10 l10 c10 k10 a11 b11 a12 r12 s12 x12 y12 z12 b12 t12 l12 c12 k12 a13 b13 a14 r14 s14 x14 y14 z14 b14 t14 l14 c14 k14 a15 b15 a16 r16 s16 x16 y16 z16 b16 t16 l16 c16 k16 a17 b17 a18 r18 s18 x18 y18 z18 b18 t18 l18 c18 k18 a19 b19 a20 r20 s20 x20 y20 z20 b20 t20 l20 c20 k20 a21 b21 a22 r22 s22 x22 y22 z22 b22 t22 l22 c22 k22 a23 b23 a24 r24 s24 x24 y24 z24 b24 t24 l24 c24 k24 a25 b25 a26 r26 s26 x26 y26 z26 b26 t26 l26 c26 k26 a27 b27 a28 r28 s28 x28 y28 z28 b28 t28 l28 c28 k28 a29 b29 a30 r30 s30 x30 y30 z30 b30 t30 l30 c30 k30 a31 b31 a32 r32 s32 x32 y32 z32 b32 t32 l32 c32 k32 a33 b33 a34 r34 s34 x34 y34 z34 b34 t34 l34 c34 k34 a35 b35 a36 b36 a37 r37 s37 x37 y37 z37 b37 t37 l37 c37 k37 a38 b38 a39 r39 s39 x39 y39 z39 b39 t39 l39 c39 k39 a40 b40 a41 r41 s41 x41 y41 z41 b41 t41 l41 c41 k41 a42 b42 a43 r43 s43 x43 y43 z43 b43 t43 l43 c43 k43 a44 b44 a45 r45 s45 x45 y45 z45 b45 t45 l45 c45 k45 a46 b46 a47 r47 s47 x47 y47 z47 b47 t47 l47 c47 k47 a48 b48 a49 r49 s49 x49 y49 z49 b49 t49 l49 c49 k49 a50 b50 a51 r51 s51 x51 y51 z51 b51 t51 l51 c51 k51 a52 b52 a53 r53 s53 x53 y53 z53 b53 t53 l53 c53 k53 a54 b54 a55 r55 s55 x55 y55 z55 b55 t55 l55 c55 k55 a56 b56 a57 r57 s57 x57 y57 z57 b57 t57 l57 c57 k57 a58 b58 a59 r59 s59 x59 y59 z59 b59 t59 l59 c59 k59 a60 b60 a61 r61 s61 x61 y61 z61 b61 t61 l61 c61 k61 a62 b62 b63 b64 b65 b66 b67 b68 b69 b70 b71 b72 b73 b74 b75 b76 b77 b78 b79 b80 b81 b82 b83 b84 b85 b86 b87 b88 b89 b90 b91 b92 a93 b94 b95 b96 b97 b98 b99 b100 b101 b102 b103 b104 b105 b106 b107 b108 b109 b110 a111 a112 a113 a114 a115 a116 a117 a118 a119 a120 a121 a122 a123) hs).law hmg
end W08
/-- the program's text stands for itself where the head asks for a twin of it: a shorter compiled file -/
noncomputable def PySem.W.Fast.tw2618458415804706625 : PySem.Program := PySem.Challenge.pw_jamtally_k08_errors_of_all_classes
theorem PySem.W.Fast.te2618458415804706625 : PySem.Challenge.pw_jamtally_k08_errors_of_all_classes = PySem.W.Fast.tw2618458415804706625 := rfl

open PySem PySem.W PyProof.Rows in
set_option maxRecDepth 100000 in
set_option maxHeartbeats 0 in
theorem PySem.Challenge.cw_jamtally_k08_errors_of_all_classes_holds : PySem.Challenge.rw_jamtally_k08_errors_of_all_classes.Holds := by
  w_on; o_law; k_head; (case hw => w_witness2)
  k_fill
  refine Eo.walkG (l := PySem.Challenge.rw_jamtally_k08_errors_of_all_classes) (n := 63) (k := 4) (x := "_law_script") (sp := fun K => Eo.SpP (Eo.gOf K W08.plT) W08.f_law) rfl (by decide) rfl ⟨rfl, by decide, by decide⟩ rfl (fun w h Y => PySem.W.kIn_of Y) ?F (fun K H a ns _ hS => Eo.law_sp (W08.law_true ns) hS (ht := Eo.tabs_nil rfl))
  case F =>
    intro w mg fa h KX G hmg base hb hn hs
    refine' W08.fin_mk KX G hmg hs ?a1 ?l1 ?c1 ?k1 ?a2 ?l2 ?c2 ?k2 ?a3 ?l3 ?c3 ?k3 ?a4 ?l4 ?c4 ?k4 ?a5 ?l5 ?c5 ?k5 ?a6 ?l6 ?c6 ?k6 ?a7 ?l7 ?c7 ?k7 ?a8 ?l8 ?c8 ?k8 ?a9 ?l9 ?c9 ?k9 ?a10 ?r10 ?s10 ?x10 ?y10 ?z10 ?b10 ?t10 ?l10 ?c10 ?k10 ?a11 ?b11 ?a12 ?r12 ?s12 ?x12 ?y12 ?z12 ?b12 ?t12 ?l12 ?c12 ?k12 ?a13 ?b13 ?a14 ?r14 ?s14 ?x14 ?y14 ?z14 ?b14 ?t14 ?l14 ?c14 ?k14 ?a15 ?b15 ?a16 ?r16 ?s16 ?x16 ?y16 ?z16 ?b16 ?t16 ?l16 ?c16 ?k16 ?a17 ?b17 ?a18 ?r18 ?s18 ?x18 ?y18 ?z18 ?b18 ?t18 ?l18 ?c18 ?k18 ?a19 ?b19 ?a20 ?r20 ?s20 ?x20 ?y20 ?z20 ?b20 ?t20 ?l20 ?c20 ?k20 ?a21 ?b21 ?a22 ?r22 ?s22 ?x22 ?y22 ?z22 ?b22 ?t22 ?l22 ?c22 ?k22 ?a23 ?b23 ?a24 ?r24 ?s24 ?x24 ?y24 ?z24 ?b24 ?t24 ?l24 ?c24 ?k24 ?a25 ?b25 ?a26 ?r26 ?s26 ?x26 ?y26 ?z26 ?b26 ?t26 ?l26 ?c26 ?k26 ?a27 ?b27 ?a28 ?r28 ?s28 ?x28 ?y28 ?z28 ?b28 ?t28 ?l28 ?c28 ?k28 ?a29 ?b29 ?a30 ?r30 ?s30 ?x30 ?y30 ?z30 ?b30 ?t30 ?l30 ?c30 ?k30 ?a31 ?b31 ?a32 ?r32 ?s32 ?x32 ?y32 ?z32 ?b32 ?t32 ?l32 ?c32 ?k32 ?a33 ?b33 ?a34 ?r34 ?s34 ?x34 ?y34 ?z34 ?b34 ?t34 ?l34 ?c34 ?k34 ?a35 ?b35 ?a36 ?b36 ?a37 ?r37 ?s37 ?x37 ?y37 ?z37 ?b37 ?t37 ?l37 ?c37 ?k37 ?a38 ?b38 ?a39 ?r39 ?s39 ?x39 ?y39 ?z39 ?b39 ?t39 ?l39 ?c39 ?k39 ?a40 ?b40 ?a41 ?r41 ?s41 ?x41 ?y41 ?z41 ?b41 ?t41 ?l41 ?c41 ?k41 ?a42 ?b42 ?a43 ?r43 ?s43 ?x43 ?y43 ?z43 ?b43 ?t43 ?l43 ?c43 ?k43 ?a44 ?b44 ?a45 ?r45 ?s45 ?x45 ?y45 ?z45 ?b45 ?t45 ?l45 ?c45 ?k45 ?a46 ?b46 ?a47 ?r47 ?s47 ?x47 ?y47 ?z47 ?b47 ?t47 ?l47 ?c47 ?k47 ?a48 ?b48 ?a49 ?r49 ?s49 ?x49 ?y49 ?z49 ?b49 ?t49 ?l49 ?c49 ?k49 ?a50 ?b50 ?a51 ?r51 ?s51 ?x51 ?y51 ?z51 ?b51 ?t51 ?l51 ?c51 ?k51 ?a52 ?b52 ?a53 ?r53 ?s53 ?x53 ?y53 ?z53 ?b53 ?t53 ?l53 ?c53 ?k53 ?a54 ?b54 ?a55 ?r55 ?s55 ?x55 ?y55 ?z55 ?b55 ?t55 ?l55 ?c55 ?k55 ?a56 ?b56 ?a57 ?r57 ?s57 ?x57 ?y57 ?z57 ?b57 ?t57 ?l57 ?c57 ?k57 ?a58 ?b58 ?a59 ?r59 ?s59 ?x59 ?y59 ?z59 ?b59 ?t59 ?l59 ?c59 ?k59 ?a60 ?b60 ?a61 ?r61 ?s61 ?x61 ?y61 ?z61 ?b61 ?t61 ?l61 ?c61 ?k61 ?a62 ?b62 ?b63 ?b64 ?b65 ?b66 ?b67 ?b68 ?b69 ?b70 ?b71 ?b72 ?b73 ?b74 ?b75 ?b76 ?b77 ?b78 ?b79 ?b80 ?b81 ?b82 ?b83 ?b84 ?b85 ?b86 ?b87 ?b88 ?b89 ?b90 ?b91 ?b92 ?a93 ?b94 ?b95 ?b96 ?b97 ?b98 ?b99 ?b100 ?b101 ?b102 ?b103 ?b104 ?b105 ?b106 ?b107 ?b108 ?b109 ?b110 ?a111 ?a112 ?a113 ?a114 ?a115 ?a116 ?a117 ?a118 ?a119 ?a120 ?a121 ?a122 ?a123
    (case a1 => k_is)
    (case l1 => k_is)
    (case c1 => k_is)
    (case k1 => k_is)
    (case a2 => k_is)
    (case l2 => k_is)
    (case c2 => k_is)
    (case k2 => k_is)
    (case a3 => k_is)
    (case l3 => k_is)
    (case c3 => k_is)
    (case k3 => k_is)
    (case a4 => k_is)
    (case l4 => k_is)
    (case c4 => k_is)
    (case k4 => k_is)
    (case a5 => k_is)
    (case l5 => k_is)
    (case c5 => k_is)
    (case k5 => k_is)
    (case a6 => k_is)
    (case l6 => k_is)
    (case c6 => k_is)
    (case k6 => k_is)
    (case a7 => k_is)
    (case l7 => k_is)
    (case c7 => k_is)
    (case k7 => k_is)
    (case a8 => k_is)
    (case l8 => k_is)
    (case c8 => k_is)
    (case k8 => k_is)
    (case a9 => k_is)
    (case l9 => k_is)
    (case c9 => k_is)
    (case k9 => k_is)
    (case a10 => k_is)
    (case r10 => kernel_rfl)
    (case s10 => k_is)
    (case x10 => k_is)
    (case y10 => k_is)
    (case z10 => k_is)
    (case b10 => k_is)
    (case t10 => k_is)
    (case l10 => k_is)
    (case c10 => k_is)
    (case k10 => k_is)
    (case a11 => k_is)
    (case b11 => k_is)
    (case a12 => k_is)
    (case r12 => kernel_rfl)
    (case s12 => k_is)
    (case x12 => k_is)
    (case y12 => k_is)
    (case z12 => k_is)
    (case b12 => k_is)
    (case t12 => k_is)
    (case l12 => k_is)
    (case c12 => k_is)
    (case k12 => k_is)
    (case a13 => k_is)
    (case b13 => k_is)
    (case a14 => k_is)
    (case r14 => kernel_rfl)
    (case s14 => k_is)
    (case x14 => k_is)
    (case y14 => k_is)
    (case z14 => k_is)
    (case b14 => k_is)
    (case t14 => k_is)
    (case l14 => k_is)
    (case c14 => k_is)
    (case k14 => k_is)
    (case a15 => k_is)
    (case b15 => k_is)
    (case a16 => k_is)
    (case r16 => kernel_rfl)
    (case s16 => k_is)
    (case x16 => k_is)
    (case y16 => k_is)
    (case z16 => k_is)
    (case b16 => k_is)
    (case t16 => k_is)
    (case l16 => k_is)
    (case c16 => k_is)
    (case k16 => k_is)
    (case a17 => k_is)
    (case b17 => k_is)
    (case a18 => k_is)
    (case r18 => kernel_rfl)
    (case s18 => k_is)
    (case x18 => k_is)
    (case y18 => k_is)
    (case z18 => k_is)
    (case b18 => k_is)
    (case t18 => k_is)
    (case l18 => k_is)
    (case c18 => k_is)
    (case k18 => k_is)
    (case a19 => k_is)
    (case b19 => k_is)
    (case a20 => k_is)
    (case r20 => kernel_rfl)
    (case s20 => k_is)
    (case x20 => k_is)
    (case y20 => k_is)
    (case z20 => k_is)
    (case b20 => k_is)
    (case t20 => k_is)
    (case l20 => k_is)
    (case c20 => k_is)
    (case k20 => k_is)
    (case a21 => k_is)
    (case b21 => k_is)
    (case a22 => k_is)
    (case r22 => kernel_rfl)
    (case s22 => k_is)
    (case x22 => k_is)
    (case y22 => k_is)
    (case z22 => k_is)
    (case b22 => k_is)
    (case t22 => k_is)
    (case l22 => k_is)
    (case c22 => k_is)
    (case k22 => k_is)
    (case a23 => k_is)
    (case b23 => k_is)
    (case a24 => k_is)
    (case r24 => kernel_rfl)
    (case s24 => k_is)
    (case x24 => k_is)
    (case y24 => k_is)
    (case z24 => k_is)
    (case b24 => k_is)
    (case t24 => k_is)
    (case l24 => k_is)
    (case c24 => k_is)
    (case k24 => k_is)
    (case a25 => k_is)
    (case b25 => k_is)
    (case a26 => k_is)
    (case r26 => kernel_rfl)
    (case s26 => k_is)
    (case x26 => k_is)
    (case y26 => k_is)
    (case z26 => k_is)
    (case b26 => k_is)
    (case t26 => k_is)
    (case l26 => k_is)
    (case c26 => k_is)
    (case k26 => k_is)
    (case a27 => k_is)
    (case b27 => k_is)
    (case a28 => k_is)
    (case r28 => kernel_rfl)
    (case s28 => k_is)
    (case x28 => k_is)
    (case y28 => k_is)
    (case z28 => k_is)
    (case b28 => k_is)
    (case t28 => k_is)
    (case l28 => k_is)
    (case c28 => k_is)
    (case k28 => k_is)
    (case a29 => k_is)
    (case b29 => k_is)
    (case a30 => k_is)
    (case r30 => kernel_rfl)
    (case s30 => k_is)
    (case x30 => k_is)
    (case y30 => k_is)
    (case z30 => k_is)
    (case b30 => k_is)
    (case t30 => k_is)
    (case l30 => k_is)
    (case c30 => k_is)
    (case k30 => k_is)
    (case a31 => k_is)
    (case b31 => k_is)
    (case a32 => k_is)
    (case r32 => kernel_rfl)
    (case s32 => k_is)
    (case x32 => k_is)
    (case y32 => k_is)
    (case z32 => k_is)
    (case b32 => k_is)
    (case t32 => k_is)
    (case l32 => k_is)
    (case c32 => k_is)
    (case k32 => k_is)
    (case a33 => k_is)
    (case b33 => k_is)
    (case a34 => k_is)
    (case r34 => kernel_rfl)
    (case s34 => k_is)
    (case x34 => k_is)
    (case y34 => k_is)
    (case z34 => k_is)
    (case b34 => k_is)
    (case t34 => k_is)
    (case l34 => k_is)
    (case c34 => k_is)
    (case k34 => k_is)
    (case a35 => k_is)
    (case b35 => k_is)
    (case a36 => k_is)
    (case b36 => k_is)
    (case a37 => k_is)
    (case r37 => kernel_rfl)
    (case s37 => k_is)
    (case x37 => k_is)
    (case y37 => k_is)
    (case z37 => k_is)
    (case b37 => k_is)
    (case t37 => k_is)
    (case l37 => k_is)
    (case c37 => k_is)
    (case k37 => k_is)
    (case a38 => k_is)
    (case b38 => k_is)
    (case a39 => k_is)
    (case r39 => kernel_rfl)
    (case s39 => k_is)
    (case x39 => k_is)
    (case y39 => k_is)
    (case z39 => k_is)
    (case b39 => k_is)
    (case t39 => k_is)
    (case l39 => k_is)
    (case c39 => k_is)
    (case k39 => k_is)
    (case a40 => k_is)
    (case b40 => k_is)
    (case a41 => k_is)
    (case r41 => kernel_rfl)
    (case s41 => k_is)
    (case x41 => k_is)
    (case y41 => k_is)
    (case z41 => k_is)
    (case b41 => k_is)
    (case t41 => k_is)
    (case l41 => k_is)
    (case c41 => k_is)
    (case k41 => k_is)
    (case a42 => k_is)
    (case b42 => k_is)
    (case a43 => k_is)
    (case r43 => kernel_rfl)
    (case s43 => k_is)
    (case x43 => k_is)
    (case y43 => k_is)
    (case z43 => k_is)
    (case b43 => k_is)
    (case t43 => k_is)
    (case l43 => k_is)
    (case c43 => k_is)
    (case k43 => k_is)
    (case a44 => k_is)
    (case b44 => k_is)
    (case a45 => k_is)
    (case r45 => kernel_rfl)
    (case s45 => k_is)
    (case x45 => k_is)
    (case y45 => k_is)
    (case z45 => k_is)
    (case b45 => k_is)
    (case t45 => k_is)
    (case l45 => k_is)
    (case c45 => k_is)
    (case k45 => k_is)
    (case a46 => k_is)
    (case b46 => k_is)
    (case a47 => k_is)
    (case r47 => kernel_rfl)
    (case s47 => k_is)
    (case x47 => k_is)
    (case y47 => k_is)
    (case z47 => k_is)
    (case b47 => k_is)
    (case t47 => k_is)
    (case l47 => k_is)
    (case c47 => k_is)
    (case k47 => k_is)
    (case a48 => k_is)
    (case b48 => k_is)
    (case a49 => k_is)
    (case r49 => kernel_rfl)
    (case s49 => k_is)
    (case x49 => k_is)
    (case y49 => k_is)
    (case z49 => k_is)
    (case b49 => k_is)
    (case t49 => k_is)
    (case l49 => k_is)
    (case c49 => k_is)
    (case k49 => k_is)
    (case a50 => k_is)
    (case b50 => k_is)
    (case a51 => k_is)
    (case r51 => kernel_rfl)
    (case s51 => k_is)
    (case x51 => k_is)
    (case y51 => k_is)
    (case z51 => k_is)
    (case b51 => k_is)
    (case t51 => k_is)
    (case l51 => k_is)
    (case c51 => k_is)
    (case k51 => k_is)
    (case a52 => k_is)
    (case b52 => k_is)
    (case a53 => k_is)
    (case r53 => kernel_rfl)
    (case s53 => k_is)
    (case x53 => k_is)
    (case y53 => k_is)
    (case z53 => k_is)
    (case b53 => k_is)
    (case t53 => k_is)
    (case l53 => k_is)
    (case c53 => k_is)
    (case k53 => k_is)
    (case a54 => k_is)
    (case b54 => k_is)
    (case a55 => k_is)
    (case r55 => kernel_rfl)
    (case s55 => k_is)
    (case x55 => k_is)
    (case y55 => k_is)
    (case z55 => k_is)
    (case b55 => k_is)
    (case t55 => k_is)
    (case l55 => k_is)
    (case c55 => k_is)
    (case k55 => k_is)
    (case a56 => k_is)
    (case b56 => k_is)
    (case a57 => k_is)
    (case r57 => kernel_rfl)
    (case s57 => k_is)
    (case x57 => k_is)
    (case y57 => k_is)
    (case z57 => k_is)
    (case b57 => k_is)
    (case t57 => k_is)
    (case l57 => k_is)
    (case c57 => k_is)
    (case k57 => k_is)
    (case a58 => k_is)
    (case b58 => k_is)
    (case a59 => k_is)
    (case r59 => kernel_rfl)
    (case s59 => k_is)
    (case x59 => k_is)
    (case y59 => k_is)
    (case z59 => k_is)
    (case b59 => k_is)
    (case t59 => k_is)
    (case l59 => k_is)
    (case c59 => k_is)
    (case k59 => k_is)
    (case a60 => k_is)
    (case b60 => k_is)
    (case a61 => k_is)
    (case r61 => kernel_rfl)
    (case s61 => k_is)
    (case x61 => k_is)
    (case y61 => k_is)
    (case z61 => k_is)
    (case b61 => k_is)
    (case t61 => k_is)
    (case l61 => k_is)
    (case c61 => k_is)
    (case k61 => k_is)
    (case a62 => k_is)
    (case b62 => k_is)
    (case b63 => kernel_rfl)
    (case b64 => kernel_rfl)
    (case b65 => kernel_rfl)
    (case b66 => kernel_rfl)
    (case b67 => kernel_rfl)
    (case b68 => kernel_rfl)
    (case b69 => kernel_rfl)
    (case b70 => kernel_rfl)
    (case b71 => kernel_rfl)
    (case b72 => kernel_rfl)
    (case b73 => kernel_rfl)
    (case b74 => kernel_rfl)
    (case b75 => kernel_rfl)
    (case b76 => kernel_rfl)
    (case b77 => kernel_rfl)
    (case b78 => kernel_rfl)
    (case b79 => kernel_rfl)
    (case b80 => kernel_rfl)
    (case b81 => kernel_rfl)
    (case b82 => kernel_rfl)
    (case b83 => kernel_rfl)
    (case b84 => kernel_rfl)
    (case b85 => kernel_rfl)
    (case b86 => kernel_rfl)
    (case b87 => kernel_rfl)
    (case b88 => kernel_rfl)
    (case b89 => kernel_rfl)
    (case b90 => kernel_rfl)
    (case b91 => kernel_rfl)
    (case b92 => kernel_rfl)
    (case a93 => k_is)
    (case b94 => kernel_rfl)
    (case b95 => kernel_rfl)
    (case b96 => kernel_rfl)
    (case b97 => kernel_rfl)
    (case b98 => kernel_rfl)
    (case b99 => kernel_rfl)
    (case b100 => kernel_rfl)
    (case b101 => kernel_rfl)
    (case b102 => kernel_rfl)
    (case b103 => kernel_rfl)
    (case b104 => kernel_rfl)
    (case b105 => kernel_rfl)
    (case b106 => kernel_rfl)
    (case b107 => kernel_rfl)
    (case b108 => kernel_rfl)
    (case b109 => kernel_rfl)
    (case b110 => kernel_rfl)
    (case a111 => k_is)
    (case a112 => k_is)
    (case a113 => k_is)
    (case a114 => k_is)
    (case a115 => k_is)
    (case a116 => k_is)
    (case a117 => k_is)
    (case a118 => k_is)
    (case a119 => k_is)
    (case a120 => k_is)
    (case a121 => k_is)
    (case a122 => k_is)
    (case a123 => k_is)

