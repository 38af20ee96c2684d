import PyProof.Rows.All
import Wide.All
import OpenK.AllK
import Wide.FinOn
import HandS.ForMost
import HandS.Deep
import HandS.Conv
import HandS.Wide
import KE.SortData
import KE.SortLaws
import HandS.More
import HandS.RevTup
import HandS.IsInst
import PySem.Challenge.RW_retroact_k51_forms_and_intervals
set_option Elab.async false
set_option linter.all false
set_option maxRecDepth 100000
set_option maxHeartbeats 4000000
/-! DL: readings over data, without the heap. Part a: data, what stands for it, worlds. -/
namespace DL
open PySem PySem.Spec PyProof.Rows L2

abbrev Frg := PySem.W.Frag
abbrev Sg := L2.St
/-- data -/
inductive D where
  | non | bl (b : Bool) | int (i : Int) | str (x : Str)
  | tup (ds : List D) | lst (ds : List D)
  | dic (ks : List Key) (ds : List D) | obj (C : Addr) (ns : List Str) (ds : List D)
  | scr (ds : List D)
  deriving Inhabited

/-- a list that stays as it is -/
def LsR (Z : Addr → Prop) (H : Hp) (a : Addr) (vs : List V) : Prop := (Z a ∧ H a = some (.lst vs)) ∨ ∃ o, H a = some (.frz o (.lst vs))
/-- .., it may be an object of the written part (the script) -/
def LsS (K : Frg) (Z : Addr → Prop) (H : Hp) (a : Addr) (vs : List V) : Prop := LsR Z H a vs ∨
    ∃ (o : Obj) (its : Array Value) (n : Nat), K.lookup a = some o ∧ o.cls = .type "list" ∧ o.dict = none ∧ o.data = .seq its n ∧ its.size ≤ sizeLine ∧ Vals vs its.toList
theorem LsR.rd {Z : Addr → Prop} {H : Hp} {a : Addr} {vs : List V} (h : LsR Z H a vs) : Rd H a (.lst vs) := by
  rcases h with ⟨_, h⟩ | ⟨o, h⟩
  · exact .inl h
  · exact .inr ⟨o, h⟩
theorem LsR.sq {K : Frg} {Z : Addr → Prop} {H : Hp} {a : Addr} {vs : List V} (h : LsR Z H a vs) : SqL K H a vs := .inl h.rd
theorem LsS.sq {K : Frg} {Z : Addr → Prop} {H : Hp} {a : Addr} {vs : List V} (h : LsS K Z H a vs) : SqL K H a vs := by
  rcases h with h | h
  · exact h.sq
  · exact .inr h

mutual
inductive Rep (K : Frg) (Z : Addr → Prop) (H : Hp) : V → D → Prop
  | non : Rep K Z H .non .non
  | bl (b : Bool) : Rep K Z H (.bl b) (.bl b)
  | int (i : Int) : Rep K Z H (.int i) (.int i)
  | str (x : Str) : Rep K Z H (.str x) (.str x)
  | tup {a : Addr} {vs : List V} {ds : List D} : SqT K H a vs → Reps K Z H vs ds → Rep K Z H (.ref a) (.tup ds)
  | lst {a : Addr} {vs : List V} {ds : List D} : LsR Z H a vs → Reps K Z H vs ds → Rep K Z H (.ref a) (.lst ds)
  | scr {a : Addr} {vs : List V} {ds : List D} : LsS K Z H a vs → Reps K Z H vs ds → Rep K Z H (.ref a) (.scr ds)
  | dic {a : Addr} {kvs : List (Key × V)} {ks : List Key} {ds : List D} : Z a → H a = some (.dK kvs) → kvs.map (·.1) = ks → Reps K Z H (kvs.map (·.2)) ds → Rep K Z H (.ref a) (.dic ks ds)
  | obj {a C dx : Addr} {fs : List (Str × V)} {ns : List Str} {ds : List D} : Z a → H a = some (.ins C dx fs) → fs.map (·.1) = ns → Reps K Z H (fs.map (·.2)) ds → Rep K Z H (.ref a) (.obj C ns ds)
inductive Reps (K : Frg) (Z : Addr → Prop) (H : Hp) : List V → List D → Prop
  | nil : Reps K Z H [] []
  | cons {v : V} {vs : List V} {d : D} {ds : List D} : Rep K Z H v d → Reps K Z H vs ds → Reps K Z H (v :: vs) (d :: ds)
end

/-- the world goes on: what is frozen stays, tuples stay -/
structure Stp (Z : Addr → Prop) (H : Hp) (Z' : Addr → Prop) (H' : Hp) : Prop where
  zz : ∀ a, Z a → Z' a
  ke : ∀ a, Z a → H' a = H a
  tu : ∀ a xs, H a = some (.tup xs) → H' a = some (.tup xs)
  fz : ∀ a o u, H a = some (.frz o u) → H' a = some (.frz o u)
theorem Stp.refl (Z : Addr → Prop) (H : Hp) : Stp Z H Z H := ⟨fun _ h => h, fun _ _ => rfl, fun _ _ h => h, fun _ _ _ h => h⟩
theorem Stp.trans {Z1 Z2 Z3 : Addr → Prop} {H1 H2 H3 : Hp} (a : Stp Z1 H1 Z2 H2) (b : Stp Z2 H2 Z3 H3) : Stp Z1 H1 Z3 H3 :=
  ⟨fun x h => b.zz x (a.zz x h), fun x h => (b.ke x (a.zz x h)).trans (a.ke x h), fun x xs h => b.tu x xs (a.tu x xs h), fun x o u h => b.fz x o u (a.fz x o u h)⟩

section
variable {K : Frg} {Z Z' : Addr → Prop} {H H' : Hp}
theorem LsR.mono (st : Stp Z H Z' H') {a : Addr} {vs : List V} (h : LsR Z H a vs) : LsR Z' H' a vs := by
  rcases h with ⟨z, h⟩ | ⟨o, h⟩
  · exact .inl ⟨st.zz a z, (st.ke a z).trans h⟩
  · exact .inr ⟨o, st.fz _ _ _ h⟩
theorem LsS.mono (st : Stp Z H Z' H') {a : Addr} {vs : List V} (h : LsS K Z H a vs) : LsS K Z' H' a vs := by
  rcases h with h | h
  · exact .inl (h.mono st)
  · exact .inr h
theorem sqT_mono (st : Stp Z H Z' H') {a : Addr} {vs : List V} (h : SqT K H a vs) : SqT K H' a vs := by
  rcases h with (h | ⟨o, h⟩) | h
  · exact .inl (.inl (st.tu _ _ h))
  · exact .inl (.inr ⟨o, st.fz _ _ _ h⟩)
  · exact .inr h
mutual
theorem Rep.mono (st : Stp Z H Z' H') : ∀ {v : V} {d : D}, Rep K Z H v d → Rep K Z' H' v d
  | _, _, .non => .non
  | _, _, .bl b => .bl b
  | _, _, .int i => .int i
  | _, _, .str x => .str x
  | _, _, .tup h hs => .tup (sqT_mono st h) (Reps.mono st hs)
  | _, _, .lst h hs => .lst (h.mono st) (Reps.mono st hs)
  | _, _, .scr h hs => .scr (h.mono st) (Reps.mono st hs)
  | _, _, .dic z h e hs => .dic (st.zz _ z) ((st.ke _ z).trans h) e (Reps.mono st hs)
  | _, _, .obj z h e hs => .obj (st.zz _ z) ((st.ke _ z).trans h) e (Reps.mono st hs)
theorem Reps.mono (st : Stp Z H Z' H') : ∀ {vs : List V} {ds : List D}, Reps K Z H vs ds → Reps K Z' H' vs ds
  | _, _, .nil => .nil
  | _, _, .cons h hs => .cons (Rep.mono st h) (Reps.mono st hs)
end
theorem Reps.length : ∀ {vs : List V} {ds : List D}, Reps K Z H vs ds → vs.length = ds.length
  | _, _, .nil => rfl
  | _, _, .cons _ hs => by rw [List.length_cons, List.length_cons, Reps.length hs]
theorem Reps.get : ∀ {vs : List V} {ds : List D} {i : Nat} {d : D}, Reps K Z H vs ds → ds[i]? = some d → ∃ v, vs[i]? = some v ∧ Rep K Z H v d
  | _, _, _, _, .nil, e => by simp at e
  | _, _, 0, _, .cons h _, e => by simp at e; subst e; exact ⟨_, rfl, h⟩
  | _, _, i + 1, _, .cons _ hs, e => by
    obtain ⟨v, e1, e2⟩ := Reps.get (i := i) hs (by simpa using e)
    exact ⟨v, by simpa using e1, e2⟩
theorem Reps.getv : ∀ {vs : List V} {ds : List D} {i : Nat} {v : V}, Reps K Z H vs ds → vs[i]? = some v → ∃ d, ds[i]? = some d ∧ Rep K Z H v d
  | _, _, _, _, .nil, e => by simp at e
  | _, _, 0, _, .cons h _, e => by simp at e; subst e; exact ⟨_, rfl, h⟩
  | _, _, i + 1, _, .cons _ hs, e => by
    obtain ⟨v, e1, e2⟩ := Reps.getv (i := i) hs (by simpa using e)
    exact ⟨v, by simpa using e1, e2⟩
theorem Reps.append : ∀ {vs ws : List V} {ds es : List D}, Reps K Z H vs ds → Reps K Z H ws es → Reps K Z H (vs ++ ws) (ds ++ es)
  | _, _, _, _, .nil, r => r
  | _, _, _, _, .cons h hs, r => .cons h (Reps.append hs r)
theorem Reps.one {v : V} {d : D} (h : Rep K Z H v d) : Reps K Z H [v] [d] := .cons h .nil
theorem Reps.take : ∀ {vs : List V} {ds : List D} (n : Nat), Reps K Z H vs ds → Reps K Z H (vs.take n) (ds.take n)
  | _, _, 0, _ => .nil
  | _, _, _ + 1, .nil => .nil
  | _, _, n + 1, .cons h hs => .cons h (Reps.take n hs)
theorem Reps.drop : ∀ {vs : List V} {ds : List D} (n : Nat), Reps K Z H vs ds → Reps K Z H (vs.drop n) (ds.drop n)
  | _, _, 0, r => r
  | _, _, _ + 1, .nil => .nil
  | _, _, n + 1, .cons _ hs => Reps.drop n hs
theorem Reps.set : ∀ {vs : List V} {ds : List D} (i : Nat) {v : V} {d : D}, Reps K Z H vs ds → Rep K Z H v d → Reps K Z H (vs.set i v) (ds.set i d)
  | _, _, _, _, _, .nil, _ => .nil
  | _, _, 0, _, _, .cons _ hs, r => .cons r hs
  | _, _, i + 1, _, _, .cons h hs, r => .cons h (Reps.set i hs r)
theorem Reps.dropLast {vs : List V} {ds : List D} (h : Reps K Z H vs ds) : Reps K Z H vs.dropLast ds.dropLast := by
  rw [List.dropLast_eq_take, List.dropLast_eq_take, h.length]
  exact h.take _
theorem Reps.reverse : ∀ {vs : List V} {ds : List D}, Reps K Z H vs ds → Reps K Z H vs.reverse ds.reverse
  | _, _, .nil => .nil
  | _, _, .cons h hs => by
    rw [List.reverse_cons, List.reverse_cons]
    exact (Reps.reverse hs).append (Reps.one h)
theorem Reps.eraseIdx : ∀ {vs : List V} {ds : List D} (i : Nat), Reps K Z H vs ds → Reps K Z H (vs.eraseIdx i) (ds.eraseIdx i)
  | _, _, _, .nil => .nil
  | _, _, 0, .cons _ hs => hs
  | _, _, i + 1, .cons h hs => .cons h (Reps.eraseIdx i hs)
theorem Reps.insertIdx {vs : List V} {ds : List D} (i : Nat) {v : V} {d : D} (h : Reps K Z H vs ds) (r : Rep K Z H v d) : Reps K Z H (vs.take i ++ v :: vs.drop i) (ds.take i ++ d :: ds.drop i) :=
  (h.take i).append (.cons r (h.drop i))
end

/-- what one owns: a tree of objects that nobody else reaches -/
inductive T where
  | fr (d : D) | lst (ds : List D) | dic (ks : List Key) (ds : List D) | obj (C : Addr) (ns : List Str) (ts : List T)
  deriving Inhabited
mutual
def T.fz : T → D
  | .fr d => d
  | .lst ds => .lst ds
  | .dic ks ds => .dic ks ds
  | .obj C ns ts => .obj C ns (T.fzs ts)
def T.fzs : List T → List D
  | [] => []
  | t :: ts => t.fz :: T.fzs ts
end
mutual
inductive TRep (K : Frg) (Z : Addr → Prop) (H : Hp) : V → T → List Addr → Prop
  | fr {v : V} {d : D} : Rep K Z H v d → TRep K Z H v (.fr d) []
  | lst {a : Addr} {vs : List V} {ds : List D} : H a = some (.lst vs) → Reps K Z H vs ds → TRep K Z H (.ref a) (.lst ds) [a]
  | dic {a : Addr} {kvs : List (Key × V)} {ks : List Key} {ds : List D} : H a = some (.dK kvs) → kvs.map (·.1) = ks → Reps K Z H (kvs.map (·.2)) ds → TRep K Z H (.ref a) (.dic ks ds) [a]
  | obj {a C dx : Addr} {fs : List (Str × V)} {ns : List Str} {ts : List T} {F : List Addr} : H a = some (.ins C dx fs) → fs.map (·.1) = ns → TReps K Z H (fs.map (·.2)) ts F → TRep K Z H (.ref a) (.obj C ns ts) (a :: F)
inductive TReps (K : Frg) (Z : Addr → Prop) (H : Hp) : List V → List T → List Addr → Prop
  | nil : TReps K Z H [] [] []
  | cons {v : V} {vs : List V} {t : T} {ts : List T} {F G : List Addr} : TRep K Z H v t F → TReps K Z H vs ts G → TReps K Z H (v :: vs) (t :: ts) (F ++ G)
end
/-- an object that may be owned -/
def MutK : HO → Prop
  | .lst _ => True
  | .dK _ => True
  | .ins _ _ _ => True
  | _ => False
section
variable {K : Frg} {Z Z' : Addr → Prop} {H H' : Hp}
mutual
theorem TRep.mono (st : Stp Z H Z' H') : ∀ {v : V} {t : T} {F : List Addr}, TRep K Z H v t F → (∀ a ∈ F, H' a = H a) → TRep K Z' H' v t F
  | _, _, _, .fr h, _ => .fr (h.mono st)
  | _, _, _, .lst h hs, k => .lst ((k _ (by simp)).trans h) (hs.mono st)
  | _, _, _, .dic h e hs, k => .dic ((k _ (by simp)).trans h) e (hs.mono st)
  | _, _, _, .obj h e hs, k => .obj ((k _ (by simp)).trans h) e (TReps.mono st hs fun a ha => k a (by simp [ha]))
theorem TReps.mono (st : Stp Z H Z' H') : ∀ {vs : List V} {ts : List T} {F : List Addr}, TReps K Z H vs ts F → (∀ a ∈ F, H' a = H a) → TReps K Z' H' vs ts F
  | _, _, _, .nil, _ => .nil
  | _, _, _, .cons h hs, k => .cons (TRep.mono st h fun a ha => k a (by simp [ha])) (TReps.mono st hs fun a ha => k a (by simp [ha]))
end
mutual
theorem TRep.kind : ∀ {v : V} {t : T} {F : List Addr}, TRep K Z H v t F → ∀ a ∈ F, ∃ o, H a = some o ∧ MutK o
  | _, _, _, .fr _, a, ha => by cases ha
  | _, _, _, .lst h _, a, ha => by
    have e := List.mem_singleton.mp ha
    subst e
    exact ⟨_, h, trivial⟩
  | _, _, _, .dic h _ _, a, ha => by
    have e := List.mem_singleton.mp ha
    subst e
    exact ⟨_, h, trivial⟩
  | _, _, _, .obj h _ hs, a, ha => by
    rcases List.mem_cons.mp ha with e | ha
    · subst e
      exact ⟨_, h, trivial⟩
    · exact TReps.kind hs a ha
theorem TReps.kind : ∀ {vs : List V} {ts : List T} {F : List Addr}, TReps K Z H vs ts F → ∀ a ∈ F, ∃ o, H a = some o ∧ MutK o
  | _, _, _, .nil, a, ha => by cases ha
  | _, _, _, .cons h hs, a, ha => by
    rcases List.mem_append.mp ha with ha | ha
    · exact TRep.kind h a ha
    · exact TReps.kind hs a ha
end
mutual
/-- what is owned is frozen -/
theorem TRep.froze : ∀ {v : V} {t : T} {F : List Addr}, TRep K Z H v t F → (∀ a, Z a → Z' a) → (∀ a ∈ F, Z' a) → Rep K Z' H v t.fz
  | _, _, _, .fr h, zz, _ => h.mono ⟨zz, fun _ _ => rfl, fun _ _ h => h, fun _ _ _ h => h⟩
  | _, _, _, .lst h hs, zz, zf => .lst (.inl ⟨zf _ (by simp), h⟩) (hs.mono ⟨zz, fun _ _ => rfl, fun _ _ h => h, fun _ _ _ h => h⟩)
  | _, _, _, .dic h e hs, zz, zf => .dic (zf _ (by simp)) h e (hs.mono ⟨zz, fun _ _ => rfl, fun _ _ h => h, fun _ _ _ h => h⟩)
  | _, _, _, .obj h e hs, zz, zf => .obj (zf _ (by simp)) h e (TReps.froze hs zz fun a ha => zf a (by simp [ha]))
theorem TReps.froze : ∀ {vs : List V} {ts : List T} {F : List Addr}, TReps K Z H vs ts F → (∀ a, Z a → Z' a) → (∀ a ∈ F, Z' a) → Reps K Z' H vs (T.fzs ts)
  | _, _, _, .nil, _, _ => .nil
  | _, _, _, .cons h hs, zz, zf => .cons (TRep.froze h zz fun a ha => zf a (by simp [ha])) (TReps.froze hs zz fun a ha => zf a (by simp [ha]))
end
theorem Stp.grow (zz : ∀ a, Z a → Z' a) : Stp Z H Z' H := ⟨zz, fun _ _ => rfl, fun _ _ h => h, fun _ _ _ h => h⟩
/-- a new object -/
theorem Stp.new {p : Addr} {o : HO} (zt : ∀ a, Z a → H a ≠ none) (hp : H p = none) : Stp Z H Z (upd H p o) :=
  ⟨fun _ h => h, fun a z => upd_ne fun e => zt a z (e ▸ hp), fun a xs h => by rw [upd_ne (ne_of_none h hp)]; exact h, fun a o u h => by rw [upd_ne (ne_of_none h hp)]; exact h⟩
/-- an owned object is written -/
theorem Stp.put {p : Addr} {o u : HO} (nz : ¬ Z p) (hp : H p = some u) (k : MutK u) : Stp Z H Z (upd H p o) :=
  ⟨fun _ h => h, fun a z => upd_ne fun e => nz (e ▸ z), fun a xs h => by
    rw [upd_ne fun e => by rw [e, hp] at h; cases h; exact k]
    exact h, fun a o u h => by
    rw [upd_ne fun e => by rw [e, hp] at h; cases h; exact k]
    exact h⟩
end

/-- a name's place: nothing known; data; an owned tree; a parameter's tree -/
inductive S where
  | un | fr (d : D) | ow (t : T) | mu (t : T)
  deriving Inhabited
def SRep (K : Frg) (Z : Addr → Prop) (H : Hp) (o : Option V) (s : S) (F : List Addr) : Prop :=
  match s with
  | .un => F = []
  | .fr d => F = [] ∧ ∃ v, o = some v ∧ Rep K Z H v d
  | .ow t => ∃ v, o = some v ∧ TRep K Z H v t F
  | .mu t => ∃ v, o = some v ∧ TRep K Z H v t F
theorem SRep.kind {K : Frg} {Z : Addr → Prop} {H : Hp} {o : Option V} {s : S} {F : List Addr} (h : SRep K Z H o s F) : ∀ a ∈ F, ∃ o, H a = some o ∧ MutK o := by
  cases s with
  | un => intro a ha; rw [show F = [] from h] at ha; cases ha
  | fr d => intro a ha; rw [h.1] at ha; cases ha
  | ow t => obtain ⟨v, _, h⟩ := h; exact h.kind
  | mu t => obtain ⟨v, _, h⟩ := h; exact h.kind
theorem SRep.mono {K : Frg} {Z Z' : Addr → Prop} {H H' : Hp} {o : Option V} {s : S} {F : List Addr} (st : Stp Z H Z' H') (h : SRep K Z H o s F) (k : ∀ a ∈ F, H' a = H a) : SRep K Z' H' o s F := by
  cases s with
  | un => exact h
  | fr d => obtain ⟨e, v, e1, r⟩ := h; exact ⟨e, v, e1, r.mono st⟩
  | ow t => obtain ⟨v, e, h⟩ := h; exact ⟨v, e, h.mono st k⟩
  | mu t => obtain ⟨v, e, h⟩ := h; exact ⟨v, e, h.mono st k⟩

abbrev Foot := Nat → List Addr
structure Slots (K : Frg) (Z : Addr → Prop) (H : Hp) (σ : Sg) (E : List S) (F : Foot) : Prop where
  len : σ.length = E.length
  rep : ∀ (i : Nat) s, E[i]? = some s → SRep K Z H (σ.getD i none) s (F i)
  out : ∀ (i : Nat), E.length ≤ i → F i = []
  nd : ∀ i, (F i).Nodup
  dj : ∀ i j a, a ∈ F i → a ∈ F j → i = j

/-- the entry of a def: what stood, the parameters' trees, what was frozen, the arguments -/
structure Ctx where
  K : Frg
  H0 : Hp
  Fm : Foot
  Z0 : Addr → Prop
  vs : List V
structure WdF (C : Ctx) (Z : Addr → Prop) (σ : Sg) (E : List S) (H : Hp) (F : Foot) : Prop where
  sl : Slots C.K Z H σ E F
  nz : ∀ i a, a ∈ F i → ¬ Z a
  own : ∀ (i : Nat) t a, E[i]? = some (S.ow t) → a ∈ F i → C.H0 a = none
  mum : ∀ (i : Nat) t a, E[i]? = some (S.mu t) → a ∈ F i → a ∈ C.Fm i ∨ C.H0 a = none
  mus : ∀ (i : Nat) t, E[i]? = some (S.mu t) → ∃ v, C.vs[i]? = some v ∧ σ[i]? = some (some v)
  fr : ∀ b o, C.H0 b = some o → (∀ i, b ∉ C.Fm i) → H b = some o
  z0 : ∀ a, C.Z0 a → Z a
  zn : ∀ a, Z a → C.Z0 a ∨ C.H0 a = none
  zt : ∀ a, Z a → H a ≠ none
  kt : ∀ b, C.H0 b ≠ none → H b ≠ none
def Wd (C : Ctx) (Z : Addr → Prop) (σ : Sg) (E : List S) (H : Hp) : Prop := ∃ F, WdF C Z σ E H F

section
variable {C : Ctx} {Z Z' : Addr → Prop} {σ : Sg} {E : List S} {H H' : Hp} {F : Foot}
theorem WdF.kind (w : WdF C Z σ E H F) {i : Nat} {a : Addr} (ha : a ∈ F i) : ∃ o, H a = some o ∧ MutK o := by
  by_cases h : i < E.length
  · exact (w.sl.rep i _ (List.getElem?_eq_getElem h)).kind a ha
  · rw [w.sl.out i (by omega)] at ha
    cases ha
/-- footprints are kept, the world goes on -/
theorem WdF.go (w : WdF C Z σ E H F) (st : Stp Z H Z' H') (k : ∀ i, ∀ a ∈ F i, H' a = H a) (nz : ∀ i a, a ∈ F i → ¬ Z' a) (fr : ∀ b o, C.H0 b = some o → (∀ i, b ∉ C.Fm i) → H b = some o → H' b = some o)
    (zn : ∀ a, Z' a → Z a ∨ C.H0 a = none) (zt : ∀ a, Z' a → H' a ≠ none) (kt : ∀ b, H b ≠ none → H' b ≠ none) : WdF C Z' σ E H' F :=
  ⟨⟨w.sl.len, fun i s e => (w.sl.rep i s e).mono st (k i), w.sl.out, w.sl.nd, w.sl.dj⟩, nz, w.own, w.mum, w.mus, fun b o e n => fr b o e n (w.fr b o e n), fun a h => st.zz a (w.z0 a h),
    fun a h => (zn a h).elim (w.zn a) .inr, zt, fun b h => kt b (w.kt b h)⟩
theorem upd_kt {p : Addr} {o : HO} : ∀ b, H b ≠ none → upd H p o b ≠ none := fun b h => by
  by_cases e : b = p
  · subst e; rw [upd_same]; intro q; cases q
  · rw [upd_ne e]; exact h
theorem WdF.new (w : WdF C Z σ E H F) {p : Addr} {o : HO} (hp : H p = none) : WdF C Z σ E (upd H p o) F :=
  w.go (Stp.new w.zt hp) (fun i a ha => by
      obtain ⟨u, e, _⟩ := w.kind ha
      exact upd_ne (ne_of_none e hp))
    w.nz (fun b u _ _ e => by rw [upd_ne (ne_of_none e hp)]; exact e) (fun a h => .inl h) (fun a z => by
      by_cases e : a = p
      · subst e; rw [upd_same]; intro q; cases q
      · rw [upd_ne e]; exact w.zt a z) upd_kt
theorem Wd.zt (w : Wd C Z σ E H) : ∀ a, Z a → H a ≠ none := let ⟨_, w⟩ := w; w.zt
theorem Wd.len (w : Wd C Z σ E H) : σ.length = E.length := let ⟨_, w⟩ := w; w.sl.len
theorem Wd.new (w : Wd C Z σ E H) {p : Addr} {o : HO} (hp : H p = none) : Wd C Z σ E (upd H p o) := let ⟨F, w⟩ := w; ⟨F, w.new hp⟩
/-- data at a name -/
theorem Wd.get (w : Wd C Z σ E H) {i : Nat} {d : D} (e : E[i]? = some (.fr d)) : ∃ v, σ[i]? = some (some v) ∧ Rep C.K Z H v d := by
  obtain ⟨F, w⟩ := w
  obtain ⟨_, v, e1, r⟩ := w.sl.rep i _ e
  refine ⟨v, ?_, r⟩
  rw [List.getD_eq_getElem?_getD] at e1
  cases q : σ[i]? with
  | none => rw [q] at e1; cases e1
  | some x => rw [q] at e1; exact congrArg some e1
theorem getD_some {i : Nat} {v : V} (e : σ.getD i none = some v) : σ[i]? = some (some v) := by
  rw [List.getD_eq_getElem?_getD] at e
  cases q : σ[i]? with
  | none => rw [q] at e; cases e
  | some x => rw [q] at e; exact congrArg some e
theorem of_getD {i : Nat} {v : V} (e : σ[i]? = some (some v)) : σ.getD i none = some v := by
  rw [List.getD_eq_getElem?_getD, e]
  rfl
/-- an owned tree at a name is frozen -/
theorem Wd.freeze (w : Wd C Z σ E H) {i : Nat} {t : T} (e : E[i]? = some (.ow t)) : ∃ v Z', σ[i]? = some (some v) ∧ Stp Z H Z' H ∧ Wd C Z' σ (E.set i (.fr t.fz)) H ∧ Rep C.K Z' H v t.fz := by
  obtain ⟨F, w⟩ := w
  obtain ⟨v, e1, r⟩ := w.sl.rep i _ e
  have hi : i < E.length := (List.getElem?_eq_some_iff.mp e).1
  have zz : ∀ a, Z a → Z a ∨ a ∈ F i := fun a h => .inl h
  have rz := r.froze (Z' := fun a => Z a ∨ a ∈ F i) zz fun a h => .inr h
  refine ⟨v, fun a => Z a ∨ a ∈ F i, getD_some e1, Stp.grow zz, ⟨fun j => if j = i then [] else F j, ⟨⟨?_, fun j s ej => ?_, fun j hj => ?_, fun j => ?_, fun j k a h1 h2 => ?_⟩, fun j a h => ?_, fun j u a ej ha => ?_, fun j u a ej ha => ?_, fun j u ej => ?_, w.fr, fun a h => .inl (w.z0 a h), fun a h => ?_, fun a h => ?_, w.kt⟩⟩, rz⟩
  · rw [List.length_set]; exact w.sl.len
  · by_cases q : j = i
    · subst q
      rw [List.getElem?_set_self hi] at ej
      cases ej
      rw [if_pos rfl]
      exact ⟨rfl, v, e1, rz⟩
    · rw [List.getElem?_set_ne (Ne.symm q)] at ej
      rw [if_neg q]
      exact (w.sl.rep j s ej).mono (Stp.grow zz) fun _ _ => rfl
  · rw [List.length_set] at hj
    rw [if_neg (by omega)]
    exact w.sl.out j hj
  · by_cases q : j = i
    · rw [if_pos q]; exact List.nodup_nil
    · rw [if_neg q]; exact w.sl.nd j
  · by_cases q : j = i
    · rw [if_pos q] at h1; cases h1
    · by_cases q2 : k = i
      · rw [if_pos q2] at h2; cases h2
      · rw [if_neg q] at h1
        rw [if_neg q2] at h2
        exact w.sl.dj j k a h1 h2
  · by_cases q : j = i
    · rw [if_pos q] at h; cases h
    · rw [if_neg q] at h
      rintro (z | z)
      · exact w.nz j a h z
      · exact q (w.sl.dj j i a h z)
  · by_cases q : j = i
    · rw [if_pos q] at ha; cases ha
    · rw [if_neg q] at ha
      rw [List.getElem?_set_ne (Ne.symm q)] at ej
      exact w.own j u a ej ha
  · by_cases q : j = i
    · rw [if_pos q] at ha; cases ha
    · rw [if_neg q] at ha
      rw [List.getElem?_set_ne (Ne.symm q)] at ej
      exact w.mum j u a ej ha
  · by_cases q : j = i
    · subst q; rw [List.getElem?_set_self hi] at ej; cases ej
    · rw [List.getElem?_set_ne (Ne.symm q)] at ej
      exact w.mus j u ej
  · rcases h with z | z
    · exact w.zn a z
    · exact .inr (w.own i t a e z)
  · rcases h with z | z
    · exact w.zt a z
    · obtain ⟨o, q, _⟩ := w.kind z
      rw [q]; intro q; cases q
end
end DL
set_option Elab.async false
set_option linter.all false
set_option maxRecDepth 100000
set_option maxHeartbeats 4000000
/-! DL, part b: worlds that go on; judgements; the first rules. -/
namespace DL
open PySem PySem.Spec PyProof.Rows L2

def S.tree? : S → Option T
  | .ow t => some t
  | .mu t => some t
  | _ => none
def S.put (s : S) (t : T) : S := match s with
  | .mu _ => .mu t
  | _ => .ow t
def S.isMu : S → Bool
  | .mu _ => true
  | _ => false

section
variable {C : Ctx} {Z Z' : Addr → Prop} {σ : Sg} {E : List S} {H H' : Hp} {F : Foot}
theorem SRep.tree {K : Frg} {o : Option V} {s : S} {t : T} {G : List Addr} (h : SRep K Z H o s G) (e : s.tree? = some t) : ∃ v, o = some v ∧ TRep K Z H v t G := by
  cases s with
  | un => cases e
  | fr d => cases e
  | ow u => cases e; exact h
  | mu u => cases e; exact h
/-- a new tree at a place, footprints F' (others as they were, or less) -/
theorem WdF.put (w : WdF C Z σ E H F) {i : Nat} {s : S} {t t' : T} {v : V} {G : List Addr} (e : E[i]? = some s) (et : s.tree? = some t) (st : Stp Z H Z H') (hv : σ[i]? = some (some v)) (hr : TRep C.K Z H' v t' G)
    (sub : ∀ a ∈ G, a ∈ F i ∨ (H a = none ∧ C.H0 a = none)) (nd : G.Nodup) (k : ∀ j, j ≠ i → ∀ a ∈ F j, H' a = H a) (fr : ∀ b o, C.H0 b = some o → (∀ i, b ∉ C.Fm i) → H b = some o → H' b = some o) (zt : ∀ a, Z a → H' a ≠ none) (kt : ∀ b, H b ≠ none → H' b ≠ none) :
    Wd C Z σ (E.set i (s.put t')) H' := by
  have hi : i < E.length := (List.getElem?_eq_some_iff.mp e).1
  refine ⟨fun j => if j = i then G else F j, ⟨⟨?_, fun j u ej => ?_, fun j hj => ?_, fun j => ?_, fun j l a h1 h2 => ?_⟩, fun j a h => ?_, fun j u a ej ha => ?_, fun j u a ej ha => ?_, fun j u ej => ?_, fun b o e n => fr b o e n (w.fr b o e n), w.z0, w.zn, zt, fun b h => kt b (w.kt b h)⟩⟩
  · rw [List.length_set]; exact w.sl.len
  · by_cases q : j = i
    · subst q
      rw [List.getElem?_set_self hi] at ej
      cases ej
      rw [if_pos rfl]
      have z : ∃ v', σ.getD j none = some v' ∧ TRep C.K Z H' v' t' G := ⟨v, of_getD hv, hr⟩
      cases s <;> exact z
    · rw [List.getElem?_set_ne (Ne.symm q)] at ej
      rw [if_neg q]
      exact (w.sl.rep j u ej).mono st (k j q)
  · rw [List.length_set] at hj
    rw [if_neg (by omega)]
    exact w.sl.out j hj
  · by_cases q : j = i
    · rw [if_pos q]; exact nd
    · rw [if_neg q]; exact w.sl.nd j
  · have no : ∀ l, l ≠ i → a ∈ G → a ∈ F l → False := fun l hl g f => by
      rcases sub a g with z | z
      · exact hl (w.sl.dj l i a f z)
      · obtain ⟨o, q, _⟩ := w.kind f
        rw [z.1] at q; cases q
    by_cases q : j = i
    · by_cases q2 : l = i
      · rw [q, q2]
      · rw [if_pos q] at h1
        rw [if_neg q2] at h2
        exact (no l q2 h1 h2).elim
    · by_cases q2 : l = i
      · rw [if_neg q] at h1
        rw [if_pos q2] at h2
        exact (no j q h2 h1).elim
      · rw [if_neg q] at h1
        rw [if_neg q2] at h2
        exact w.sl.dj j l a h1 h2
  · by_cases q : j = i
    · rw [if_pos q] at h
      rcases sub a h with z | z
      · exact w.nz i a z
      · intro hz; exact w.zt a hz z.1
    · rw [if_neg q] at h
      exact w.nz j a h
  · by_cases q : j = i
    · subst q
      rw [List.getElem?_set_self hi] at ej
      rw [if_pos rfl] at ha
      rcases sub a ha with z | z
      · cases s with
        | un => cases et
        | fr d => cases et
        | ow x => exact w.own j x a e z
        | mu x => cases ej
      · exact z.2
    · rw [if_neg q] at ha
      rw [List.getElem?_set_ne (Ne.symm q)] at ej
      exact w.own j u a ej ha
  · by_cases q : j = i
    · subst q
      rw [List.getElem?_set_self hi] at ej
      rw [if_pos rfl] at ha
      rcases sub a ha with z | z
      · cases s with
        | un => cases et
        | fr d => cases et
        | ow x => cases ej
        | mu x => exact w.mum j x a e z
      · exact .inr z.2
    · rw [if_neg q] at ha
      rw [List.getElem?_set_ne (Ne.symm q)] at ej
      exact w.mum j u a ej ha
  · by_cases q : j = i
    · subst q
      rw [List.getElem?_set_self hi] at ej
      cases s with
      | un => cases et
      | fr d => cases et
      | ow x => cases ej
      | mu x => exact w.mus j x e
    · rw [List.getElem?_set_ne (Ne.symm q)] at ej
      exact w.mus j u ej
/-- the last place is dropped -/
theorem WdF.drop {x : Option V} {s : S} (w : WdF C Z (σ ++ [x]) (E ++ [s]) H F) : Wd C Z σ E H := by
  have hl : σ.length = E.length := by
    have q := w.sl.len
    simp at q
    exact q
  have up : ∀ (j : Nat) u, E[j]? = some u → (E ++ [s])[j]? = some u := fun j u e => by
    rw [List.getElem?_append_left (List.getElem?_eq_some_iff.mp e).1]
    exact e
  refine ⟨fun j => if j < E.length then F j else [], ⟨⟨hl, fun j u ej => ?_, fun j hj => ?_, fun j => ?_, fun j l a h1 h2 => ?_⟩, fun j a h => ?_, fun j u a ej ha => ?_, fun j u a ej ha => ?_, fun j u ej => ?_, w.fr, w.z0, w.zn, w.zt, w.kt⟩⟩
  · have hj := (List.getElem?_eq_some_iff.mp ej).1
    rw [if_pos hj]
    have q := w.sl.rep j u (up j u ej)
    rw [List.getD_eq_getElem?_getD, List.getElem?_append_left (by omega), ← List.getD_eq_getElem?_getD] at q
    exact q
  · rw [if_neg (by omega)]
  · split
    · exact w.sl.nd j
    · exact List.nodup_nil
  · split at h1
    · split at h2
      · exact w.sl.dj j l a h1 h2
      · cases h2
    · cases h1
  · split at h
    · exact w.nz j a h
    · cases h
  · split at ha
    · exact w.own j u a (up j _ ej) ha
    · cases ha
  · split at ha
    · exact w.mum j u a (up j _ ej) ha
    · cases ha
  · obtain ⟨v, e1, e2⟩ := w.mus j u (up j _ ej)
    refine ⟨v, e1, ?_⟩
    have hj := (List.getElem?_eq_some_iff.mp ej).1
    rw [List.getElem?_append_left (by omega)] at e2
    exact e2
/-- the last place moves to place i -/
theorem WdF.move {v : V} {t : T} {i : Nat} (w : WdF C Z (σ ++ [some v]) (E ++ [.ow t]) H F) (hi : i < E.length) (nm : ∀ t, E[i]? ≠ some (.mu t)) : Wd C Z (σ.set i (some v)) (E.set i (.ow t)) H := by
  have hl : σ.length = E.length := by
    have q := w.sl.len
    simp at q
    exact q
  have up : ∀ (j : Nat) u, E[j]? = some u → (E ++ [S.ow t])[j]? = some u := fun j u e => by
    rw [List.getElem?_append_left (List.getElem?_eq_some_iff.mp e).1]
    exact e
  have lastE : (E ++ [S.ow t])[E.length]? = some (.ow t) := by rw [List.getElem?_append_right (Nat.le_refl _), Nat.sub_self]; rfl
  have lastR := w.sl.rep E.length _ lastE
  have gl : (σ ++ [some v]).getD E.length none = some v := by
    rw [List.getD_eq_getElem?_getD, List.getElem?_append_right (by omega), hl, Nat.sub_self]
    rfl
  rw [gl] at lastR
  refine ⟨fun j => if j = i then F E.length else if j < E.length then F j else [], ⟨⟨?_, fun j u ej => ?_, fun j hj => ?_, fun j => ?_, fun j l a h1 h2 => ?_⟩, fun j a h => ?_, fun j u a ej ha => ?_, fun j u a ej ha => ?_, fun j u ej => ?_, w.fr, w.z0, w.zn, w.zt, w.kt⟩⟩
  · rw [List.length_set, List.length_set]; exact hl
  · by_cases q : j = i
    · subst q
      rw [List.getElem?_set_self hi] at ej
      cases ej
      rw [if_pos rfl, List.getD_eq_getElem?_getD, List.getElem?_set_self (by omega)]
      exact lastR
    · rw [List.getElem?_set_ne (Ne.symm q)] at ej
      have hj := (List.getElem?_eq_some_iff.mp ej).1
      rw [if_neg q, if_pos hj]
      have z := w.sl.rep j u (up j u ej)
      rw [List.getD_eq_getElem?_getD, List.getElem?_append_left (by omega)] at z
      rw [List.getD_eq_getElem?_getD, List.getElem?_set_ne (Ne.symm q)]
      exact z
  · rw [List.length_set] at hj
    rw [if_neg (by omega), if_neg (by omega)]
  · split
    · exact w.sl.nd _
    · split
      · exact w.sl.nd j
      · exact List.nodup_nil
  · split at h1
    · split at h2
      · omega
      · split at h2
        · have := w.sl.dj _ _ a h1 h2; omega
        · cases h2
    · split at h1
      · split at h2
        · have := w.sl.dj _ _ a h1 h2; omega
        · split at h2
          · exact w.sl.dj _ _ a h1 h2
          · cases h2
      · cases h1
  · split at h
    · exact w.nz _ a h
    · split at h
      · exact w.nz j a h
      · cases h
  · by_cases q : j = i
    · rw [if_pos q] at ha
      exact w.own E.length t a lastE ha
    · rw [List.getElem?_set_ne (Ne.symm q)] at ej
      rw [if_neg q] at ha
      split at ha
      · exact w.own j u a (up j _ ej) ha
      · cases ha
  · by_cases q : j = i
    · subst q
      rw [List.getElem?_set_self hi] at ej
      cases ej
    · rw [List.getElem?_set_ne (Ne.symm q)] at ej
      rw [if_neg q] at ha
      split at ha
      · exact w.mum j u a (up j _ ej) ha
      · cases ha
  · by_cases q : j = i
    · subst q
      rw [List.getElem?_set_self hi] at ej
      cases ej
    · rw [List.getElem?_set_ne (Ne.symm q)] at ej
      obtain ⟨x, e1, e2⟩ := w.mus j u (up j _ ej)
      have hj := (List.getElem?_eq_some_iff.mp ej).1
      rw [List.getElem?_append_left (by omega)] at e2
      exact ⟨x, e1, by rw [List.getElem?_set_ne (Ne.symm q)]; exact e2⟩
/-- data is stored at place i -/
theorem WdF.setD {v : V} {d : D} {i : Nat} (w : WdF C Z σ E H F) (r : Rep C.K Z H v d) (hi : i < E.length) (nm : ∀ t, E[i]? ≠ some (.mu t)) : Wd C Z (σ.set i (some v)) (E.set i (.fr d)) H := by
  have hl := w.sl.len
  refine ⟨fun j => if j = i then [] else F j, ⟨⟨?_, fun j u ej => ?_, fun j hj => ?_, fun j => ?_, fun j l a h1 h2 => ?_⟩, fun j a h => ?_, fun j u a ej ha => ?_, fun j u a ej ha => ?_, fun j u ej => ?_, w.fr, w.z0, w.zn, w.zt, w.kt⟩⟩
  · rw [List.length_set, List.length_set]; exact hl
  · by_cases q : j = i
    · subst q
      rw [List.getElem?_set_self hi] at ej
      cases ej
      rw [if_pos rfl]
      refine ⟨rfl, v, ?_, r⟩
      rw [List.getD_eq_getElem?_getD, List.getElem?_set_self (by omega)]
      rfl
    · rw [List.getElem?_set_ne (Ne.symm q)] at ej
      rw [if_neg q, List.getD_eq_getElem?_getD, List.getElem?_set_ne (Ne.symm q), ← List.getD_eq_getElem?_getD]
      exact w.sl.rep j u ej
  · rw [List.length_set] at hj
    rw [if_neg (by omega)]
    exact w.sl.out j hj
  · split
    · exact List.nodup_nil
    · exact w.sl.nd j
  · split at h1
    · cases h1
    · split at h2
      · cases h2
      · exact w.sl.dj j l a h1 h2
  · split at h
    · cases h
    · exact w.nz j a h
  · by_cases q : j = i
    · rw [if_pos q] at ha; cases ha
    · rw [List.getElem?_set_ne (Ne.symm q)] at ej
      rw [if_neg q] at ha
      exact w.own j u a ej ha
  · by_cases q : j = i
    · rw [if_pos q] at ha; cases ha
    · rw [List.getElem?_set_ne (Ne.symm q)] at ej
      rw [if_neg q] at ha
      exact w.mum j u a ej ha
  · by_cases q : j = i
    · subst q
      rw [List.getElem?_set_self hi] at ej
      cases ej
    · rw [List.getElem?_set_ne (Ne.symm q)] at ej
      obtain ⟨x, e1, e2⟩ := w.mus j u ej
      exact ⟨x, e1, by rw [List.getElem?_set_ne (Ne.symm q)]; exact e2⟩
/-- a place is forgotten -/
theorem WdF.forget {i : Nat} {x : Option V} (w : WdF C Z σ E H F) : Wd C Z (σ.set i x) (E.set i .un) H := by
  have hl := w.sl.len
  by_cases hi : i < E.length
  · refine ⟨fun j => if j = i then [] else F j, ⟨⟨?_, fun j u ej => ?_, fun j hj => ?_, fun j => ?_, fun j l a h1 h2 => ?_⟩, fun j a h => ?_, fun j u a ej ha => ?_, fun j u a ej ha => ?_, fun j u ej => ?_, w.fr, w.z0, w.zn, w.zt, w.kt⟩⟩
    · rw [List.length_set, List.length_set]; exact hl
    · by_cases q : j = i
      · subst q
        rw [List.getElem?_set_self hi] at ej
        cases ej
        rw [if_pos rfl]
        exact rfl
      · rw [List.getElem?_set_ne (Ne.symm q)] at ej
        rw [if_neg q, List.getD_eq_getElem?_getD, List.getElem?_set_ne (Ne.symm q), ← List.getD_eq_getElem?_getD]
        exact w.sl.rep j u ej
    · rw [List.length_set] at hj
      rw [if_neg (by omega)]
      exact w.sl.out j hj
    · split
      · exact List.nodup_nil
      · exact w.sl.nd j
    · split at h1
      · cases h1
      · split at h2
        · cases h2
        · exact w.sl.dj j l a h1 h2
    · split at h
      · cases h
      · exact w.nz j a h
    · by_cases q : j = i
      · rw [if_pos q] at ha; cases ha
      · rw [List.getElem?_set_ne (Ne.symm q)] at ej
        rw [if_neg q] at ha
        exact w.own j u a ej ha
    · by_cases q : j = i
      · rw [if_pos q] at ha; cases ha
      · rw [List.getElem?_set_ne (Ne.symm q)] at ej
        rw [if_neg q] at ha
        exact w.mum j u a ej ha
    · by_cases q : j = i
      · subst q
        rw [List.getElem?_set_self hi] at ej
        cases ej
      · rw [List.getElem?_set_ne (Ne.symm q)] at ej
        obtain ⟨x, e1, e2⟩ := w.mus j u ej
        exact ⟨x, e1, by rw [List.getElem?_set_ne (Ne.symm q)]; exact e2⟩
  · rw [List.set_eq_of_length_le (by omega), List.set_eq_of_length_le (by omega)]
    exact ⟨F, w⟩
/-- a new list of one's own, as the last place -/
theorem WdF.push (w : WdF C Z σ E H F) {p : Addr} {o : HO} {t : T} (hp : H p = none) (r : TRep C.K Z (upd H p o) (.ref p) t [p]) : Wd C Z (σ ++ [some (.ref p)]) (E ++ [.ow t]) (upd H p o) := by
  have w' := w.new (o := o) hp
  have hl := w.sl.len
  have pF : ∀ i, p ∉ F i := fun i h => by
    obtain ⟨o, e, _⟩ := w.kind h
    rw [hp] at e; cases e
  have pz : ¬ Z p := fun h => w.zt p h hp
  have p0 : C.H0 p = none := Classical.byContradiction fun n => w.kt p n hp
  have lastE : (E ++ [S.ow t])[E.length]? = some (.ow t) := by rw [List.getElem?_append_right (Nat.le_refl _), Nat.sub_self]; rfl
  have low : ∀ (j : Nat) u, (E ++ [S.ow t])[j]? = some u → j ≠ E.length → E[j]? = some u ∧ j < E.length := fun j u e q => by
    have h := (List.getElem?_eq_some_iff.mp e).1
    rw [List.length_append] at h
    have h : j < E.length := by
      have : ([S.ow t]).length = 1 := rfl
      omega
    rw [List.getElem?_append_left h] at e
    exact ⟨e, h⟩
  refine ⟨fun j => if j = E.length then [p] else F j, ⟨⟨?_, fun j u ej => ?_, fun j hj => ?_, fun j => ?_, fun j l a h1 h2 => ?_⟩, fun j a h => ?_, fun j u a ej ha => ?_, fun j u a ej ha => ?_, fun j u ej => ?_, w'.fr, w.z0, w.zn, w'.zt, w'.kt⟩⟩
  · rw [List.length_append, List.length_append, hl]; rfl
  · by_cases q : j = E.length
    · subst q
      rw [lastE] at ej
      cases ej
      rw [if_pos rfl, List.getD_eq_getElem?_getD, List.getElem?_append_right (by omega), hl, Nat.sub_self]
      exact ⟨_, rfl, r⟩
    · obtain ⟨e, h⟩ := low j u ej q
      rw [if_neg q, List.getD_eq_getElem?_getD, List.getElem?_append_left (by omega), ← List.getD_eq_getElem?_getD]
      exact w'.sl.rep j u e
  · rw [List.length_append] at hj
    have : ([S.ow t]).length = 1 := rfl
    rw [if_neg (by omega)]
    exact w.sl.out j (by omega)
  · split
    · simp
    · exact w.sl.nd j
  · split at h1
    · split at h2
      · omega
      · have e := List.mem_singleton.mp h1
        subst e
        exact absurd h2 (pF l)
    · split at h2
      · have e := List.mem_singleton.mp h2
        subst e
        exact absurd h1 (pF j)
      · exact w.sl.dj j l a h1 h2
  · split at h
    · have e := List.mem_singleton.mp h
      subst e
      exact pz
    · exact w.nz j a h
  · by_cases q : j = E.length
    · rw [if_pos q] at ha
      have e := List.mem_singleton.mp ha
      subst e
      exact p0
    · rw [if_neg q] at ha
      exact w.own j u a (low j _ ej q).1 ha
  · by_cases q : j = E.length
    · subst q; rw [lastE] at ej; cases ej
    · rw [if_neg q] at ha
      exact w.mum j u a (low j _ ej q).1 ha
  · by_cases q : j = E.length
    · subst q; rw [lastE] at ej; cases ej
    · obtain ⟨e, h⟩ := low j _ ej q
      obtain ⟨v, e1, e2⟩ := w.mus j u e
      exact ⟨v, e1, by rw [List.getElem?_append_left (by omega)]; exact e2⟩
end

/-! ### at a place of the proof: the names, and what is pending -/
def At (C : Ctx) (ps : Sg) (Ep : List S) (Z : Addr → Prop) (σ : Sg) (E : List S) (H : Hp) : Prop := σ.length = E.length ∧ Wd C Z (σ ++ ps) (E ++ Ep) H
section
variable {C : Ctx} {ps : Sg} {Ep : List S} {Z Z' : Addr → Prop} {σ : Sg} {E : List S} {H H' : Hp}
theorem up_get {s : S} {i : Nat} (e : E[i]? = some s) : (E ++ Ep)[i]? = some s := by
  rw [List.getElem?_append_left (List.getElem?_eq_some_iff.mp e).1]
  exact e
theorem At.low {x : V} {i : Nat} (hl : σ.length = E.length) (hi : i < E.length) (e : (σ ++ ps)[i]? = some (some x)) : σ[i]? = some (some x) := by
  rw [List.getElem?_append_left (by omega)] at e
  exact e
theorem At.high {x : V} {i : Nat} (e : σ[i]? = some (some x)) : (σ ++ ps)[i]? = some (some x) := by
  rw [List.getElem?_append_left (List.getElem?_eq_some_iff.mp e).1]
  exact e
theorem At.get (w : At C ps Ep Z σ E H) {i : Nat} {d : D} (e : E[i]? = some (.fr d)) : ∃ v, σ[i]? = some (some v) ∧ Rep C.K Z H v d := by
  obtain ⟨v, e1, r⟩ := w.2.get (up_get e)
  exact ⟨v, At.low w.1 (List.getElem?_eq_some_iff.mp e).1 e1, r⟩
theorem At.freeze (w : At C ps Ep Z σ E H) {i : Nat} {t : T} (e : E[i]? = some (.ow t)) : ∃ v Z', σ[i]? = some (some v) ∧ Stp Z H Z' H ∧ At C ps Ep Z' σ (E.set i (.fr t.fz)) H ∧ Rep C.K Z' H v t.fz := by
  obtain ⟨v, Z', e1, st, w', r⟩ := w.2.freeze (up_get e)
  have hi := (List.getElem?_eq_some_iff.mp e).1
  rw [List.set_append_left _ _ hi] at w'
  exact ⟨v, Z', At.low w.1 hi e1, st, ⟨by rw [List.length_set]; exact w.1, w'⟩, r⟩
theorem At.new (w : At C ps Ep Z σ E H) {p : Addr} {o : HO} (hp : H p = none) : At C ps Ep Z σ E (upd H p o) := ⟨w.1, w.2.new hp⟩
theorem At.zt (w : At C ps Ep Z σ E H) : ∀ a, Z a → H a ≠ none := w.2.zt
theorem At.tree (w : At C ps Ep Z σ E H) {i : Nat} {s : S} {t : T} (e : E[i]? = some s) (et : s.tree? = some t) : ∃ v F, σ[i]? = some (some v) ∧ TRep C.K Z H v t F := by
  obtain ⟨F, f⟩ := w.2
  obtain ⟨v, e1, r⟩ := (f.sl.rep i s (up_get e)).tree et
  exact ⟨v, F i, At.low w.1 (List.getElem?_eq_some_iff.mp e).1 (getD_some e1), r⟩
/-- an owned list at a name: read, and written -/
theorem At.list (w : At C ps Ep Z σ E H) {i : Nat} {s : S} {ds : List D} (e : E[i]? = some s) (et : s.tree? = some (.lst ds)) :
    ∃ a vs, σ[i]? = some (some (.ref a)) ∧ H a = some (.lst vs) ∧ Reps C.K Z H vs ds ∧ ∀ vs' ds', Reps C.K Z H vs' ds' → Stp Z H Z (upd H a (.lst vs')) ∧ At C ps Ep Z σ (E.set i (s.put (.lst ds'))) (upd H a (.lst vs')) := by
  obtain ⟨F, f⟩ := w.2
  obtain ⟨v, e1, r⟩ := (f.sl.rep i s (up_get e)).tree et
  have hi := (List.getElem?_eq_some_iff.mp e).1
  generalize hF : F i = G at r
  cases r with
  | lst h hs =>
    rename_i a vs
    have ha : a ∈ F i := by rw [hF]; simp
    refine ⟨a, vs, At.low w.1 hi (getD_some e1), h, hs, fun vs' ds' r' => ?_⟩
    have st : Stp Z H Z (upd H a (.lst vs')) := Stp.put (f.nz i a ha) h trivial
    refine ⟨st, by rw [List.length_set]; exact w.1, ?_⟩
    have q := f.put (up_get e) et st (getD_some e1) (TRep.lst upd_same (r'.mono st)) (fun b hb => .inl (by rw [hF]; exact hb)) (by simp) (fun j hj b hb => ?_) (fun b o e0 n q => ?_) (fun b z => ?_) upd_kt
    · rw [List.set_append_left _ _ hi] at q
      exact q
    · exact upd_ne fun q => hj (f.sl.dj j i b hb (by rw [q]; exact ha))
    · rw [upd_ne]
      · exact q
      · rintro rfl
        have ei := up_get (Ep := Ep) e
        cases s with
        | un => cases et
        | fr d => cases et
        | ow x =>
          have := f.own i x b ei ha
          rw [e0] at this; cases this
        | mu x =>
          rcases f.mum i x b ei ha with z | z
          · exact n i z
          · rw [e0] at z; cases z
    · by_cases q : b = a
      · rw [q, upd_same]; intro q; cases q
      · rw [upd_ne q]; exact f.zt b z
theorem At.setD (w : At C ps Ep Z σ E H) {v : V} {d : D} {i : Nat} (r : Rep C.K Z H v d) (hi : i < E.length) (nm : ∀ t, E[i]? ≠ some (.mu t)) : At C ps Ep Z (σ.set i (some v)) (E.set i (.fr d)) H := by
  obtain ⟨F, f⟩ := w.2
  refine ⟨by rw [List.length_set, List.length_set]; exact w.1, ?_⟩
  have q := f.setD (i := i) r (by rw [List.length_append]; omega) fun t => by rw [List.getElem?_append_left hi]; exact nm t
  rw [List.set_append_left _ _ hi, List.set_append_left _ _ (by have := w.1; omega)] at q
  exact q
theorem At.forget (w : At C ps Ep Z σ E H) {x : Option V} {i : Nat} (hi : i < E.length) : At C ps Ep Z (σ.set i x) (E.set i .un) H := by
  obtain ⟨F, f⟩ := w.2
  refine ⟨by rw [List.length_set, List.length_set]; exact w.1, ?_⟩
  have q := f.forget (i := i) (x := x)
  rw [List.set_append_left _ _ hi, List.set_append_left _ _ (by have := w.1; omega)] at q
  exact q
/-- what is pending is stored -/
theorem At.setP {v : V} {t : T} (w : At C (ps ++ [some v]) (Ep ++ [.ow t]) Z σ E H) {i : Nat} (hi : i < E.length) (nm : ∀ t, E[i]? ≠ some (.mu t)) : At C ps Ep Z (σ.set i (some v)) (E.set i (.ow t)) H := by
  obtain ⟨F, f⟩ := w.2
  refine ⟨by rw [List.length_set, List.length_set]; exact w.1, ?_⟩
  rw [← List.append_assoc, ← List.append_assoc] at f
  have q := f.move (i := i) (by rw [List.length_append]; omega) fun t => by rw [List.getElem?_append_left hi]; exact nm t
  rw [List.set_append_left _ _ hi, List.set_append_left _ _ (by have := w.1; omega)] at q
  exact q
/-- .. or frozen -/
theorem At.frP {v : V} {t : T} (w : At C (ps ++ [some v]) (Ep ++ [.ow t]) Z σ E H) : ∃ Z', Stp Z H Z' H ∧ At C ps Ep Z' σ E H ∧ Rep C.K Z' H v t.fz := by
  have w2 := w.2
  rw [← List.append_assoc, ← List.append_assoc] at w2
  have hl : (σ ++ ps).length = (E ++ Ep).length := by
    have q := w2.len
    simp only [List.length_append, List.length_singleton] at q ⊢
    omega
  have le : ((E ++ Ep) ++ [S.ow t])[(E ++ Ep).length]? = some (.ow t) := by rw [List.getElem?_append_right (Nat.le_refl _), Nat.sub_self]; rfl
  obtain ⟨v', Z', e, st, w', r⟩ := w2.freeze le
  rw [List.getElem?_append_right (by omega), hl, Nat.sub_self] at e
  have ev : v = v' := by
    have q : some (some v) = some (some v') := e
    exact Option.some.inj (Option.some.inj q)
  subst ev
  rw [List.set_append_right _ _ (Nat.le_refl _), Nat.sub_self] at w'
  obtain ⟨F, f⟩ := w'
  exact ⟨Z', st, ⟨w.1, WdF.drop (s := .fr t.fz) f⟩, r⟩
theorem At.push (w : At C ps Ep Z σ E H) {p : Addr} {vs : List V} {ds : List D} (hp : H p = none) (r : Reps C.K Z H vs ds) :
    Stp Z H Z (upd H p (.lst vs)) ∧ At C (ps ++ [some (.ref p)]) (Ep ++ [.ow (.lst ds)]) Z σ E (upd H p (.lst vs)) := by
  obtain ⟨F, f⟩ := w.2
  have st : Stp Z H Z (upd H p (.lst vs)) := Stp.new f.zt hp
  refine ⟨st, w.1, ?_⟩
  rw [← List.append_assoc, ← List.append_assoc]
  exact f.push hp (.lst upd_same (r.mono st))
end
end DL
set_option Elab.async false
set_option linter.all false
set_option maxRecDepth 100000
set_option maxHeartbeats 4000000
/-! DL, part c: judgements; names, constants, displays, operators, tests, subscripts. -/
namespace DL
open PySem PySem.Spec PyProof.Rows L2

/-- by a truth value; never unfolded by itself -/
@[irreducible] def brB (b : Bool) (A B : Prop) : Prop := (b = true → A) ∧ (b = false → B)
theorem brB.t {A B : Prop} (h : brB true A B) : A := by unfold brB at h; exact h.1 rfl
theorem brB.f {A B : Prop} (h : brB false A B) : B := by unfold brB at h; exact h.2 rfl
theorem br {b : Bool} {A B : Prop} (h1 : b = true → A) (h2 : b = false → B) : brB b A B := by unfold brB; exact ⟨h1, h2⟩
theorem brT {b : Bool} {A B : Prop} (e : b = true) (h : A) : brB b A B := br (fun _ => h) fun q => by rw [e] at q; cases q
theorem brF {b : Bool} {A B : Prop} (e : b = false) (h : B) : brB b A B := br (fun q => by rw [e] at q; cases q) fun _ => h
abbrev TD := List S → (D → List S → Prop) → Prop
abbrev TN := List S → (T → List S → Prop) → Prop
abbrev TB := List S → (Bool → List S → Prop) → Prop
abbrev TL := List S → (List D → List S → Prop) → Prop

/-- read now: data, or an owned tree -/
def BRep (K : Frg) (Z : Addr → Prop) (H : Hp) (v : V) (d : D) : Prop := Rep K Z H v d ∨ ∃ t F, TRep K Z H v t F ∧ t.fz = d

def teOf (C : Ctx) (t : TD) : TE := fun σ H Q => ∃ ps Ep E Z Qd, At C ps Ep Z σ E H ∧ t E Qd ∧ ∀ d E' Z' H' v, At C ps Ep Z' σ E' H' → Stp Z H Z' H' → Rep C.K Z' H' v d → Qd d E' → Q v H'
def tbOf (C : Ctx) (t : TD) : TE := fun σ H Q => ∃ ps Ep E Z Qd, At C ps Ep Z σ E H ∧ t E Qd ∧ ∀ d E' Z' H' v, At C ps Ep Z' σ E' H' → Stp Z H Z' H' → BRep C.K Z' H' v d → Qd d E' → Q v H'
def neOf (C : Ctx) (t : TN) : TE := fun σ H Q => ∃ ps Ep E Z Qd, At C ps Ep Z σ E H ∧ t E Qd ∧ ∀ tr E' Z' H' v, At C (ps ++ [some v]) (Ep ++ [.ow tr]) Z' σ E' H' → Stp Z H Z' H' → Qd tr E' → Q v H'
def ttOf (C : Ctx) (t : TB) : TT := fun σ H Q => ∃ ps Ep E Z Qd, At C ps Ep Z σ E H ∧ t E Qd ∧ ∀ b E' Z' H', At C ps Ep Z' σ E' H' → Stp Z H Z' H' → Qd b E' → Q b H'
def tlOf (C : Ctx) (n : Nat) (t : TL) : TA := fun σ H Q => ∃ ps Ep E Z Qd, At C ps Ep Z σ E H ∧ t E Qd ∧ ∀ ds E' Z' H' vs, At C ps Ep Z' σ E' H' → Stp Z H Z' H' → Reps C.K Z' H' vs ds → ds.length = n → Qd ds E' → Q vs H'

abbrev DE (C : Ctx) (X : Cx) (e : Expr) (t : TD) : Prop := PE X e (teOf C t)
abbrev DB (C : Ctx) (X : Cx) (e : Expr) (t : TD) : Prop := PE X e (tbOf C t)
abbrev DN (C : Ctx) (X : Cx) (e : Expr) (t : TN) : Prop := PE X e (neOf C t)
abbrev DT (C : Ctx) (X : Cx) (e : Expr) (t : TB) : Prop := PT X e (ttOf C t)
abbrev DW (C : Ctx) (X : Cx) (e : Expr) (t : TB) : Prop := PW X e (ttOf C t)
abbrev DA (C : Ctx) (X : Cx) (es : List Expr) (t : TL) : Prop := PA X es (tlOf C es.length t)

theorem _root_.L2.PE.imp {X : Cx} {e : Expr} {t t' : TE} (h : PE X e t) (k : ∀ σ H Q, t' σ H Q → t σ H Q) : PE X e t' := ⟨fun pins s σ H Q I q => h.run pins s σ H Q I (k σ H Q q)⟩
theorem _root_.L2.PT.imp {X : Cx} {e : Expr} {t t' : TT} (h : PT X e t) (k : ∀ σ H Q, t' σ H Q → t σ H Q) : PT X e t' := ⟨fun pins s σ H Q I q => h.run pins s σ H Q I (k σ H Q q)⟩
theorem _root_.L2.PW.imp {X : Cx} {e : Expr} {t t' : TT} (h : PW X e t) (k : ∀ σ H Q, t' σ H Q → t σ H Q) : PW X e t' := ⟨fun wh pins s σ H Q I q => h.run wh pins s σ H Q I (k σ H Q q)⟩
theorem _root_.L2.PA.imp {X : Cx} {es : List Expr} {t t' : TA} (h : PA X es t) (k : ∀ σ H Q, t' σ H Q → t σ H Q) : PA X es t' := ⟨fun pos pins s σ H Q I q => h.run pos pins s σ H Q I (k σ H Q q)⟩
theorem _root_.L2.PS.imp {X : Cx} {st : Stmt} {t t' : TS} (h : PS X st t) (k : ∀ D σ H, t' D σ H → t D σ H) : PS X st t' := ⟨fun pins s σ H D I q => h.run pins s σ H D I (k D σ H q)⟩
theorem _root_.L2.PSs.imp {X : Cx} {st : List Stmt} {t t' : TS} (h : PSs X st t) (k : ∀ D σ H, t' D σ H → t D σ H) : PSs X st t' := ⟨fun pins s σ H D I q => h.run pins s σ H D I (k D σ H q)⟩
theorem _root_.L2.PG.imp {X : Cx} {e : Expr} {t t' : TG} (h : PG X e t) (k : ∀ v σ H Q, t' v σ H Q → t v σ H Q) : PG X e t' := ⟨fun pins s σ H v u Q I r q => h.run pins s σ H v u Q I r (k v σ H Q q)⟩
theorem _root_.L2.PI.imp {X : Cx} {tg e : Expr} {t t' : TI} (h : PI X tg e t) (k : ∀ σ H R, t' σ H R → t σ H R) : PI X tg e t' := ⟨fun pins s σ H R I q => h.run pins s σ H R I (k σ H R q)⟩

/-! ### data as the library's data -/
mutual
def D.py : D → PyData
  | .non => .none
  | .bl b => .bool b
  | .int i => .int i
  | .str x => .str x
  | .tup ds => .tuple (D.pys ds)
  | .lst ds => .list (D.pys ds)
  | .scr ds => .list (D.pys ds)
  | .dic _ _ => .dict []
  | .obj _ _ _ => .dict []
def D.pys : List D → List PyData
  | [] => []
  | d :: ds => d.py :: D.pys ds
end
theorem pys_map : ∀ ds : List D, D.pys ds = ds.map D.py
  | [] => rfl
  | d :: ds => by rw [D.pys, pys_map ds]; rfl
def D.shp (d : D) : Bool := SeqAt.shaped d.py
def D.eqv (d e : D) : Bool := PyData.eqv d.py e.py
mutual
theorem Rep.dp {K : Frg} {Z : Addr → Prop} {H : Hp} : ∀ {v : V} {d : D}, Rep K Z H v d → d.py.canLay0 = true → Dp K H v d.py
  | _, _, .non, _ => .non
  | _, _, .bl b, _ => .bl b
  | _, _, .int i, _ => .int i
  | _, _, .str x, _ => .str x
  | _, _, .tup h hs, c => .tup h (Reps.dp hs c)
  | _, _, .lst h hs, c => .lst h.sq (Reps.dp hs c)
  | _, _, .scr h hs, c => .lst h.sq (Reps.dp hs c)
  | _, _, .dic _ _ _ _, c => by simp [D.py, PyData.canLay0] at c
  | _, _, .obj _ _ _ _, c => by simp [D.py, PyData.canLay0] at c
theorem Reps.dp {K : Frg} {Z : Addr → Prop} {H : Hp} : ∀ {vs : List V} {ds : List D}, Reps K Z H vs ds → PyData.canLayAll0 (D.pys ds) = true → DpAll K H vs (D.pys ds)
  | _, _, .nil, _ => .nil
  | _, _, .cons h hs, c => by
    have c' := Bool.and_eq_true_iff.mp (show (PyData.canLay0 _ && PyData.canLayAll0 _) = true from c)
    exact .cons (Rep.dp h c'.1) (Reps.dp hs c'.2)
end
theorem BRep.dp {K : Frg} {Z : Addr → Prop} {H : Hp} {v : V} {d : D} (h : BRep K Z H v d) (c : d.py.canLay0 = true) : Dp K H v d.py := by
  rcases h with h | ⟨t, F, h, e⟩
  · exact h.dp c
  · cases h with
    | fr h => rw [← e] at c ⊢; exact h.dp c
    | lst h hs => rw [← e] at c ⊢; exact .lst (.of h) (Reps.dp hs c)
    | dic h e1 hs => rw [← e] at c; simp [T.fz, D.py, PyData.canLay0] at c
    | obj h e1 hs => rw [← e] at c; simp [T.fz, D.py, PyData.canLay0] at c
theorem BRep.lst {K : Frg} {Z : Addr → Prop} {H : Hp} {v : V} {ds : List D} (h : BRep K Z H v (.lst ds)) : ∃ a vs, v = .ref a ∧ SqL K H a vs ∧ Reps K Z H vs ds := by
  rcases h with h | ⟨t, F, h, e⟩
  · cases h with
    | lst h hs => exact ⟨_, _, rfl, h.sq, hs⟩
  · cases h with
    | fr h =>
      rw [show (T.fr _).fz = _ from rfl] at e
      subst e
      cases h with
      | lst h hs => exact ⟨_, _, rfl, h.sq, hs⟩
    | lst h hs => cases e; exact ⟨_, _, rfl, .of h, hs⟩
    | dic h e1 hs => cases e
    | obj h e1 hs => cases e
theorem BRep.tup {K : Frg} {Z : Addr → Prop} {H : Hp} {v : V} {ds : List D} (h : BRep K Z H v (.tup ds)) : ∃ a vs, v = .ref a ∧ SqT K H a vs ∧ Reps K Z H vs ds := by
  rcases h with h | ⟨t, F, h, e⟩
  · cases h with
    | tup h hs => exact ⟨_, _, rfl, h, hs⟩
  · cases h with
    | fr h =>
      rw [show (T.fr _).fz = _ from rfl] at e
      subst e
      cases h with
      | tup h hs => exact ⟨_, _, rfl, h, hs⟩
    | lst h hs => cases e
    | dic h e1 hs => cases e
    | obj h e1 hs => cases e
theorem BRep.str {K : Frg} {Z : Addr → Prop} {H : Hp} {v : V} {x : Str} (h : BRep K Z H v (.str x)) : v = .str x := by
  rcases h with h | ⟨t, F, h, e⟩
  · cases h; rfl
  · cases h with
    | fr h =>
      rw [show (T.fr _).fz = _ from rfl] at e
      subst e
      cases h; rfl
    | lst h hs => cases e
    | dic h e1 hs => cases e
    | obj h e1 hs => cases e

section
variable {C : Ctx} {X : Cx}
/-! ### names -/
def tv (i : Nat) : TD := fun E Q => match E[i]? with
  | some (.fr d) => Q d E
  | some (.ow t) => Q t.fz (E.set i (.fr t.fz))
  | _ => False
theorem de_v (i : Nat) {x : Str} {pos : Pos} (hN : X.N[i]? = some x := by rfl) (hv : Vis X.env.scope x := by first | exact Or.inl rfl | exact Or.inr (Or.inl rfl) | exact Or.inr (Or.inr rfl)) (hd : (x == ("__debug__" : Str)) = false := by decide)
    (hcd : (x == ("__classdict__" : Str)) = false := by decide) : DE C X (.Name x pos) (tv i) := (pe_var hN hv hd hcd).imp fun σ H Q ⟨ps, Ep, E, Z, Qd, w, h, post⟩ => by
  unfold tv at h
  split at h
  · rename_i d e
    obtain ⟨v, e1, r⟩ := w.get e
    exact ⟨v, e1, post d E Z H v w (Stp.refl _ _) r h⟩
  · rename_i t e
    obtain ⟨v, Z', e1, st, w', r⟩ := w.freeze e
    exact ⟨v, e1, post _ _ Z' H v w' st r h⟩
  · cases h
/-- a name that is only looked at -/
def tbv (i : Nat) : TD := fun E Q => match E[i]? with
  | some (.fr d) => Q d E
  | some (.ow t) => Q t.fz E
  | some (.mu t) => Q t.fz E
  | _ => False
theorem db_v (i : Nat) {x : Str} {pos : Pos} (hN : X.N[i]? = some x := by rfl) (hv : Vis X.env.scope x := by first | exact Or.inl rfl | exact Or.inr (Or.inl rfl) | exact Or.inr (Or.inr rfl)) (hd : (x == ("__debug__" : Str)) = false := by decide)
    (hcd : (x == ("__classdict__" : Str)) = false := by decide) : DB C X (.Name x pos) (tbv i) := (pe_var hN hv hd hcd).imp fun σ H Q ⟨ps, Ep, E, Z, Qd, w, h, post⟩ => by
  unfold tbv at h
  split at h
  · rename_i d e
    obtain ⟨v, e1, r⟩ := w.get e
    exact ⟨v, e1, post d E Z H v w (Stp.refl _ _) (.inl r) h⟩
  · rename_i t e
    obtain ⟨v, F, e1, r⟩ := w.tree e (t := t) rfl
    exact ⟨v, e1, post _ _ Z H v w (Stp.refl _ _) (.inr ⟨t, F, r, rfl⟩) h⟩
  · rename_i t e
    obtain ⟨v, F, e1, r⟩ := w.tree e (t := t) rfl
    exact ⟨v, e1, post _ _ Z H v w (Stp.refl _ _) (.inr ⟨t, F, r, rfl⟩) h⟩
  · cases h
theorem db_e {e : Expr} {t : TD} (h : DE C X e t) : DB C X e t := h.imp fun σ H Q ⟨ps, Ep, E, Z, Qd, w, ht, post⟩ => ⟨ps, Ep, E, Z, Qd, w, ht, fun d E' Z' H' v w' st r q => post d E' Z' H' v w' st (.inl r) q⟩

/-! ### constants -/
def tc (d : D) : TD := fun E Q => Q d E
theorem de_of {e : Expr} {v : V} {d : D} (h : PE X e (tC v)) (r : ∀ Z H, Rep C.K Z H v d) : DE C X e (tc d) := h.imp fun σ H Q ⟨ps, Ep, E, Z, Qd, w, h, post⟩ => post d E Z H v w (Stp.refl _ _) (r _ _) h
theorem de_int {i : Int} {j pos} : DE C X (.Constant (.int i) j pos) (tc (.int i)) := de_of pe_int fun _ _ => .int i
theorem de_bl {b : Bool} {j pos} : DE C X (.Constant (.bool b) j pos) (tc (.bl b)) := de_of pe_bl fun _ _ => .bl b
theorem de_non {j pos} : DE C X (.Constant .none j pos) (tc .non) := de_of pe_non fun _ _ => .non
theorem de_str {x : Str} {j pos} : DE C X (.Constant (.str x) j pos) (tc (.str x)) := de_of pe_str fun _ _ => .str x
theorem de_glob {x : Str} {v : V} {d : D} {u : Value} {pos : Pos} (hg : Gl X x) (hm : X.mg x = some u) (rv : RelV v u) (r : ∀ Z H, Rep C.K Z H v d) (hd : (x == ("__debug__" : Str)) = false := by decide) : DE C X (.Name x pos) (tc d) := de_of (pe_glob hg hm rv hd) r

/-! ### argument lists, displays -/
def tlNil : TL := fun E Q => Q [] E
def tlCons (t : TD) (u : TL) : TL := fun E Q => t E fun d E1 => u E1 fun ds E2 => Q (d :: ds) E2
theorem da_nil : DA C X [] tlNil := pa_nil.imp fun σ H Q ⟨ps, Ep, E, Z, Qd, w, h, post⟩ => post [] E Z H [] w (Stp.refl _ _) .nil rfl h
theorem da_cons {e : Expr} {es : List Expr} {t : TD} {u : TL} (ha : DE C X e t) (hr : DA C X es u) (hs : starEach (e :: es) X.env = (false, eval e X.env) :: starEach es X.env := by rfl) : DA C X (e :: es) (tlCons t u) :=
  (pa_cons ha hr hs).imp fun σ H Q ⟨ps, Ep, E, Z, Qd, w, h, post⟩ => ⟨ps, Ep, E, Z, _, w, h, fun d E1 Z1 H1 v w1 st1 r1 h1 => ⟨ps, Ep, E1, Z1, _, w1, h1, fun ds E2 Z2 H2 vs w2 st2 r2 n h2 =>
    post _ E2 Z2 H2 _ w2 (st1.trans st2) (.cons (r1.mono st2) r2) (by rw [List.length_cons, List.length_cons, n]) h2⟩⟩
def tTupD (t : TL) : TD := fun E Q => t E fun ds E1 => Q (.tup ds) E1
theorem de_tup {es : List Expr} {t : TL} {x1} {pos : Pos} (h : DA C X es t) (hn : es.length ≤ 16777216 := by decide) : DE C X (.Tuple es x1 pos) (tTupD t) :=
  (pe_tup h).imp fun σ H Q ⟨ps, Ep, E, Z, Qd, w, h, post⟩ => ⟨ps, Ep, E, Z, _, w, h, fun ds E1 Z1 H1 vs w1 st1 r1 n h1 => ⟨by rw [r1.length, n, sizeLine_eq]; exact hn, fun p hp =>
    have st2 := Stp.new (o := .tup vs) w1.zt hp
    post _ E1 Z1 _ _ (w1.new hp) (st1.trans st2) (.tup (.of upd_same) (r1.mono st2)) h1⟩⟩
def tLstD (t : TL) : TN := fun E Q => t E fun ds E1 => Q (.lst ds) E1
theorem dn_lst {es : List Expr} {t : TL} {pos : Pos} (h : DA C X es t) (hn : es.length ≤ 16777216 := by decide) : DN C X (.List es pos) (tLstD t) :=
  (pe_lst h).imp fun σ H Q ⟨ps, Ep, E, Z, Qd, w, h, post⟩ => ⟨ps, Ep, E, Z, _, w, h, fun ds E1 Z1 H1 vs w1 st1 r1 n h1 => ⟨by rw [r1.length, n, sizeLine_eq]; exact hn, fun p hp => by
    obtain ⟨st2, w2⟩ := w1.push hp r1
    exact post _ E1 Z1 _ _ w2 (st1.trans st2) h1⟩⟩
/-- what is new is frozen -/
def tFz (t : TN) : TD := fun E Q => t E fun tr E1 => Q tr.fz E1
theorem de_n {e : Expr} {t : TN} (h : DN C X e t) : DE C X e (tFz t) := h.imp fun σ H Q ⟨ps, Ep, E, Z, Qd, w, h, post⟩ => ⟨ps, Ep, E, Z, _, w, h, fun tr E1 Z1 H1 v w1 st1 h1 => by
  obtain ⟨Z2, st2, w2, r2⟩ := w1.frP
  exact post _ E1 Z2 H1 v w2 (st1.trans st2) r2 h1⟩

/-! ### operators -/
abbrev O2 := D → D → (D → Prop) → Prop
def tOp2 (o : O2) (ta tb : TD) : TD := fun E Q => ta E fun x E1 => tb E1 fun y E2 => o x y fun z => Q z E2
/-- what a library's rule asks is met by o, the heap stays -/
def Meets (C : Ctx) (o : O2) (r : R2) : Prop := ∀ (Z : Addr → Prop) (H : Hp) (v w : V) (x y : D) (q : D → Prop) (Q : VK), Rep C.K Z H v x → Rep C.K Z H w y → o x y q → (∀ z d, Rep C.K Z H z d → q d → Q z H) → r v w H Q
theorem op2_imp {o : O2} {r : R2} (m : Meets C o r) {ta tb : TD} (σ : Sg) (H : Hp) (Q : VK) (h : teOf C (tOp2 o ta tb) σ H Q) : tOp r (teOf C ta) (teOf C tb) σ H Q := by
  obtain ⟨ps, Ep, E, Z, Qd, w, h, post⟩ := h
  exact ⟨ps, Ep, E, Z, _, w, h, fun x E1 Z1 H1 v w1 st1 r1 h1 => ⟨ps, Ep, E1, Z1, _, w1, h1, fun y E2 Z2 H2 u w2 st2 r2 h2 => m Z2 H2 v u x y _ Q (r1.mono st2) r2 h2 fun z d rz q => post d E2 Z2 H2 z w2 (st1.trans st2) rz q⟩⟩
theorem de_op {op : Operator} {o : O2} {r : R2} {a b : Expr} {ta tb : TD} {pos : Pos} (ho : OpR X (binaryOp op) r ∧ Meets C o r) (ha : DE C X a ta) (hb : DE C X b tb) : DE C X (.BinOp a op b pos) (tOp2 o ta tb) :=
  (pe_op ho.1 ha hb).imp (op2_imp ho.2)
theorem de_cmp {op : CmpOp} {o : O2} {r : R2} {a b : Expr} {ta tb : TD} {pos : Pos} (ho : OpR X (compareOp op) r ∧ Meets C o r) (ha : DE C X a ta) (hb : DE C X b tb) (hm : behindInMarks op b = false := by first | exact nomark _ | rfl) : DE C X (.Compare a [op] [b] pos) (tOp2 o ta tb) :=
  (pe_cmpR ho.1 ha hb hm).imp (op2_imp ho.2)
def tOp2B (o : O2) (ta tb : TD) : TB := fun E Q => ta E fun x E1 => tb E1 fun y E2 => o x y fun z => match z with
  | .bl k => Q k E2
  | _ => False
theorem dt_cmp {op : CmpOp} {o : O2} {r : R2} {a b : Expr} {ta tb : TD} {pos : Pos} (ho : OpR X (compareOp op) r ∧ Meets C o r) (ha : DE C X a ta) (hb : DE C X b tb) (hm : behindInMarks op b = false := by first | exact nomark _ | rfl) : DT C X (.Compare a [op] [b] pos) (tOp2B o ta tb) :=
  (pt_cmpR ho.1 ha hb hm).imp fun σ H Q ⟨ps, Ep, E, Z, Qd, w, h, post⟩ => ⟨ps, Ep, E, Z, _, w, h, fun x E1 Z1 H1 v w1 st1 r1 h1 => ⟨ps, Ep, E1, Z1, _, w1, h1, fun y E2 Z2 H2 u w2 st2 r2 h2 => ho.2 Z2 H2 v u x y _ _ (r1.mono st2) r2 h2 fun z d rz q => by
    cases rz with
    | bl k => exact ⟨k, rfl, post k E2 Z2 H2 w2 (st1.trans st2) q⟩
    | _ => cases q⟩⟩

def oI (f : Int → Int → D) : O2 := fun x y q => match x, y with
  | .int i, .int j => q (f i j)
  | _, _ => False
def oIc (c : Int → Int → Prop) (f : Int → Int → D) : O2 := fun x y q => match x, y with
  | .int i, .int j => c i j ∧ q (f i j)
  | _, _ => False
theorem meets_I {f : Int → Int → D} {g : Int → Int → V} (hr : ∀ K Z H i j, Rep K Z H (g i j) (f i j)) : Meets C (oI f) (rI0 g) := fun Z H v w x y q Q rx ry h k => by
  unfold oI at h
  split at h
  · cases rx; cases ry
    exact ⟨_, _, rfl, rfl, k _ _ (hr _ _ _ _ _) h⟩
  · cases h
theorem meets_Ic {c c' : Int → Int → Prop} {f : Int → Int → D} {g : Int → Int → V} (hr : ∀ K Z H i j, Rep K Z H (g i j) (f i j)) (hc : ∀ i j, c i j → c' i j) : Meets C (oIc c f) (rI c' g) := fun Z H v w x y q Q rx ry h k => by
  unfold oIc at h
  split at h
  · cases rx; cases ry
    exact ⟨_, _, rfl, rfl, hc _ _ h.1, k _ _ (hr _ _ _ _ _) h.2⟩
  · cases h
abbrev iInt (f : Int → Int → Int) : Int → Int → D := fun i j => .int (f i j)
abbrev iBl (f : Int → Int → Bool) : Int → Int → D := fun i j => .bl (f i j)
theorem o_sub : OpR X (binaryOp .Sub) (rI0 fun i j => .int (i - j)) ∧ Meets C (oI (iInt fun i j => i - j)) (rI0 fun i j => .int (i - j)) := ⟨op_sub, meets_I fun _ _ _ _ _ => .int _⟩
theorem o_mul : OpR X (binaryOp .Mult) (rI CMul fun i j => .int (i * j)) ∧ Meets C (oIc CMul (iInt fun i j => i * j)) (rI CMul fun i j => .int (i * j)) := ⟨op_mul, meets_Ic (fun _ _ _ _ _ => .int _) fun _ _ h => h⟩
theorem o_fdiv : OpR X (binaryOp .FloorDiv) (rI CDiv fun i j => .int (i / j)) ∧ Meets C (oIc CDiv (iInt fun i j => i / j)) (rI CDiv fun i j => .int (i / j)) := ⟨op_fdiv, meets_Ic (fun _ _ _ _ _ => .int _) fun _ _ h => h⟩
theorem o_mod : OpR X (binaryOp .Mod) (rI (fun _ j => 0 < j) fun i j => .int (i % j)) ∧ Meets C (oIc (fun _ j => 0 < j) (iInt fun i j => i % j)) (rI (fun _ j => 0 < j) fun i j => .int (i % j)) := ⟨op_mod, meets_Ic (fun _ _ _ _ _ => .int _) fun _ _ h => h⟩
theorem o_pow : OpR X (binaryOp .Pow) (rI CPow fun i j => .int (i ^ j.toNat)) ∧ Meets C (oIc CPow (iInt fun i j => i ^ j.toNat)) (rI CPow fun i j => .int (i ^ j.toNat)) := ⟨op_pow, meets_Ic (fun _ _ _ _ _ => .int _) fun _ _ h => h⟩
theorem o_lt : OpR X (compareOp .Lt) (rI0 fun i j => .bl (decide (i < j))) ∧ Meets C (oI (iBl fun i j => decide (i < j))) (rI0 fun i j => .bl (decide (i < j))) := ⟨op_lt, meets_I fun _ _ _ _ _ => .bl _⟩
theorem o_le : OpR X (compareOp .LtE) (rI0 fun i j => .bl (decide (i ≤ j))) ∧ Meets C (oI (iBl fun i j => decide (i ≤ j))) (rI0 fun i j => .bl (decide (i ≤ j))) := ⟨op_le, meets_I fun _ _ _ _ _ => .bl _⟩
theorem o_gt : OpR X (compareOp .Gt) (rI0 fun i j => .bl (decide (j < i))) ∧ Meets C (oI (iBl fun i j => decide (j < i))) (rI0 fun i j => .bl (decide (j < i))) := ⟨op_gt, meets_I fun _ _ _ _ _ => .bl _⟩
theorem o_ge : OpR X (compareOp .GtE) (rI0 fun i j => .bl (decide (j ≤ i))) ∧ Meets C (oI (iBl fun i j => decide (j ≤ i))) (rI0 fun i j => .bl (decide (j ≤ i))) := ⟨op_ge, meets_I fun _ _ _ _ _ => .bl _⟩
/-- + of ints, of texts -/
def oAdd : O2 := fun x y q => match x, y with
  | .int i, .int j => q (.int (i + j))
  | .str a, .str b => a.length + b.length ≤ sizeLine ∧ q (.str (a ++ b))
  | _, _ => False
def rAddA : R2 := fun x y H Q => (∃ i j, x = .int i ∧ y = .int j ∧ Q (.int (i + j)) H) ∨ ∃ i j, x = .str i ∧ y = .str j ∧ i.length + j.length ≤ sizeLine ∧ Q (.str (i ++ j)) H
theorem o_add : OpR X (binaryOp .Add) rAddA ∧ Meets C oAdd rAddA := ⟨op_add.or op_add_str, fun Z H v w x y q Q rx ry h k => by
  unfold oAdd at h
  split at h
  · cases rx; cases ry
    exact .inl ⟨_, _, rfl, rfl, k _ _ (.int _) h⟩
  · cases rx; cases ry
    exact .inr ⟨_, _, rfl, rfl, h.1, k _ _ (.str _) h.2⟩
  · cases h⟩
/-- == and != of data -/
def oEq : O2 := fun x y q => (x.shp = true ∧ y.shp = true) ∧ q (.bl (x.eqv y))
def oNe : O2 := fun x y q => (x.shp = true ∧ y.shp = true) ∧ q (.bl (!x.eqv y))
theorem shp_lay {d : D} (h : d.shp = true) : d.py.canLay0 = true := SeqAt.canLay_of_shaped h
theorem o_eq (hu : X.A.units + 64 < cLine) (hK : X.K = C.K := by rfl) : OpR X (compareOp .Eq) (rEqD X.K) ∧ Meets C oEq (rEqD X.K) := ⟨op_eqD hu, fun Z H v w x y q Q rx ry h k => by
  rw [hK]
  exact ⟨_, _, rx.dp (shp_lay h.1.1), ry.dp (shp_lay h.1.2), h.1.1, h.1.2, k _ _ (.bl _) h.2⟩⟩
theorem o_ne (hu : X.A.units + 64 < cLine) (hK : X.K = C.K := by rfl) : OpR X (compareOp .NotEq) (rNeD X.K) ∧ Meets C oNe (rNeD X.K) := ⟨op_neD hu, fun Z H v w x y q Q rx ry h k => by
  rw [hK]
  exact ⟨_, _, rx.dp (shp_lay h.1.1), ry.dp (shp_lay h.1.2), h.1.1, h.1.2, k _ _ (.bl _) h.2⟩⟩
/-- is None -/
def D.isN : D → Bool
  | .non => true
  | _ => false
theorem Rep.isN {K : Frg} {Z : Addr → Prop} {H : Hp} {v : V} {d : D} (h : Rep K Z H v d) : decide (v = .non) = d.isN := by cases h <;> rfl
def oIs : O2 := fun x y q => match y with
  | .non => q (.bl x.isN)
  | _ => False
def oIsnt : O2 := fun x y q => match y with
  | .non => q (.bl (!x.isN))
  | _ => False
theorem o_is : OpR X (compareOp .Is) (fun x y H Q => y = .non ∧ Q (.bl (decide (x = .non))) H) ∧ Meets C oIs (fun x y H Q => y = .non ∧ Q (.bl (decide (x = .non))) H) := ⟨op_isN, fun Z H v w x y q Q rx ry h k => by
  unfold oIs at h
  split at h
  · cases ry
    exact ⟨rfl, by rw [rx.isN]; exact k _ _ (.bl _) h⟩
  · cases h⟩
theorem o_isnt : OpR X (compareOp .IsNot) (fun x y H Q => y = .non ∧ Q (.bl (!decide (x = .non))) H) ∧ Meets C oIsnt (fun x y H Q => y = .non ∧ Q (.bl (!decide (x = .non))) H) := ⟨op_notN, fun Z H v w x y q Q rx ry h k => by
  unfold oIsnt at h
  split at h
  · cases ry
    exact ⟨rfl, by rw [rx.isN]; exact k _ _ (.bl _) h⟩
  · cases h⟩

/-! ### one operand -/
def tUn1 (o : D → (D → Prop) → Prop) (t : TD) : TD := fun E Q => t E fun x E1 => o x fun z => Q z E1
def oNeg : D → (D → Prop) → Prop := fun x q => match x with
  | .int i => q (.int (-i))
  | _ => False
theorem de_neg {a : Expr} {t : TD} {pos : Pos} (ha : DE C X a t) : DE C X (.UnaryOp .USub a pos) (tUn1 oNeg t) := (pe_un un_neg ha).imp fun σ H Q ⟨ps, Ep, E, Z, Qd, w, h, post⟩ => ⟨ps, Ep, E, Z, _, w, h, fun x E1 Z1 H1 v w1 st1 r1 h1 => by
  unfold oNeg at h1
  split at h1
  · cases r1
    exact ⟨_, rfl, post _ E1 Z1 H1 _ w1 st1 (.int _) h1⟩
  · cases h1⟩

/-! ### tests -/
/-- the truth of data -/
def truD (d : D) (q : Bool → Prop) : Prop := match d with
  | .non => q false
  | .bl b => q b
  | .int i => q (i != 0)
  | .str x => x.length ≤ sizeLine ∧ q ((x.length : Int) != 0)
  | .tup ds => q (!ds.isEmpty)
  | .lst ds => q (!ds.isEmpty)
  | .scr ds => q (!ds.isEmpty)
  | .dic ks _ => q (!ks.isEmpty)
  | .obj _ _ _ => False
theorem isEmpty_reps {K : Frg} {Z : Addr → Prop} {H : Hp} {vs : List V} {ds : List D} (h : Reps K Z H vs ds) : vs.isEmpty = ds.isEmpty := by cases h <;> rfl
theorem BRep.tru {K : Frg} {Z : Addr → Prop} {H : Hp} {v : V} {d : D} {q : Bool → Prop} (r : BRep K Z H v d) (h : truD d q) : ∃ k, TruV K v H k ∧ q k := by
  have main : ∀ {v : V} {d : D}, Rep K Z H v d → truD d q → ∃ k, TruV K v H k ∧ q k := by
    intro v d r h
    cases r with
    | non => exact ⟨_, rfl, h⟩
    | bl b => exact ⟨_, rfl, h⟩
    | int i => exact ⟨_, rfl, h⟩
    | str x => exact ⟨_, ⟨h.1, rfl⟩, h.2⟩
    | tup hs rs =>
      refine ⟨_, .inr (.inl ⟨_, hs, rfl⟩), ?_⟩
      rw [isEmpty_reps rs]; exact h
    | lst hs rs =>
      refine ⟨_, .inl ⟨_, hs.sq, rfl⟩, ?_⟩
      rw [isEmpty_reps rs]; exact h
    | scr hs rs =>
      refine ⟨_, .inl ⟨_, hs.sq, rfl⟩, ?_⟩
      rw [isEmpty_reps rs]; exact h
    | dic z hs e rs =>
      refine ⟨_, .inr (.inr ⟨_, hs, rfl⟩), ?_⟩
      subst e
      have q2 : q (!(List.map (fun x : Key × V => x.1) _).isEmpty) := h
      rw [List.isEmpty_map] at q2
      exact q2
    | obj z hs e rs => cases h
  rcases r with r | ⟨t, F, r, e⟩
  · exact main r h
  · cases r with
    | fr r => subst e; exact main r h
    | lst hs rs =>
      subst e
      refine ⟨_, .inl ⟨_, .of hs, rfl⟩, ?_⟩
      rw [isEmpty_reps rs]; exact h
    | dic hs e1 rs =>
      subst e
      refine ⟨_, .inr (.inr ⟨_, hs, rfl⟩), ?_⟩
      subst e1
      have q2 : q (!(List.map (fun x : Key × V => x.1) _).isEmpty) := h
      rw [List.isEmpty_map] at q2
      exact q2
    | obj hs e1 rs => subst e; cases h
def tTru (t : TD) : TB := fun E Q => t E fun d E1 => truD d fun k => Q k E1
theorem dt_b {e : Expr} {t : TD} (ha : DB C X e t) (he : ∀ whole, isTrue e X.env whole = (do let v ← whole; standAt e.pos; holding [v] (truthy v)) := by intro _; rfl) (hK : X.K = C.K := by rfl) : DT C X e (tTru t) :=
  (pt_truth ha he).imp fun σ H Q ⟨ps, Ep, E, Z, Qd, w, h, post⟩ => ⟨ps, Ep, E, Z, _, w, h, fun d E1 Z1 H1 v w1 st1 r1 h1 => by
    obtain ⟨k, tk, q⟩ := r1.tru h1
    rw [hK]
    exact ⟨k, tk, post k E1 Z1 H1 w1 st1 q⟩⟩
theorem dt_e {e : Expr} {t : TD} (ha : DE C X e t) (he : ∀ whole, isTrue e X.env whole = (do let v ← whole; standAt e.pos; holding [v] (truthy v)) := by intro _; rfl) (hK : X.K = C.K := by rfl) : DT C X e (tTru t) := dt_b (db_e ha) he hK
def tAndD (t u : TB) : TB := fun E Q => t E fun c E1 => brB c (u E1 Q) (Q false E1)
def tOrD (t u : TB) : TB := fun E Q => t E fun c E1 => brB c (Q true E1) (u E1 Q)
def tNotD (t : TB) : TB := fun E Q => t E fun c E1 => Q (!c) E1
theorem dw_and1 {a : Expr} {t : TB} {pos : Pos} (ha : DT C X a t) : DW C X (.BoolOp .And [a] pos) t := pw_and1 ha
theorem dw_or1 {a : Expr} {t : TB} {pos : Pos} (ha : DT C X a t) : DW C X (.BoolOp .Or [a] pos) t := pw_or1 ha
theorem dw_and {a b : Expr} {rest : List Expr} {t u : TB} {pos : Pos} (ha : DT C X a t) (hb : DW C X (.BoolOp .And (b :: rest) pos) u) : DW C X (.BoolOp .And (a :: b :: rest) pos) (tAndD t u) :=
  (pw_and ha hb).imp fun σ H Q ⟨ps, Ep, E, Z, Qd, w, h, post⟩ => ⟨ps, Ep, E, Z, _, w, h, fun c E1 Z1 H1 w1 st1 h1 => by
    cases c with
    | true =>
      have h1 : u E1 Qd := (by first | exact h1.t | exact h1.f)
      exact ⟨ps, Ep, E1, Z1, Qd, w1, h1, fun b E2 Z2 H2 w2 st2 h2 => post b E2 Z2 H2 w2 (st1.trans st2) h2⟩
    | false => exact post false E1 Z1 H1 w1 st1 h1.f⟩
theorem dw_or {a b : Expr} {rest : List Expr} {t u : TB} {pos : Pos} (ha : DT C X a t) (hb : DW C X (.BoolOp .Or (b :: rest) pos) u) : DW C X (.BoolOp .Or (a :: b :: rest) pos) (tOrD t u) :=
  (pw_or ha hb).imp fun σ H Q ⟨ps, Ep, E, Z, Qd, w, h, post⟩ => ⟨ps, Ep, E, Z, _, w, h, fun c E1 Z1 H1 w1 st1 h1 => by
    cases c with
    | false =>
      have h1 : u E1 Qd := (by first | exact h1.t | exact h1.f)
      exact ⟨ps, Ep, E1, Z1, Qd, w1, h1, fun b E2 Z2 H2 w2 st2 h2 => post b E2 Z2 H2 w2 (st1.trans st2) h2⟩
    | true => exact post true E1 Z1 H1 w1 st1 h1.t⟩
theorem dt_w {e : Expr} {t : TB} (h : DW C X e t) : DT C X e t := PW.pt h
theorem dt_not {a : Expr} {t : TB} {pos : Pos} (ha : DT C X a t) : DT C X (.UnaryOp .Not a pos) (tNotD t) :=
  (pt_not ha).imp fun σ H Q ⟨ps, Ep, E, Z, Qd, w, h, post⟩ => ⟨ps, Ep, E, Z, _, w, h, fun c E1 Z1 H1 w1 st1 h1 => post _ E1 Z1 H1 w1 st1 h1⟩
/-- as values, of bools -/
def tAndV' (t u : TD) : TD := fun E Q => t E fun d E1 => match d with
  | .bl c => brB c (u E1 Q) (Q (.bl false) E1)
  | _ => False
def tOrV' (t u : TD) : TD := fun E Q => t E fun d E1 => match d with
  | .bl c => brB c (Q (.bl true) E1) (u E1 Q)
  | _ => False
theorem de_one {op} {a : Expr} {t : TD} {pos : Pos} (h : DE C X a t) : DE C X (.BoolOp op [a] pos) t := pe_one h
theorem de_and {a b : Expr} {rest : List Expr} {t u : TD} {pos : Pos} (ha : DE C X a t) (hb : DE C X (.BoolOp .And (b :: rest) pos) u) : DE C X (.BoolOp .And (a :: b :: rest) pos) (tAndV' t u) :=
  (pe_and ha hb).imp fun σ H Q ⟨ps, Ep, E, Z, Qd, w, h, post⟩ => ⟨ps, Ep, E, Z, _, w, h, fun d E1 Z1 H1 v w1 st1 r1 h1 => by
    cases r1 with
    | bl c =>
      refine ⟨c, rfl, ?_⟩
      cases c with
      | true =>
        have h1 : u E1 Qd := (by first | exact h1.t | exact h1.f)
        exact ⟨ps, Ep, E1, Z1, Qd, w1, h1, fun b E2 Z2 H2 v2 w2 st2 r2 h2 => post b E2 Z2 H2 v2 w2 (st1.trans st2) r2 h2⟩
      | false => exact post _ E1 Z1 H1 _ w1 st1 (.bl _) h1.f
    | _ => cases h1⟩
theorem de_or {a b : Expr} {rest : List Expr} {t u : TD} {pos : Pos} (ha : DE C X a t) (hb : DE C X (.BoolOp .Or (b :: rest) pos) u) : DE C X (.BoolOp .Or (a :: b :: rest) pos) (tOrV' t u) :=
  (pe_or ha hb).imp fun σ H Q ⟨ps, Ep, E, Z, Qd, w, h, post⟩ => ⟨ps, Ep, E, Z, _, w, h, fun d E1 Z1 H1 v w1 st1 r1 h1 => by
    cases r1 with
    | bl c =>
      refine ⟨c, rfl, ?_⟩
      cases c with
      | false =>
        have h1 : u E1 Qd := (by first | exact h1.t | exact h1.f)
        exact ⟨ps, Ep, E1, Z1, Qd, w1, h1, fun b E2 Z2 H2 v2 w2 st2 r2 h2 => post b E2 Z2 H2 v2 w2 (st1.trans st2) r2 h2⟩
      | true => exact post _ E1 Z1 H1 _ w1 st1 (.bl _) h1.t
    | _ => cases h1⟩
def oNotV : D → (D → Prop) → Prop := fun x q => match x with
  | .bl c => q (.bl (!c))
  | _ => False
theorem de_not {a : Expr} {t : TD} {pos : Pos} (ha : DE C X a t) : DE C X (.UnaryOp .Not a pos) (tUn1 oNotV t) := (pe_not ha).imp fun σ H Q ⟨ps, Ep, E, Z, Qd, w, h, post⟩ => ⟨ps, Ep, E, Z, _, w, h, fun d E1 Z1 H1 v w1 st1 r1 h1 => by
    cases r1 with
    | bl c => exact ⟨c, rfl, post _ E1 Z1 H1 _ w1 st1 (.bl _) h1⟩
    | _ => cases h1⟩
def tIfE (c : TB) (t u : TD) : TD := fun E Q => c E fun b E1 => brB b (t E1 Q) (u E1 Q)
theorem de_if {c a b : Expr} {tc : TB} {t u : TD} {pos : Pos} (hc : DT C X c tc) (ha : DE C X a t) (hb : DE C X b u) : DE C X (.IfExp c a b pos) (tIfE tc t u) :=
  (pe_ifExp hc ha hb).imp fun σ H Q ⟨ps, Ep, E, Z, Qd, w, h, post⟩ => ⟨ps, Ep, E, Z, _, w, h, fun c E1 Z1 H1 w1 st1 h1 => by
    cases c with
    | true => exact ⟨ps, Ep, E1, Z1, Qd, w1, h1.t, fun b E2 Z2 H2 v2 w2 st2 r2 h2 => post b E2 Z2 H2 v2 w2 (st1.trans st2) r2 h2⟩
    | false => exact ⟨ps, Ep, E1, Z1, Qd, w1, h1.f, fun b E2 Z2 H2 v2 w2 st2 r2 h2 => post b E2 Z2 H2 v2 w2 (st1.trans st2) r2 h2⟩⟩

/-! ### subscripts -/
def oIx : O2 := fun x y q => match x, y with
  | .tup ds, .int i => (match atI ds i with | some d => q d | none => False)
  | .lst ds, .int i => (match atI ds i with | some d => q d | none => False)
  | .str z, .int i => z.length ≤ sizeLine ∧ (match atI z.cps.toList i with | some c => q (.str ⟨#[c]⟩) | none => False)
  | _, _ => False
theorem Reps.atI {K : Frg} {Z : Addr → Prop} {H : Hp} {vs : List V} {ds : List D} {i : Int} {d : D} (r : Reps K Z H vs ds) (h : atI ds i = some d) : ∃ v, L2.atI vs i = some v ∧ Rep K Z H v d := by
  unfold L2.atI at h ⊢
  rw [r.length]
  cases q : ixN ds.length i with
  | none => rw [q] at h; cases h
  | some j =>
    rw [q] at h
    exact r.get (i := j) h
theorem meets_ix : Meets C oIx (rIx C.K) := fun Z H v w x y q Q rx ry h k => by
  unfold oIx at h
  split at h
  · split at h
    · rename_i e
      cases ry
      cases rx with
      | tup hs rs =>
        obtain ⟨v, e1, r⟩ := rs.atI e
        exact .inr (.inl ⟨_, _, _, v, rfl, rfl, hs, e1, k _ _ r h⟩)
    · cases h
  · split at h
    · rename_i e
      cases ry
      cases rx with
      | lst hs rs =>
        obtain ⟨v, e1, r⟩ := rs.atI e
        exact .inl ⟨_, _, _, v, rfl, rfl, hs.sq, e1, k _ _ r h⟩
    · cases h
  · obtain ⟨hz, h⟩ := h
    split at h
    · rename_i e
      cases ry
      cases rx
      exact .inr (.inr ⟨_, _, _, rfl, rfl, hz, e, k _ _ (.str _) h⟩)
    · cases h
  · cases h
theorem de_ix {a b : Expr} {ta tb : TD} {pos : Pos} (ha : DE C X a ta) (hb : DE C X b tb) (hs : PlainIx b := by exact fun _ _ => rfl) (hK : X.K = C.K := by rfl) : DE C X (.Subscript a b pos) (tOp2 oIx ta tb) :=
  (pe_ix ix_seq ha hb hs).imp fun σ H Q h => by
    rw [hK]
    exact op2_imp meets_ix σ H Q h
def S.knownB : S → Bool
  | .un => false
  | _ => true
/-- an item of what stands at a name, not taken over -/
def tIxO (i : Nat) (ti : TD) : TD := fun E Q => (match E[i]? with | some s => s.knownB = true | none => False) ∧ ti E fun k E1 => match E1[i]? with
  | some (.fr x) => oIx x k fun d => Q d E1
  | some (.ow t) => oIx t.fz k fun d => Q d E1
  | some (.mu t) => oIx t.fz k fun d => Q d E1
  | _ => False
theorem At.known {ps : Sg} {Ep : List S} {Z : Addr → Prop} {σ : Sg} {E : List S} {H : Hp} (w : At C ps Ep Z σ E H) {i : Nat} {s : S} (e : E[i]? = some s) (h : s.knownB = true) : ∃ v, σ[i]? = some (some v) := by
  cases s with
  | un => cases h
  | fr d => obtain ⟨v, e1, _⟩ := w.get e; exact ⟨v, e1⟩
  | ow t => obtain ⟨v, _, e1, _⟩ := w.tree e (t := t) rfl; exact ⟨v, e1⟩
  | mu t => obtain ⟨v, _, e1, _⟩ := w.tree e (t := t) rfl; exact ⟨v, e1⟩
theorem BRep.ix {Z : Addr → Prop} {H : Hp} {K : Frg} {v w : V} {x y : D} {q : D → Prop} {Q : VK} (rx : BRep K Z H v x) (ry : Rep K Z H w y) (h : oIx x y q) (k : ∀ z d, Rep K Z H z d → q d → Q z H) : rIx K v w H Q := by
  unfold oIx at h
  split at h
  · split at h
    · rename_i e
      cases ry
      obtain ⟨a, vs, rfl, hs, rs⟩ := rx.tup
      obtain ⟨v, e1, r⟩ := rs.atI e
      exact .inr (.inl ⟨_, _, _, v, rfl, rfl, hs, e1, k _ _ r h⟩)
    · cases h
  · split at h
    · rename_i e
      cases ry
      obtain ⟨a, vs, rfl, hs, rs⟩ := rx.lst
      obtain ⟨v, e1, r⟩ := rs.atI e
      exact .inl ⟨_, _, _, v, rfl, rfl, hs, e1, k _ _ r h⟩
    · cases h
  · obtain ⟨hz, h⟩ := h
    split at h
    · rename_i e
      cases ry
      cases rx.str
      exact .inr (.inr ⟨_, _, _, rfl, rfl, hz, e, k _ _ (.str _) h⟩)
    · cases h
  · cases h
theorem At.brep {ps : Sg} {Ep : List S} {Z : Addr → Prop} {σ : Sg} {E : List S} {H : Hp} (w : At C ps Ep Z σ E H) {i : Nat} {s : S} {t : T} (e : E[i]? = some s) (et : s.tree? = some t) {v : V} (hv : σ[i]? = some (some v)) : BRep C.K Z H v t.fz := by
  obtain ⟨v', F, e1, r⟩ := w.tree e et
  rw [hv] at e1
  cases e1
  exact .inr ⟨t, F, r, rfl⟩
theorem de_ixo (i : Nat) {x : Str} {b : Expr} {tb : TD} {pos pos' : Pos} (hb : DE C X b tb) (hN : X.N[i]? = some x := by rfl) (hv : Vis X.env.scope x := by first | exact Or.inl rfl | exact Or.inr (Or.inl rfl) | exact Or.inr (Or.inr rfl)) (hd : (x == ("__debug__" : Str)) = false := by decide)
    (hcd : (x == ("__classdict__" : Str)) = false := by decide) (hs : PlainIx b := by exact fun _ _ => rfl) (hK : X.K = C.K := by rfl) : DE C X (.Subscript (.Name x pos') b pos) (tIxO i tb) :=
  (pe_ix ix_seq (pe_var hN hv hd hcd) hb hs).imp fun σ H Q ⟨ps, Ep, E, Z, Qd, w, ⟨hk, h⟩, post⟩ => by
    rw [hK]
    split at hk
    · rename_i s e
      obtain ⟨v, e1⟩ := w.known e hk
      refine ⟨v, e1, ps, Ep, E, Z, _, w, h, fun k E1 Z1 H1 u w1 st1 r1 h1 => ?_⟩
      split at h1
      · rename_i d e2
        obtain ⟨v', e3, r3⟩ := w1.get e2
        rw [e1] at e3; cases e3
        exact meets_ix Z1 H1 v u d k _ Q r3 r1 h1 fun z d rz q => post d E1 Z1 H1 z w1 st1 rz q
      · rename_i t e2
        exact (w1.brep e2 rfl e1).ix r1 h1 fun z d rz q => post d E1 Z1 H1 z w1 st1 rz q
      · rename_i t e2
        exact (w1.brep e2 rfl e1).ix r1 h1 fun z d rz q => post d E1 Z1 H1 z w1 st1 rz q
      · cases h1
    · cases hk
end
end DL
set_option Elab.async false
set_option linter.all false
set_option maxRecDepth 100000
set_option maxHeartbeats 4000000
/-! DL, part d: targets, what a loop walks, statements, comprehensions. -/
namespace DL
open PySem PySem.Spec PyProof.Rows L2

/-! ### targets -/
abbrev TGD := D → List S → (List S → Prop) → Prop
abbrev TGsD := List D → List S → (List S → Prop) → Prop
def tgOf (C : Ctx) (gs : List Nat) (t : TGD) : TG := fun v σ H Q => ∃ ps Ep E Z d Qe, At C ps Ep Z σ E H ∧ Rep C.K Z H v d ∧ t d E Qe ∧ ∀ σ' E', At C ps Ep Z σ' E' H → (σ'.length = σ.length ∧ ∀ j : Nat, j ∉ gs → σ'[j]? = σ[j]?) → Qe E' → Q σ' H
def tgsOf (C : Ctx) (gs : List Nat) (t : TGsD) : TGs := fun vs σ H Q => ∃ ps Ep E Z ds Qe, At C ps Ep Z σ E H ∧ Reps C.K Z H vs ds ∧ t ds E Qe ∧ ∀ σ' E', At C ps Ep Z σ' E' H → (σ'.length = σ.length ∧ ∀ j : Nat, j ∉ gs → σ'[j]? = σ[j]?) → Qe E' → Q σ' H
abbrev DG (C : Ctx) (X : Cx) (gs : List Nat) (e : Expr) (t : TGD) : Prop := PG X e (tgOf C gs t)
abbrev DGs (C : Ctx) (X : Cx) (gs : List Nat) (es : List Expr) (t : TGsD) : Prop := PGs X es (tgsOf C gs t)
theorem _root_.L2.PGs.imp {X : Cx} {es : List Expr} {t t' : TGs} (h : PGs X es t) (k : ∀ v σ H Q, t' v σ H Q → t v σ H Q) : PGs X es t' := ⟨fun pins s σ H v u Q I r q => h.run pins s σ H v u Q I r (k v σ H Q q)⟩
/-- a place that may be stored to -/
def S.free : Option S → Bool
  | some (.mu _) => false
  | some _ => true
  | none => false
theorem free_lt {E : List S} {i : Nat} (h : S.free E[i]? = true) : i < E.length ∧ ∀ t, E[i]? ≠ some (.mu t) := by
  refine ⟨Classical.byContradiction fun n => ?_, fun t e => ?_⟩
  · rw [List.getElem?_eq_none (by omega)] at h; cases h
  · rw [e] at h; cases h
def gN (i : Nat) : TGD := fun d E Q => S.free E[i]? = true ∧ Q (E.set i (.fr d))
section
variable {C : Ctx} {X : Cx} {pos : Pos}
theorem dg_n (i : Nat) {x : Str} (hN : X.N.Nodup) (hi : X.N[i]? = some x := by rfl) (hx : Loc X.env.scope x := by first | exact .inl rfl | exact .inr rfl) (hf : X.fn x = true ∨ X.env.scope.names.lookup x = some .local := by first | exact .inl rfl | exact .inr rfl | assumption) :
    DG C X [i] (.Name x pos) (gN i) := (pg_name hN hi hx hf).imp fun v σ H Q ⟨ps, Ep, E, Z, d, Qe, w, r, ⟨h1, h⟩, post⟩ => by
  obtain ⟨f1, f2⟩ := free_lt h1
  exact post _ _ (w.setD r f1 f2) ⟨List.length_set, fun j hj => List.getElem?_set_ne (fun e => hj (by simp [e]))⟩ h
def gsNil : TGsD := fun ds E Q => match ds with
  | [] => Q E
  | _ => False
def gsCons (t : TGD) (u : TGsD) : TGsD := fun ds E Q => match ds with
  | d :: r => t d E fun E1 => u r E1 Q
  | [] => False
theorem dgs_nil : DGs C X [] [] gsNil := pgs_nil.imp fun vs σ H Q ⟨ps, Ep, E, Z, ds, Qe, w, r, h, post⟩ => by
  unfold gsNil at h
  split at h
  · cases r
    exact ⟨rfl, post _ _ w ⟨rfl, fun _ _ => rfl⟩ h⟩
  · cases h
theorem dgs_cons {e : Expr} {es : List Expr} {gs hs' : List Nat} {t : TGD} {u : TGsD} (h1 : DG C X gs e t) (h2 : DGs C X hs' es u) (hs : (assignEach (e :: es) X.env).map (·.2) = assign e X.env :: (assignEach es X.env).map (·.2) := by rfl) :
    DGs C X (gs ++ hs') (e :: es) (gsCons t u) := (pgs_cons h1 h2 hs).imp fun vs σ H Q ⟨ps, Ep, E, Z, ds, Qe, w, r, h, post⟩ => by
  unfold gsCons at h
  split at h
  · cases r with
    | cons rv rr =>
      refine ⟨_, _, rfl, ps, Ep, E, Z, _, _, w, rv, h, fun σ1 E1 w1 k1 h1 => ⟨ps, Ep, E1, Z, _, _, w1, rr, h1, fun σ2 E2 w2 k2 h2 => post σ2 E2 w2 ⟨k2.1.trans k1.1, fun j hj => ?_⟩ h2⟩⟩
      rw [k2.2 j fun m => hj (List.mem_append_right _ m), k1.2 j fun m => hj (List.mem_append_left _ m)]
  · cases h
def gTupD (n : Nat) (t : TGsD) : TGD := fun d E Q => match d with
  | .tup ds => ds.length = n ∧ t ds E Q
  | _ => False
theorem dg_tup {es : List Expr} {k : Nat} {gs : List Nat} {t : TGsD} {n : Nat} (h : DGs C X gs es t) (hc : X.calm = true := by rfl) (hn : (assignEach es X.env).length = n := by rfl) (hst : (assignEach es X.env).findIdx? (·.1) = none := by rfl) (hK : X.K = C.K := by rfl) :
    DG C X gs (.Tuple es k pos) (gTupD n t) := (pg_tup hc h hn hst).imp fun v σ H Q ⟨ps, Ep, E, Z, d, Qe, w, r, h, post⟩ => by
  unfold gTupD at h
  split at h
  · cases r with
    | tup hs rs =>
      rw [hK]
      exact ⟨_, _, rfl, hs, rs.length.trans h.1, ps, Ep, E, Z, _, Qe, w, rs, h.2, post⟩
  · cases h
end

/-! ### what a loop walks -/
structure Walks (C : Ctx) (J : It) (Z : Addr → Prop) (H : Hp) (ds : List D) (hold : Sg → List S → Prop) : Prop where
  stop : ∀ (Z2 : Addr → Prop) (σ2 : Sg) (E2 : List S) (H2 : Hp) (ps : Sg) (Ep : List S), Stp Z H Z2 H2 → At C ps Ep Z2 σ2 E2 H2 → hold σ2 E2 → ∀ i, ds.length ≤ i → J.stop i H2
  go : ∀ (Z2 : Addr → Prop) (σ2 : Sg) (E2 : List S) (H2 : Hp) (ps : Sg) (Ep : List S), Stp Z H Z2 H2 → At C ps Ep Z2 σ2 E2 H2 → hold σ2 E2 → ∀ (i : Nat) d, ds[i]? = some d → J.go i H2 ∧ ∀ x H3, J.yld i H2 x H3 →
    (H3 = H2 ∨ ∃ p o, H2 p = none ∧ H3 = upd H2 p o) ∧ Rep C.K Z2 H3 x d
abbrev TIt := List S → (List D → List S → Prop) → Prop
def tiOf (C : Ctx) (t : TIt) : TI := fun σ H R => ∃ ps Ep E Z Qi, At C ps Ep Z σ E H ∧ t E Qi ∧ ∀ J ds E' Z' H', At C ps Ep Z' σ E' H' → Stp Z H Z' H' → Walks C J Z' H' ds (fun _ _ => True) → Qi ds E' → R J H'
abbrev DI (C : Ctx) (X : Cx) (tg e : Expr) (t : TIt) : Prop := PI X tg e (tiOf C t)
section
variable {C : Ctx} {X : Cx} {tg : Expr}
def iSeq (K : Frg) (tl : TE) : TI := fun σ H R => tl σ H fun x H1 => ∃ a, x = .ref a ∧ (((∃ xs, SqL K H1 a xs) ∧ R (Itl K a) H1) ∨ ((∃ xs, SqT K H1 a xs) ∧ R (Itt K a) H1))
theorem pi_seq {l : Expr} {tl : TE} (hl : PE X l tl) : PI X tg l (iSeq X.K tl) := by
  refine ⟨fun pins s σ H R I h => ?_⟩
  refine thn (hl.run pins s σ H _ I h) fun v s1 ⟨x, H1, I1, r1, q1⟩ => ?_
  obtain ⟨a, e, q⟩ := q1
  subst e
  cases r1
  rcases q with ⟨⟨xs, hq⟩, q⟩ | ⟨⟨xs, hq⟩, q⟩
  · obtain ⟨its, rv, p, hz⟩ := I1.list hq
    refine wpAny_pyIter_list p.isList ?_
    refine ⟨s1.heap.objs.size, [s1.heap.objs.size], _, _, H1, rfl, I1.kept (t' := s1.toks) fun b o e => Heap.get?_push_of_some _ e, turn_list a _, ⟨_, Heap.get?_push_size _ rfl, rfl, rfl⟩, fun b hb => ?_, q⟩
    have e : b = s1.heap.objs.size := by simpa using hb
    subst e
    exact I1.fpOk (Nat.le_refl _) (I1.hok.fresh (Nat.le_refl _))
  · obtain ⟨its, rv, p, hz⟩ := I1.tuple hq
    refine wpAny_pyIter_tuple (show s1.heap.IsTuple a its.toArray from p) ?_
    refine ⟨s1.heap.objs.size, [s1.heap.objs.size], _, _, H1, rfl, I1.kept (t' := s1.toks) fun b o e => Heap.get?_push_of_some _ e, turn_tuple a _, ⟨_, Heap.get?_push_size _ rfl, rfl, rfl⟩, fun b hb => ?_, q⟩
    have e : b = s1.heap.objs.size := by simpa using hb
    subst e
    exact I1.fpOk (Nat.le_refl _) (I1.hok.fresh (Nat.le_refl _))
theorem walks_lst {Z : Addr → Prop} {H : Hp} {a : Addr} {vs : List V} {ds : List D} (h : LsS C.K Z H a vs) (r : Reps C.K Z H vs ds) : Walks C (Itl C.K a) Z H ds (fun _ _ => True) :=
  ⟨fun Z2 σ2 E2 H2 ps Ep st w _ i hi => ⟨vs, (h.mono st).sq, by rw [r.length]; exact hi⟩, fun Z2 σ2 E2 H2 ps Ep st w _ i d e => by
    obtain ⟨v, e1, rv⟩ := (r.mono st).get e
    refine ⟨⟨vs, v, (h.mono st).sq, e1⟩, fun x H3 y => ?_⟩
    obtain ⟨y1, y2⟩ := y
    subst y1
    have := y2 vs (h.mono st).sq
    rw [e1] at this
    cases this
    exact ⟨.inl rfl, rv⟩⟩
theorem walks_tup {Z : Addr → Prop} {H : Hp} {a : Addr} {vs : List V} {ds : List D} (h : SqT C.K H a vs) (r : Reps C.K Z H vs ds) : Walks C (Itt C.K a) Z H ds (fun _ _ => True) :=
  ⟨fun Z2 σ2 E2 H2 ps Ep st w _ i hi => ⟨vs, sqT_mono st h, by rw [r.length]; exact hi⟩, fun Z2 σ2 E2 H2 ps Ep st w _ i d e => by
    obtain ⟨v, e1, rv⟩ := (r.mono st).get e
    refine ⟨⟨vs, v, sqT_mono st h, e1⟩, fun x H3 y => ?_⟩
    obtain ⟨y1, y2⟩ := y
    subst y1
    have := y2 vs (sqT_mono st h)
    rw [e1] at this
    cases this
    exact ⟨.inl rfl, rv⟩⟩
def tiSeq (t : TD) : TIt := fun E Q => t E fun d E1 => match d with
  | .lst ds => Q ds E1
  | .tup ds => Q ds E1
  | .scr ds => Q ds E1
  | _ => False
theorem di_seq {l : Expr} {t : TD} (hl : DE C X l t) (hK : X.K = C.K := by rfl) : DI C X tg l (tiSeq t) := (pi_seq hl).imp fun σ H R ⟨ps, Ep, E, Z, Qd, w, h, post⟩ => by
  rw [hK]
  refine ⟨ps, Ep, E, Z, _, w, h, fun d E1 Z1 H1 v w1 st1 r1 h1 => ?_⟩
  split at h1
  · cases r1 with
    | lst hs rs => exact ⟨_, rfl, .inl ⟨⟨_, hs.sq⟩, post _ _ E1 Z1 H1 w1 st1 (walks_lst (.inl hs) rs) h1⟩⟩
  · cases r1 with
    | tup hs rs => exact ⟨_, rfl, .inr ⟨⟨_, hs⟩, post _ _ E1 Z1 H1 w1 st1 (walks_tup hs rs) h1⟩⟩
  · cases r1 with
    | scr hs rs => exact ⟨_, rfl, .inl ⟨⟨_, hs.sq⟩, post _ _ E1 Z1 H1 w1 st1 (walks_lst hs rs) h1⟩⟩
  · cases h1
/-- the ints of a range -/
def rng (i j : Int) : List D := (List.range (j - i).toNat).map fun k : Nat => .int (i + (k : Int))
theorem rng_get {i j : Int} {k : Nat} {d : D} (h : (rng i j)[k]? = some d) : k < (j - i).toNat ∧ d = .int (i + k) := by
  unfold rng at h
  rw [List.getElem?_map] at h
  cases e : (List.range (j - i).toNat)[k]? with
  | none => rw [e] at h; cases h
  | some m =>
    rw [e] at h
    obtain ⟨h1, h2⟩ := List.getElem?_eq_some_iff.mp e
    rw [List.getElem_range] at h2
    rw [List.length_range] at h1
    subst h2
    cases h
    exact ⟨h1, rfl⟩
theorem rng_len (i j : Int) : (rng i j).length = (j - i).toNat := by unfold rng; rw [List.length_map, List.length_range]
theorem walks_rng {Z : Addr → Prop} {H : Hp} (i j : Int) : Walks C (Itr i (j - i).toNat) Z H (rng i j) (fun _ _ => True) :=
  ⟨fun Z2 σ2 E2 H2 ps Ep st w _ k hk => by rw [rng_len] at hk; exact hk, fun Z2 σ2 E2 H2 ps Ep st w _ k d e => by
    obtain ⟨h1, h2⟩ := rng_get e
    refine ⟨h1, fun x H3 y => ?_⟩
    obtain ⟨y1, y2⟩ := y
    subst y1 y2 h2
    exact ⟨.inl rfl, .int _⟩⟩
def rgOk (i j : Int) : Prop := -(2 ^ 62) ≤ i ∧ i < 2 ^ 62 ∧ -(2 ^ 62) ≤ j ∧ j < 2 ^ 62
def tiRng1 (t : TD) : TIt := fun E Q => t E fun d E1 => match d with
  | .int j => rgOk 0 j ∧ Q (rng 0 j) E1
  | _ => False
def tiRng2 (t u : TD) : TIt := fun E Q => t E fun d E1 => u E1 fun e E2 => match d, e with
  | .int i, .int j => rgOk i j ∧ Q (rng i j) E2
  | _, _ => False
theorem di_range1 {a : Expr} {t : TD} {p pos : Pos} (hg : Gl X "range") (hm : X.mg "range" = none) (ha : DE C X a t) (hs : starEach [a] X.env = [(false, eval a X.env)] := by rfl) : DI C X tg (.Call (.Name "range" p) [a] [] pos) (tiRng1 t) :=
  (pi_range1 hg hm (pa_cons ha pa_nil hs) hs).imp fun σ H R ⟨ps, Ep, E, Z, Qd, w, h, post⟩ => ⟨ps, Ep, E, Z, _, w, h, fun d E1 Z1 H1 v w1 st1 r1 h1 => by
    split at h1
    · obtain ⟨⟨_, _, k1, k2⟩, h1⟩ := h1
      cases r1
      refine ⟨_, rfl, k1, k2, post _ _ E1 Z1 H1 w1 st1 ?_ h1⟩
      have := walks_rng (C := C) (Z := Z1) (H := H1) 0 (by assumption)
      rw [Int.sub_zero] at this
      exact this
    · cases h1⟩
theorem di_range2 {a b : Expr} {t u : TD} {p pos : Pos} (hg : Gl X "range") (hm : X.mg "range" = none) (ha : DE C X a t) (hb : DE C X b u) (hs : starEach [a, b] X.env = [(false, eval a X.env), (false, eval b X.env)] := by rfl) (hs2 : starEach [b] X.env = [(false, eval b X.env)] := by rfl) :
    DI C X tg (.Call (.Name "range" p) [a, b] [] pos) (tiRng2 t u) :=
  (pi_range2 hg hm (pa_cons ha (pa_cons hb pa_nil hs2) (by rw [hs, hs2])) hs hs2).imp fun σ H R ⟨ps, Ep, E, Z, Qd, w, h, post⟩ => ⟨ps, Ep, E, Z, _, w, h, fun d E1 Z1 H1 v w1 st1 r1 h1 =>
    ⟨ps, Ep, E1, Z1, _, w1, h1, fun e E2 Z2 H2 v2 w2 st2 r2 h2 => by
      split at h2
      · obtain ⟨k, h2⟩ := h2
        cases r1; cases r2
        exact ⟨_, _, rfl, k, post _ _ E2 Z2 H2 w2 (st1.trans st2) (walks_rng _ _) h2⟩
      · cases h2⟩⟩
end

/-! ### statements -/
structure DEnd where
  nx : List S → Prop
  rt : S → List S → Prop
  bk : List S → Prop := fun _ => False
  ct : List S → Prop := fun _ => False
abbrev TSD := DEnd → List S → Prop
def ResAt (C : Ctx) (ps : Sg) (Ep : List S) (Z : Addr → Prop) (σ : Sg) (E : List S) (H : Hp) (v : V) : S → Prop
  | .fr d => At C ps Ep Z σ E H ∧ Rep C.K Z H v d
  | .ow tr => At C (ps ++ [some v]) (Ep ++ [.ow tr]) Z σ E H
  | _ => False
structure Fits (C : Ctx) (ps : Sg) (Ep : List S) (Z : Addr → Prop) (H : Hp) (Dd : DEnd) (Dn : Ends) : Prop where
  nx : ∀ σ' E' Z' H', At C ps Ep Z' σ' E' H' → Stp Z H Z' H' → Dd.nx E' → Dn.nx σ' H'
  bk : ∀ σ' E' Z' H', At C ps Ep Z' σ' E' H' → Stp Z H Z' H' → Dd.bk E' → Dn.bk σ' H'
  ct : ∀ σ' E' Z' H', At C ps Ep Z' σ' E' H' → Stp Z H Z' H' → Dd.ct E' → Dn.ct σ' H'
  rt : ∀ r σ' E' Z' H' v, ResAt C ps Ep Z' σ' E' H' v r → Stp Z H Z' H' → Dd.rt r E' → Dn.rt v H'
theorem Fits.on {C : Ctx} {ps : Sg} {Ep : List S} {Z Z' : Addr → Prop} {H H' : Hp} {Dd : DEnd} {Dn : Ends} (f : Fits C ps Ep Z H Dd Dn) (st : Stp Z H Z' H') : Fits C ps Ep Z' H' Dd Dn :=
  ⟨fun σ' E' Z2 H2 w s h => f.nx σ' E' Z2 H2 w (st.trans s) h, fun σ' E' Z2 H2 w s h => f.bk σ' E' Z2 H2 w (st.trans s) h, fun σ' E' Z2 H2 w s h => f.ct σ' E' Z2 H2 w (st.trans s) h, fun r σ' E' Z2 H2 v w s h => f.rt r σ' E' Z2 H2 v w (st.trans s) h⟩
def tsOf (C : Ctx) (t : TSD) : TS := fun Dn σ H => ∃ ps Ep E Z Dd, At C ps Ep Z σ E H ∧ t Dd E ∧ Fits C ps Ep Z H Dd Dn
abbrev DS (C : Ctx) (X : Cx) (st : Stmt) (t : TSD) : Prop := PS X st (tsOf C t)
abbrev DSs (C : Ctx) (X : Cx) (st : List Stmt) (t : TSD) : Prop := PSs X st (tsOf C t)
section
variable {C : Ctx} {X : Cx} {pos : Pos}
def dNext : TSD := fun D E => D.nx E
def dSeq (t u : TSD) : TSD := fun D E => t { D with nx := u D } E
theorem dss_nil : DSs C X [] dNext := pss_nil.imp fun Dn σ H ⟨ps, Ep, E, Z, Dd, w, h, f⟩ => f.nx σ E Z H w (Stp.refl _ _) h
theorem dss_cons {st : Stmt} {rest : List Stmt} {t u : TSD} (h1 : DS C X st t) (h2 : DSs C X rest u) : DSs C X (st :: rest) (dSeq t u) := (pss_cons h1 h2).imp fun Dn σ H ⟨ps, Ep, E, Z, Dd, w, h, f⟩ =>
  ⟨ps, Ep, E, Z, _, w, h, ⟨fun σ' E' Z' H' w' st' h' => ⟨ps, Ep, E', Z', Dd, w', h', f.on st'⟩, f.bk, f.ct, f.rt⟩⟩
/-- two in a row, what holds between them told -/
def dSeqJ (t u : TSD) : TSD := fun D E => ∃ J : List S → Prop, t { D with nx := J } E ∧ ∀ E', J E' → u D E'
theorem dss_join {st : Stmt} {rest : List Stmt} {t u : TSD} (h1 : DS C X st t) (h2 : DSs C X rest u) : DSs C X (st :: rest) (dSeqJ t u) := (pss_cons h1 h2).imp fun Dn σ H ⟨ps, Ep, E, Z, Dd, w, ⟨J, h, k⟩, f⟩ =>
  ⟨ps, Ep, E, Z, _, w, h, ⟨fun σ' E' Z' H' w' st' h' => ⟨ps, Ep, E', Z', Dd, w', k E' h', f.on st'⟩, f.bk, f.ct, f.rt⟩⟩
theorem dss_one {st : Stmt} {t : TSD} (h1 : DS C X st t) : DSs C X [st] t := pss_one h1
def dBreak : TSD := fun D E => D.bk E
def dCont : TSD := fun D E => D.ct E
theorem ds_pass : DS C X (.Pass pos) dNext := ps_pass.imp fun Dn σ H ⟨ps, Ep, E, Z, Dd, w, h, f⟩ => f.nx σ E Z H w (Stp.refl _ _) h
theorem ds_break : DS C X (.Break pos) dBreak := ps_break.imp fun Dn σ H ⟨ps, Ep, E, Z, Dd, w, h, f⟩ => f.bk σ E Z H w (Stp.refl _ _) h
theorem ds_continue : DS C X (.Continue pos) dCont := ps_continue.imp fun Dn σ H ⟨ps, Ep, E, Z, Dd, w, h, f⟩ => f.ct σ E Z H w (Stp.refl _ _) h
def dNever : TSD := fun _ _ => False
theorem ds_never {st : Stmt} : DS C X st dNever := ps_never.imp fun Dn σ H ⟨_, _, _, _, _, _, h, _⟩ => h
def dExpr (t : TD) : TSD := fun D E => t E fun _ E1 => D.nx E1
theorem ds_expr {e : Expr} {t : TD} (he : DE C X e t) (hs : swapsWith e none pos.line X.env = pure false := by rfl) : DS C X (.Expr e pos) (dExpr t) := (ps_expr he hs).imp fun Dn σ H ⟨ps, Ep, E, Z, Dd, w, h, f⟩ =>
  ⟨ps, Ep, E, Z, _, w, h, fun d E1 Z1 H1 v w1 st1 r1 h1 => f.nx σ E1 Z1 H1 w1 st1 h1⟩
def dRet (t : TD) : TSD := fun D E => t E fun d E1 => D.rt (.fr d) E1
theorem ds_ret {e : Expr} {t : TD} (he : DE C X e t) : DS C X (.Return (some e) pos) (dRet t) := (ps_ret he).imp fun Dn σ H ⟨ps, Ep, E, Z, Dd, w, h, f⟩ =>
  ⟨ps, Ep, E, Z, _, w, h, fun d E1 Z1 H1 v w1 st1 r1 h1 => f.rt (.fr d) σ E1 Z1 H1 v ⟨w1, r1⟩ st1 h1⟩
def dRetN (t : TN) : TSD := fun D E => t E fun tr E1 => D.rt (.ow tr) E1
theorem ds_retn {e : Expr} {t : TN} (he : DN C X e t) : DS C X (.Return (some e) pos) (dRetN t) := (ps_ret he).imp fun Dn σ H ⟨ps, Ep, E, Z, Dd, w, h, f⟩ =>
  ⟨ps, Ep, E, Z, _, w, h, fun tr E1 Z1 H1 v w1 st1 h1 => f.rt (.ow tr) σ E1 Z1 H1 v w1 st1 h1⟩
def dRet0 : TSD := fun D E => D.rt (.fr .non) E
theorem ds_ret0 : DS C X (.Return none pos) dRet0 := ps_retN.imp fun Dn σ H ⟨ps, Ep, E, Z, Dd, w, h, f⟩ => f.rt (.fr .non) σ E Z H _ ⟨w, .non⟩ (Stp.refl _ _) h
/-- an owned tree at a name is given out -/
def dRetV (i : Nat) : TSD := fun D E => match E[i]? with
  | some (.ow t) => D.rt (.ow t) (E.set i .un)
  | _ => False
theorem WdF.lift {Z : Addr → Prop} {σ ps : Sg} {E Ep : List S} {H : Hp} {F : Foot} (w : WdF C Z (σ ++ ps) (E ++ Ep) H F) (hl : σ.length = E.length) {i : Nat} {t : T} {v : V} (e : E[i]? = some (.ow t)) (hv : σ[i]? = some (some v)) :
    At C (ps ++ [some v]) (Ep ++ [.ow t]) Z σ (E.set i .un) H := by
  have hi := (List.getElem?_eq_some_iff.mp e).1
  have ei : (E ++ Ep)[i]? = some (.ow t) := up_get e
  have hlen := w.sl.len
  refine ⟨by rw [List.length_set]; exact hl, fun j => if j = i then [] else if j = (E ++ Ep).length then F i else F j, ?_⟩
  have lE : (E.set i .un ++ (Ep ++ [S.ow t])).length = (E ++ Ep).length + 1 := by
    simp only [List.length_append, List.length_set, List.length_singleton]
    omega
  have gE : ∀ j s, (E.set i .un ++ (Ep ++ [S.ow t]))[j]? = some s → (j = i ∧ s = .un) ∨ (j ≠ i ∧ j = (E ++ Ep).length ∧ s = .ow t) ∨ (j ≠ i ∧ j < (E ++ Ep).length ∧ (E ++ Ep)[j]? = some s) := by
    intro j s ej
    by_cases q : j = i
    · subst q
      rw [List.getElem?_append_left (by rw [List.length_set]; exact hi), List.getElem?_set_self hi] at ej
      cases ej
      exact .inl ⟨rfl, rfl⟩
    · have hj := (List.getElem?_eq_some_iff.mp ej).1
      rw [lE] at hj
      by_cases q2 : j = (E ++ Ep).length
      · rw [← List.append_assoc, List.getElem?_append_right (by rw [List.length_append, List.length_set, ← List.length_append]; omega)] at ej
        rw [List.length_append, List.length_set, ← List.length_append, q2, Nat.sub_self] at ej
        cases ej
        exact .inr (.inl ⟨q, q2, rfl⟩)
      · refine .inr (.inr ⟨q, by omega, ?_⟩)
        rw [← List.append_assoc, List.getElem?_append_left (by rw [List.length_append, List.length_set, ← List.length_append]; omega)] at ej
        by_cases q3 : j < E.length
        · rw [List.getElem?_append_left (by rw [List.length_set]; exact q3), List.getElem?_set_ne (Ne.symm q)] at ej
          exact up_get ej
        · rw [List.getElem?_append_right (by rw [List.length_set]; omega), List.length_set] at ej
          rw [List.getElem?_append_right (by omega)]
          exact ej
  have gσ : ∀ j, j < (E ++ Ep).length → (σ ++ (ps ++ [some v])).getD j none = (σ ++ ps).getD j none := fun j hj => by
    rw [List.getD_eq_getElem?_getD, List.getD_eq_getElem?_getD, ← List.append_assoc, List.getElem?_append_left (by omega)]
  have gl : (σ ++ (ps ++ [some v])).getD (E ++ Ep).length none = some v := by
    rw [List.getD_eq_getElem?_getD, ← List.append_assoc, List.getElem?_append_right (by omega), hlen, Nat.sub_self]
    rfl
  have iN : i < (E ++ Ep).length := (List.getElem?_eq_some_iff.mp ei).1
  have Fi := w.sl.rep i _ ei
  rw [List.getD_eq_getElem?_getD, At.high hv] at Fi
  have Fi : ∃ v', some v = some v' ∧ TRep C.K Z H v' t (F i) := Fi
  refine ⟨⟨?_, fun j s ej => ?_, fun j hj => ?_, fun j => ?_, fun j l a h1 h2 => ?_⟩, fun j a h => ?_, fun j u a ej ha => ?_, fun j u a ej ha => ?_, fun j u ej => ?_, w.fr, w.z0, w.zn, w.zt, w.kt⟩
  · rw [lE, ← List.append_assoc, List.length_append, hlen]; rfl
  · rcases gE j s ej with ⟨rfl, rfl⟩ | ⟨q, rfl, rfl⟩ | ⟨q, q2, e2⟩
    · rw [if_pos rfl]; exact rfl
    · rw [if_neg q, if_pos rfl, gl]; exact Fi
    · rw [if_neg q, if_neg (by omega), gσ j q2]; exact w.sl.rep j s e2
  · rw [lE] at hj
    rw [if_neg (by omega), if_neg (by omega)]
    exact w.sl.out j (by omega)
  · split
    · exact List.nodup_nil
    · split
      · exact w.sl.nd i
      · exact w.sl.nd j
  · split at h1
    · cases h1
    · split at h2
      · cases h2
      · split at h1
        · split at h2
          · omega
          · have := w.sl.dj _ _ a h1 h2; omega
        · split at h2
          · have := w.sl.dj _ _ a h1 h2; omega
          · exact w.sl.dj _ _ a h1 h2
  · split at h
    · cases h
    · split at h
      · exact w.nz i a h
      · exact w.nz j a h
  · rcases gE j _ ej with ⟨rfl, q⟩ | ⟨q, rfl, q1⟩ | ⟨q, q2, e2⟩
    · cases q
    · rw [if_neg q, if_pos rfl] at ha
      exact w.own i t a ei ha
    · rw [if_neg q, if_neg (by omega)] at ha
      exact w.own j u a e2 ha
  · rcases gE j _ ej with ⟨rfl, q⟩ | ⟨q, rfl, q1⟩ | ⟨q, q2, e2⟩
    · cases q
    · cases q1
    · rw [if_neg q, if_neg (by omega)] at ha
      exact w.mum j u a e2 ha
  · rcases gE j _ ej with ⟨rfl, q⟩ | ⟨q, rfl, q1⟩ | ⟨q, q2, e2⟩
    · cases q
    · cases q1
    · obtain ⟨x, e3, e4⟩ := w.mus j u e2
      refine ⟨x, e3, ?_⟩
      rw [← List.append_assoc, List.getElem?_append_left (by omega)]
      exact e4
theorem ds_retv (i : Nat) {x : Str} {pos' : Pos} (hN : X.N[i]? = some x := by rfl) (hv : Vis X.env.scope x := by first | exact Or.inl rfl | exact Or.inr (Or.inl rfl) | exact Or.inr (Or.inr rfl)) (hd : (x == ("__debug__" : Str)) = false := by decide)
    (hcd : (x == ("__classdict__" : Str)) = false := by decide) : DS C X (.Return (some (.Name x pos')) pos) (dRetV i) := (ps_ret (pe_var hN hv hd hcd)).imp fun Dn σ H ⟨ps, Ep, E, Z, Dd, w, h, f⟩ => by
  unfold dRetV at h
  split at h
  · rename_i t e
    obtain ⟨v, F, e1, r⟩ := w.tree e (t := t) rfl
    obtain ⟨G, g⟩ := w.2
    exact ⟨v, e1, f.rt (.ow t) σ _ Z H v (g.lift w.1 e e1) (Stp.refl _ _) h⟩
  · cases h
def dIf (c : TB) (t u : TSD) : TSD := fun D E => c E fun b E1 => brB b (t D E1) (u D E1)
theorem ds_if {c : Expr} {a b : List Stmt} {tc : TB} {t u : TSD} (hc : DT C X c tc) (ha : DSs C X a t) (hb : DSs C X b u) : DS C X (.If c a b pos) (dIf tc t u) := (ps_if hc ha hb).imp fun Dn σ H ⟨ps, Ep, E, Z, Dd, w, h, f⟩ =>
  ⟨ps, Ep, E, Z, _, w, h, fun b E1 Z1 H1 w1 st1 h1 => by
    cases b with
    | true => exact ⟨ps, Ep, E1, Z1, Dd, w1, h1.t, f.on st1⟩
    | false => exact ⟨ps, Ep, E1, Z1, Dd, w1, h1.f, f.on st1⟩⟩
def dAsg (t : TD) (g : TGD) : TSD := fun D E => t E fun d E1 => g d E1 D.nx
theorem ds_asg {gs : List Nat} {tg e : Expr} {t : TD} {g : TGD} (he : DE C X e t) (hg : DG C X gs tg g) (hs : swapsWithSole [tg] e pos.line X.env = pure false := by rfl) (hw : swappedStores [tg] e X.env = pure none := by rfl)
    (h1 : (assignEach [tg] X.env).map (·.2) = [assign tg X.env] := by rfl) : DS C X (.Assign [tg] e pos) (dAsg t g) := (ps_asg he hg hs hw h1).imp fun Dn σ H ⟨ps, Ep, E, Z, Dd, w, h, f⟩ =>
  ⟨ps, Ep, E, Z, _, w, h, fun d E1 Z1 H1 v w1 st1 r1 h1 => ⟨ps, Ep, E1, Z1, d, _, w1, r1, h1, fun σ' E' w' _ q => f.nx σ' E' Z1 H1 w' st1 q⟩⟩
def dSet (i : Nat) (t : TD) : TSD := fun D E => t E fun d E1 => S.free E1[i]? = true ∧ D.nx (E1.set i (.fr d))
theorem ds_set (i : Nat) {x : Str} {e : Expr} {t : TD} {pos' : Pos} (hN : X.N.Nodup) (he : DE C X e t) (hi : X.N[i]? = some x := by rfl) (hx : Loc X.env.scope x := by first | exact .inl rfl | exact .inr rfl) (hs : swapsWith e (some (.Name x pos')) pos.line X.env = pure false := by rfl)
    (hf : X.fn x = true ∨ X.env.scope.names.lookup x = some .local := by first | exact .inl rfl | exact .inr rfl | assumption) : DS C X (.Assign [.Name x pos'] e pos) (dSet i t) := (ps_set hN hi hx he hs hf).imp fun Dn σ H ⟨ps, Ep, E, Z, Dd, w, h, f⟩ =>
  ⟨ps, Ep, E, Z, _, w, h, fun d E1 Z1 H1 v w1 st1 r1 ⟨h0, h1⟩ => by
    obtain ⟨f1, f2⟩ := free_lt h0
    exact f.nx _ _ Z1 H1 (w1.setD r1 f1 f2) st1 h1⟩
def dSetN (i : Nat) (t : TN) : TSD := fun D E => t E fun tr E1 => S.free E1[i]? = true ∧ D.nx (E1.set i (.ow tr))
theorem ds_setn (i : Nat) {x : Str} {e : Expr} {t : TN} {pos' : Pos} (hN : X.N.Nodup) (he : DN C X e t) (hi : X.N[i]? = some x := by rfl) (hx : Loc X.env.scope x := by first | exact .inl rfl | exact .inr rfl) (hs : swapsWith e (some (.Name x pos')) pos.line X.env = pure false := by rfl)
    (hf : X.fn x = true ∨ X.env.scope.names.lookup x = some .local := by first | exact .inl rfl | exact .inr rfl | assumption) : DS C X (.Assign [.Name x pos'] e pos) (dSetN i t) := (ps_set hN hi hx he hs hf).imp fun Dn σ H ⟨ps, Ep, E, Z, Dd, w, h, f⟩ =>
  ⟨ps, Ep, E, Z, _, w, h, fun tr E1 Z1 H1 v w1 st1 ⟨h0, h1⟩ => by
    obtain ⟨f1, f2⟩ := free_lt h0
    exact f.nx _ _ Z1 H1 (w1.setP f1 f2) st1 h1⟩
/-- name op= e, ints and texts -/
def dAug (i : Nat) (o : O2) (t : TD) : TSD := fun D E => match E[i]? with
  | some (.fr x) => t E fun y E1 => o x y fun z => S.free E1[i]? = true ∧ D.nx (E1.set i (.fr z))
  | _ => False
theorem ds_aug (i : Nat) {x : Str} {e : Expr} {t : TD} {op : Operator} {o : O2} {r : R2} {pos' : Pos} (hN : X.N.Nodup) (ho : OpR X (inplaceOp op) r ∧ Meets C o r) (he : DE C X e t) (hi : X.N[i]? = some x := by rfl) (hx : Loc X.env.scope x := by first | exact .inl rfl | exact .inr rfl)
    (hf : X.fn x = true ∨ X.env.scope.names.lookup x = some .local := by first | exact .inl rfl | exact .inr rfl | assumption) : DS C X (.AugAssign (.Name x pos') op e pos) (dAug i o t) := (ps_aug hN hi hx he (fun pins s σ H x y v u Q I r1 r2 h => ho.1 pins s σ H x y v u Q I r1 r2 h) hf).imp fun Dn σ H ⟨ps, Ep, E, Z, Dd, w, h, f⟩ => by
  unfold dAug at h
  split at h
  · rename_i d e
    obtain ⟨v, e1, r0⟩ := w.get e
    refine ⟨v, e1, ps, Ep, E, Z, _, w, h, fun y E1 Z1 H1 u w1 st1 r1 h1 => ho.2 Z1 H1 v u d y _ _ (r0.mono st1) r1 h1 fun z dz rz q => ?_⟩
    obtain ⟨f1, f2⟩ := free_lt q.1
    exact f.nx _ _ Z1 H1 (w1.setD rz f1 f2) st1 q.2
  · cases h
def rAddI : R2 := fun x y H Q => (∃ i j, x = .int i ∧ y = .int j ∧ Q (.int (i + j)) H) ∨ ∃ i j, x = .str i ∧ y = .str j ∧ i.length + j.length ≤ sizeLine ∧ Q (.str (i ++ j)) H
theorem i_add : OpR X (inplaceOp .Add) rAddA ∧ Meets C oAdd rAddA := ⟨iop_add.or iop_add_str, (o_add (X := X)).2⟩
theorem i_sub : OpR X (inplaceOp .Sub) (rI0 fun i j => .int (i - j)) ∧ Meets C (oI (iInt fun i j => i - j)) (rI0 fun i j => .int (i - j)) := ⟨iop_sub, meets_I fun _ _ _ _ _ => .int _⟩
/-- for -/
def dFor (t : TIt) (g : TGD) (tb : TSD) : TSD := fun D E => t E fun ds E1 => ∃ I : Nat → List S → Prop, I 0 E1 ∧ (∀ (i : Nat) d E', ds[i]? = some d → I i E' → g d E' fun E2 => tb { nx := I (i + 1), ct := I (i + 1), bk := D.nx, rt := D.rt } E2) ∧ ∀ E', I ds.length E' → D.nx E'
theorem ds_for {gs : List Nat} {tg iter : Expr} {body : List Stmt} {t : TIt} {g : TGD} {tb : TSD} (hp : PassesOwn (model X.prog X.w) X.A X.env X.xe) (hi : DI C X tg iter t) (hg : DG C X gs tg g) (hb : DSs C X body tb) (hc : X.calm = true := by rfl)
    (hs : ∀ x, foldedSetIterable iter X.env x = pure x := by intro _; rfl) : DS C X (.For tg iter body [] pos) (dFor t g tb) := (ps_for hp hc hi hg hb hs).imp fun Dn σ H ⟨ps, Ep, E, Z, Dd, w, h, f⟩ =>
  ⟨ps, Ep, E, Z, _, w, h, fun J ds E1 Z1 H1 w1 st1 wk ⟨I, i0, step, fin⟩ => by
    refine ⟨fun i m σ' H' => m = ds.length - i ∧ i ≤ ds.length ∧ ∃ E' Z', At C ps Ep Z' σ' E' H' ∧ Stp Z1 H1 Z' H' ∧ I i E', ⟨_, rfl, Nat.zero_le _, E1, Z1, w1, Stp.refl _ _, i0⟩, ?_⟩
    rintro i m σ' H' ⟨rfl, hle, E', Z', w', st', hi'⟩
    by_cases hlt : i < ds.length
    · obtain ⟨go, yl⟩ := wk.go Z' σ' E' H' ps Ep st' w' trivial i _ (List.getElem?_eq_getElem hlt)
      refine .inr ⟨go, fun σ2 H2 => ∃ E2 Z2, At C ps Ep Z2 σ2 E2 H2 ∧ Stp Z1 H1 Z2 H2 ∧ I (i + 1) E2, fun σ2 H2 ⟨E2, Z2, w2, st2, h2⟩ => ⟨ds.length - (i + 1), by omega, rfl, hlt, E2, Z2, w2, st2, h2⟩, fun x H3 y => ?_⟩
      obtain ⟨hh, rx⟩ := yl x H3 y
      have w3 : At C ps Ep Z' σ' E' H3 ∧ Stp Z' H' Z' H3 := by
        rcases hh with e | ⟨p, o, hp, e⟩
        · subst e; exact ⟨w', Stp.refl _ _⟩
        · subst e; exact ⟨w'.new hp, Stp.new w'.zt hp⟩
      refine ⟨ps, Ep, E', Z', _, _, w3.1, rx, step i _ E' (List.getElem?_eq_getElem hlt) hi', fun σ2 E2 w2 _ h2 => ⟨ps, Ep, E2, Z', _, w2, h2, ?_⟩⟩
      have stA := st'.trans w3.2
      exact ⟨fun σ5 E5 Z5 H5 w5 st5 h5 => ⟨E5, Z5, w5, stA.trans st5, h5⟩, fun σ5 E5 Z5 H5 w5 st5 h5 => f.nx σ5 E5 Z5 H5 w5 (st1.trans (stA.trans st5)) h5, fun σ5 E5 Z5 H5 w5 st5 h5 => ⟨E5, Z5, w5, stA.trans st5, h5⟩,
        fun r σ5 E5 Z5 H5 v w5 st5 h5 => f.rt r σ5 E5 Z5 H5 v w5 (st1.trans (stA.trans st5)) h5⟩
    · have e : i = ds.length := by omega
      subst e
      exact .inl ⟨wk.stop Z' σ' E' H' ps Ep st' w' trivial _ (Nat.le_refl _), f.nx σ' E' Z' H' w' (st1.trans st') (fin E' hi')⟩⟩
/-- while -/
def dWhile (c : TB) (tb : TSD) : TSD := fun D E => ∃ W : Nat → List S → Prop, (∃ m, W m E) ∧ ∀ m E', W m E' → c E' fun b E1 => brB b (tb { nx := fun E2 => ∃ m', m' < m ∧ W m' E2, ct := fun E2 => ∃ m', m' < m ∧ W m' E2, bk := D.nx, rt := D.rt } E1) (D.nx E1)
theorem ds_while {c : Expr} {body : List Stmt} {tc : TB} {tb : TSD} (hp : PassesOwn (model X.prog X.w) X.A X.env X.xe) (hc : DT C X c tc) (hb : DSs C X body tb) : DS C X (.While c body [] pos) (dWhile tc tb) := (ps_while hp hc hb).imp fun Dn σ H ⟨ps, Ep, E, Z, Dd, w, ⟨W, ⟨m0, w0⟩, turn⟩, f⟩ => by
  refine ⟨fun m σ' H' => ∃ E' Z', At C ps Ep Z' σ' E' H' ∧ Stp Z H Z' H' ∧ W m E', ⟨m0, E, Z, w, Stp.refl _ _, w0⟩, ?_⟩
  rintro m σ' H' ⟨E', Z', w', st', wm⟩
  refine ⟨ps, Ep, E', Z', _, w', turn m E' wm, fun b E1 Z1 H1 w1 st1 h1 => ?_⟩
  cases b with
  | true =>
    rw [if_pos rfl]
    replace h1 := h1.t
    refine ⟨fun σ2 H2 => ∃ m', m' < m ∧ ∃ E2 Z2, At C ps Ep Z2 σ2 E2 H2 ∧ Stp Z H Z2 H2 ∧ W m' E2, fun σ2 H2 h => h, ps, Ep, E1, Z1, _, w1, h1, ?_⟩
    have stA := st'.trans st1
    exact ⟨fun σ5 E5 Z5 H5 w5 st5 ⟨m', hm, h5⟩ => ⟨m', hm, E5, Z5, w5, stA.trans st5, h5⟩, fun σ5 E5 Z5 H5 w5 st5 h5 => f.nx σ5 E5 Z5 H5 w5 (stA.trans st5) h5, fun σ5 E5 Z5 H5 w5 st5 ⟨m', hm, h5⟩ => ⟨m', hm, E5, Z5, w5, stA.trans st5, h5⟩,
        fun r σ5 E5 Z5 H5 v w5 st5 h5 => f.rt r σ5 E5 Z5 H5 v w5 (stA.trans st5) h5⟩
  | false =>
    rw [if_neg Bool.false_ne_true]
    replace h1 := h1.f
    exact f.nx σ' E1 Z1 H1 w1 (st'.trans st1) h1
end
end DL
set_option Elab.async false
set_option linter.all false
set_option maxRecDepth 100000
set_option maxHeartbeats 4000000
/-! DL, part e: comprehensions, calls, defs. -/
namespace DL
open PySem PySem.Spec PyProof.Rows L2

section
variable {C : Ctx} {Z Z' : Addr → Prop} {σ : Sg} {E : List S} {H H' : Hp} {F : Foot}
theorem SRep.un {K : Frg} {o : Option V} : SRep K Z H o .un [] := rfl
/-- places chosen anew -/
theorem WdF.re (w : WdF C Z σ E H F) (φ : Nat → Nat) {σ2 : Sg} {E2 : List S} (len : σ2.length = E2.length)
    (h : ∀ (j : Nat) s, E2[j]? = some s → s = .un ∨ (E[φ j]? = some s ∧ σ2.getD j none = σ.getD (φ j) none ∧ (s.isMu = true → φ j = j)))
    (inj : ∀ (j l : Nat) s u, E2[j]? = some s → E2[l]? = some u → s ≠ .un → u ≠ .un → φ j = φ l → j = l) : Wd C Z σ2 E2 H := by
  have key : ∀ (j : Nat) a, a ∈ (match E2[j]? with | some .un => [] | some _ => F (φ j) | none => ([] : List Addr)) → ∃ s, E2[j]? = some s ∧ s ≠ .un ∧ a ∈ F (φ j) := fun j a ha => by
    cases e : E2[j]? with
    | none => rw [e] at ha; cases ha
    | some s =>
      rw [e] at ha
      cases s with
      | un => cases ha
      | fr d => exact ⟨_, rfl, (fun q => nomatch q), ha⟩
      | ow d => exact ⟨_, rfl, (fun q => nomatch q), ha⟩
      | mu d => exact ⟨_, rfl, (fun q => nomatch q), ha⟩
  refine ⟨fun j => match E2[j]? with | some .un => [] | some _ => F (φ j) | none => [], ⟨⟨len, fun j s e => ?_, fun j hj => ?_, fun j => ?_, fun j l a h1 h2 => ?_⟩, fun j a ha => ?_, fun j t a e ha => ?_, fun j t a e ha => ?_, fun j t e => ?_, w.fr, w.z0, w.zn, w.zt, w.kt⟩⟩
  · show SRep _ _ _ _ s (match E2[j]? with | some .un => [] | some _ => F (φ j) | none => [])
    rw [e]
    rcases h j s e with q | ⟨q1, q2, _⟩
    · subst q; exact rfl
    · rw [q2]
      have z := w.sl.rep _ s q1
      cases s with
      | un => exact rfl
      | fr d => exact z
      | ow t => exact z
      | mu t => exact z
  · show (match E2[j]? with | some .un => [] | some _ => F (φ j) | none => []) = []
    rw [List.getElem?_eq_none hj]
  · show (match E2[j]? with | some .un => [] | some _ => F (φ j) | none => []).Nodup
    split
    · exact List.nodup_nil
    · exact w.sl.nd _
    · exact List.nodup_nil
  · obtain ⟨s, e1, n1, m1⟩ := key j a h1
    obtain ⟨u, e2, n2, m2⟩ := key l a h2
    exact inj j l s u e1 e2 n1 n2 (w.sl.dj _ _ a m1 m2)
  · obtain ⟨s, e1, n1, m1⟩ := key j a ha
    exact w.nz _ a m1
  · obtain ⟨s, e1, n1, m1⟩ := key j a ha
    rw [e] at e1; cases e1
    rcases h j _ e with q | ⟨q1, q2, _⟩
    · cases q
    · exact w.own _ t a q1 m1
  · obtain ⟨s, e1, n1, m1⟩ := key j a ha
    rw [e] at e1; cases e1
    rcases h j _ e with q | ⟨q1, q2, q3⟩
    · cases q
    · have := q3 rfl
      rw [this] at q1 m1
      exact w.mum _ t a q1 m1
  · rcases h j _ e with q | ⟨q1, q2, q3⟩
    · cases q
    · have q := q3 rfl
      rw [q] at q1 q2
      obtain ⟨v, e1, e2⟩ := w.mus j t q1
      refine ⟨v, e1, getD_some ?_⟩
      rw [q2]
      exact of_getD e2
end

section
variable {C : Ctx} {ps : Sg} {Ep : List S} {Z Z' : Addr → Prop} {σ : Sg} {E : List S} {H H' : Hp}
theorem getD_left {α : Type} {a b : List (Option α)} {i : Nat} (h : i < a.length) : (a ++ b).getD i none = a.getD i none := by
  rw [List.getD_eq_getElem?_getD, List.getD_eq_getElem?_getD, List.getElem?_append_left h]
theorem getD_right {α : Type} {a b : List (Option α)} {i : Nat} (h : a.length ≤ i) : (a ++ b).getD i none = b.getD (i - a.length) none := by
  rw [List.getD_eq_getElem?_getD, List.getD_eq_getElem?_getD, List.getElem?_append_right h]
/-- other values at places where nothing is known -/
theorem At.resig (w : At C ps Ep Z σ E H) {σ' : Sg} (hl : σ'.length = σ.length) (h : ∀ (j : Nat) s, E[j]? = some s → s ≠ .un → σ'[j]? = σ[j]?) : At C ps Ep Z σ' E H := by
  obtain ⟨F, f⟩ := w.2
  refine ⟨hl.trans w.1, f.re (fun j => j) (by rw [List.length_append, List.length_append, hl, ← List.length_append, f.sl.len, List.length_append]) (fun j s e => ?_) fun _ _ _ _ _ _ _ _ e => e⟩
  by_cases q : s = .un
  · exact .inl q
  · refine .inr ⟨e, ?_, fun _ => rfl⟩
    by_cases hj : j < E.length
    · rw [getD_left (by have := w.1; omega), getD_left (by have := w.1; omega)]
      rw [List.getElem?_append_left hj] at e
      rw [List.getD_eq_getElem?_getD, List.getD_eq_getElem?_getD, h j s e q]
    · rw [getD_right (by have := w.1; omega), getD_right (by have := w.1; omega), hl]
def wipeE (E : List S) : List Nat → List S
  | [] => E
  | v :: vs => (wipeE E vs).set v .un
theorem wipeE_length (E : List S) : ∀ vs : List Nat, (wipeE E vs).length = E.length
  | [] => rfl
  | v :: vs => by unfold wipeE; rw [List.length_set, wipeE_length E vs]
theorem At.wipe (w : At C ps Ep Z σ E H) : ∀ vs : List Nat, At C ps Ep Z (L2.wipe σ vs) (wipeE E vs) H
  | [] => w
  | v :: vs => by
    have q := w.wipe vs
    unfold L2.wipe wipeE
    by_cases hv : v < (wipeE E vs).length
    · exact q.forget hv
    · rw [List.set_eq_of_length_le (show (wipeE E vs).length ≤ v by omega), List.set_eq_of_length_le (show (L2.wipe σ vs).length ≤ v by rw [q.1]; omega)]
      exact q
/-- what is pending, seen as a name -/
theorem At.flat {x : Option V} {s : S} (w : At C (ps ++ [x]) (Ep ++ [s]) Z σ E H) : At C [] [] Z (σ ++ (ps ++ [x])) (E ++ (Ep ++ [s])) H ∧ (E ++ (Ep ++ [s]))[(E ++ Ep).length]? = some s ∧ (σ ++ (ps ++ [x]))[(E ++ Ep).length]? = some x := by
  have hl := w.2.len
  refine ⟨⟨hl, by rw [List.append_nil, List.append_nil]; exact w.2⟩, ?_, ?_⟩
  · rw [← List.append_assoc, List.getElem?_append_right (Nat.le_refl _), Nat.sub_self]; rfl
  · have e : (σ ++ ps).length = (E ++ Ep).length := by
      simp only [List.length_append, List.length_singleton] at hl ⊢
      omega
    rw [← List.append_assoc, List.getElem?_append_right (by omega), e, Nat.sub_self]; rfl
/-- one more item to a pending list -/
theorem At.snocP {D' : Addr} {acc : List D} {y : V} {d : D} (w : At C (ps ++ [some (.ref D')]) (Ep ++ [.ow (.lst acc)]) Z σ E H) (r : Rep C.K Z H y d) :
    ∃ vs, H D' = some (.lst vs) ∧ vs.length = acc.length ∧ Stp Z H Z (upd H D' (.lst (vs ++ [y]))) ∧ At C (ps ++ [some (.ref D')]) (Ep ++ [.ow (.lst (acc ++ [d]))]) Z σ E (upd H D' (.lst (vs ++ [y]))) := by
  obtain ⟨w1, e1, e2⟩ := w.flat
  obtain ⟨a, vs, e3, h, rs, k⟩ := w1.list e1 (ds := acc) rfl
  rw [e2] at e3
  cases e3
  obtain ⟨st, w2⟩ := k (vs ++ [y]) (acc ++ [d]) (rs.append (.one r))
  refine ⟨vs, h, rs.length, st, w.1, ?_⟩
  have w3 := w2.2
  rw [List.append_nil, List.append_nil, ← List.append_assoc E, List.set_append_right _ _ (Nat.le_refl _), Nat.sub_self, List.append_assoc E] at w3
  exact w3

/-! ### comprehensions -/
variable {X : Cx}
structure PTsD (C : Ctx) (X : Cx) (ifs : List Expr) (t : TB) : Prop where
  pts : PTs X ifs (ttOf C t)
def tYesD : TB := fun E Q => Q true E
theorem dts_nil : PTs X [] (ttOf C tYesD) := ⟨fun pins s σ H Q I ⟨ps, Ep, E, Z, Qd, w, h, post⟩ => (pts_nil (X := X)).run pins s σ H Q I (post true E Z H w (Stp.refl _ _) h)⟩
theorem dts_one {c : Expr} {t : TB} (h : DT C X c t) : PTs X [c] (ttOf C t) := pts_one h
def tLcD (t : TIt) (g : TGD) (tt : TB) (te : TD) (own : List Nat) : TN := fun E Q => t E fun ds E1 => ∃ I : Nat → List D → List S → Prop, I 0 [] (wipeE E1 own) ∧
  (∀ (i : Nat) d acc E', ds[i]? = some d → I i acc E' → g d E' fun E2 => tt E2 fun b E3 => brB b (te E3 fun y E4 => acc.length < sizeLine ∧ I (i + 1) (acc ++ [y]) (wipeE E4 own)) (I (i + 1) acc (wipeE E3 own))) ∧
  ∀ acc E', I ds.length acc E' → (∀ j ∈ own, E'[j]? = some .un ∨ E'[j]? = none) → Q (.lst acc) E'
theorem wipeE_un (E : List S) : ∀ (vs : List Nat) (j : Nat), j ∈ vs → (wipeE E vs)[j]? = some .un ∨ (wipeE E vs)[j]? = none
  | [], _, h => by cases h
  | v :: vs, j, h => by
    unfold wipeE
    by_cases q : v = j
    · subst q
      by_cases hv : v < (wipeE E vs).length
      · rw [List.getElem?_set_self hv]; exact .inl rfl
      · rw [List.getElem?_eq_none (by rw [List.length_set]; omega)]; exact .inr rfl
    · rw [List.getElem?_set_ne q]
      exact wipeE_un E vs j ((List.mem_cons.mp h).resolve_left fun e => q e.symm)
theorem wipe_eq {σ σ' : Sg} : ∀ {vs : List Nat}, (∀ j : Nat, j ∉ vs → σ'[j]? = σ[j]?) → σ'.length = σ.length → L2.wipe σ' vs = L2.wipe σ vs := fun {vs} h hl => by
  refine List.ext_getElem? fun j => ?_
  by_cases hj : j ∈ vs
  · have one : ∀ (τ : Sg) (vs : List Nat), j ∈ vs → (L2.wipe τ vs)[j]? = if j < τ.length then some none else none := by
      intro τ vs
      induction vs with
      | nil => intro h; cases h
      | cons v vs ih =>
        intro h
        unfold L2.wipe
        by_cases q : v = j
        · subst q
          by_cases hv : v < τ.length
          · rw [List.getElem?_set_self (by rw [wipe_length]; exact hv), if_pos hv]
          · rw [List.getElem?_eq_none (by rw [List.length_set, wipe_length]; omega), if_neg hv]
        · rw [List.getElem?_set_ne q]
          exact ih ((List.mem_cons.mp h).resolve_left fun e => q e.symm)
    rw [one σ' vs hj, one σ vs hj, hl]
  · rw [wipe_out hj, wipe_out hj, h j hj]
theorem lc_imp {t : TIt} {g : TGD} {tt : TB} {te : TD} {own : List Nat} {gs : List Nat} (hgs : ∀ j ∈ gs, j ∈ own) (σ : Sg) (H : Hp) (Q : VK) (h : neOf C (tLcD t g tt te own) σ H Q) : tLc (tiOf C t) (tgOf C gs g) (ttOf C tt) (teOf C te) own σ H Q := by
  obtain ⟨ps, Ep, E, Z, Qd, w, h, post⟩ := h
  refine ⟨ps, Ep, E, Z, _, w, h, fun J ds E1 Z1 H1 w1 st1 wk ⟨I, i0, step, fin⟩ D' hD => ?_⟩
  obtain ⟨stp, wp⟩ := w1.push hD (vs := []) (ds := []) .nil
  refine ⟨fun i m H' => m = ds.length - i ∧ i ≤ ds.length ∧ ∃ E' Z' acc, At C (ps ++ [some (.ref D')]) (Ep ++ [.ow (.lst acc)]) Z' (L2.wipe σ own) E' H' ∧ Stp Z1 H1 Z' H' ∧ I i acc E' ∧ ∀ j ∈ own, E'[j]? = some .un ∨ E'[j]? = none,
    ⟨_, rfl, Nat.zero_le _, _, Z1, [], wp.wipe own, stp, i0, wipeE_un _ _⟩, ?_⟩
  rintro i m H' ⟨rfl, hle, E', Z', acc, w', st', hi', hun⟩
  by_cases hlt : i < ds.length
  · obtain ⟨go, yl⟩ := wk.go Z' _ E' H' _ _ st' w' trivial i _ (List.getElem?_eq_getElem hlt)
    refine .inr ⟨go, fun H2 => ∃ E2 Z2 acc, At C (ps ++ [some (.ref D')]) (Ep ++ [.ow (.lst acc)]) Z2 (L2.wipe σ own) E2 H2 ∧ Stp Z1 H1 Z2 H2 ∧ I (i + 1) acc E2 ∧ ∀ j ∈ own, E2[j]? = some .un ∨ E2[j]? = none,
      fun H2 ⟨E2, Z2, acc2, w2, st2, h2, u2⟩ => ⟨ds.length - (i + 1), by omega, rfl, hlt, E2, Z2, acc2, w2, st2, h2, u2⟩, fun x H3 y => ?_⟩
    obtain ⟨hh, rx⟩ := yl x H3 y
    have w3 : At C (ps ++ [some (.ref D')]) (Ep ++ [.ow (.lst acc)]) Z' (L2.wipe σ own) E' H3 ∧ Stp Z' H' Z' H3 := by
      rcases hh with e | ⟨p, o, hp, e⟩
      · subst e; exact ⟨w', Stp.refl _ _⟩
      · subst e; exact ⟨w'.new hp, Stp.new w'.zt hp⟩
    have stA := st'.trans w3.2
    refine ⟨_, _, E', Z', _, _, w3.1, rx, step i _ acc E' (List.getElem?_eq_getElem hlt) hi', fun σ2 E2 w2 k2 h2 => ?_⟩
    have hl2 : σ2.length = (L2.wipe σ own).length := k2.1
    have ww : L2.wipe σ2 own = L2.wipe σ own := by
      rw [wipe_eq (σ := L2.wipe σ own) (fun j hj => k2.2 j fun m => hj (hgs j m)) hl2]
      refine wipe_eq (fun j hj => wipe_out hj) (wipe_length σ own)
    refine ⟨ww, _, _, E2, Z', _, w2, h2, fun b E3 Z3 H4 w4 st4 h4 => ?_⟩
    cases b with
    | true =>
      rw [if_pos rfl]
      replace h4 := h4.t
      refine ⟨_, _, E3, Z3, _, w4, h4, fun d E5 Z5 H5 v w5 st5 r5 ⟨hz, h5⟩ => ?_⟩
      obtain ⟨vs, e6, l6, st6, w6⟩ := w5.snocP r5
      refine ⟨vs, e6, by rw [l6]; exact hz, wipeE E5 own, Z5, acc ++ [d], ?_, stA.trans (st4.trans (st5.trans st6)), h5, wipeE_un _ _⟩
      rw [← ww]
      exact w6.wipe own
    | false =>
      rw [if_neg Bool.false_ne_true]
      replace h4 := h4.f
      refine ⟨wipeE E3 own, Z3, acc, ?_, stA.trans st4, h4, wipeE_un _ _⟩
      rw [← ww]
      exact w4.wipe own
  · have e : i = ds.length := by omega
    subst e
    refine .inl ⟨wk.stop Z' _ E' H' _ _ st' w' trivial _ (Nat.le_refl _), post _ E' Z' H' _ (w'.resig (wipe_length σ own).symm fun j s ej hs => ?_) (st1.trans st') (fin acc E' hi' hun)⟩
    have hj : j ∉ own := fun m => by
      rcases hun j m with z | z
      · rw [ej] at z; cases z; exact hs rfl
      · rw [ej] at z; cases z
    exact (wipe_out hj).symm
theorem dn_lc {elt tg iter : Expr} {ifs : List Expr} {scope : Scope} {own : List (Str × Nat)} {pos : Pos} {t : TIt} {g : TGD} {tt : TB} {te : TD} {gs : List Nat} (hN : X.N.Nodup) (hi : DI C X tg iter t) (ok : BlkOk X.N X.env.scope scope own)
    (hg : ∀ (s : Shared) (H : Hp) (a : Addr) (cl : List (Str × Addr)) (fp : List Addr), DG C (X.blk s H scope (compEnvC scope cl a X.env) fp) gs tg g) (ht : ∀ (s : Shared) (H : Hp) (a : Addr) (cl : List (Str × Addr)) (fp : List Addr), PTs (X.blk s H scope (compEnvC scope cl a X.env) fp) ifs (ttOf C tt))
    (he : ∀ (s : Shared) (H : Hp) (a : Addr) (cl : List (Str × Addr)) (fp : List Addr), DE C (X.blk s H scope (compEnvC scope cl a X.env) fp) elt te) (hc : X.calm = true := by rfl) (hgs : ∀ j ∈ gs, j ∈ own.map (·.2) := by decide) (hs : ∀ x, foldedSetIterable iter X.env x = pure x := by intro _; rfl) :
    DN C X (.ListComp elt [⟨tg, iter, ifs, 0⟩] scope pos) (tLcD t g tt te (own.map (·.2))) := (pe_lc hc hN hi ok hg ht he hs).imp (lc_imp hgs)
/-- name = [..] on one line -/
theorem ds_setlc (i : Nat) {y : Str} {py : Pos} {elt tg iter : Expr} {ifs : List Expr} {scope : Scope} {own : List (Str × Nat)} {pos spos : Pos} {t : TIt} {g : TGD} {tt : TB} {te : TD} {gs : List Nat} (hN : X.N.Nodup) (hi : DI C X tg iter t) (ok : BlkOk X.N X.env.scope scope own)
    (hg : ∀ (s : Shared) (H : Hp) (a : Addr) (cl : List (Str × Addr)) (fp : List Addr), DG C (X.blk s H scope (compEnvC scope cl a X.env) fp) gs tg g) (ht : ∀ (s : Shared) (H : Hp) (a : Addr) (cl : List (Str × Addr)) (fp : List Addr), PTs (X.blk s H scope (compEnvC scope cl a X.env) fp) ifs (ttOf C tt))
    (he : ∀ (s : Shared) (H : Hp) (a : Addr) (cl : List (Str × Addr)) (fp : List Addr), DE C (X.blk s H scope (compEnvC scope cl a X.env) fp) elt te) (hy : X.N[i]? = some y := by rfl) (hyl : X.env.scope.names.lookup y = some .local := by rfl)
    (hsw : swapsWith (.ListComp elt [⟨tg, iter, ifs, 0⟩] scope pos) (some (.Name y py)) spos.line X.env = pure true := by exact sw_true rfl rfl rfl (by decide +kernel)) (hc : X.calm = true := by rfl) (hgs : ∀ j ∈ gs, j ∈ own.map (·.2) := by decide)
    (hs : ∀ x, foldedSetIterable iter X.env x = pure x := by intro _; rfl) :
    DS C X (.Assign [.Name y py] (.ListComp elt [⟨tg, iter, ifs, 0⟩] scope pos) spos) (dSetN i (tLcD t g tt te (own.map (·.2)))) := (ps_setLc hc hN hy hyl hsw hi ok hg ht he hs).imp fun Dn σ H ⟨ps, Ep, E, Z, Dd, w, h, f⟩ => by
  refine lc_imp hgs σ H _ ⟨ps, Ep, E, Z, _, w, h, fun tr E1 Z1 H1 v w1 st1 ⟨h0, h1⟩ => ?_⟩
  obtain ⟨f1, f2⟩ := free_lt h0
  exact f.nx _ _ Z1 H1 (w1.setP f1 f2) st1 h1
/-! ### a comprehension over an owned list at a name, only looked at -/
def lstIs (E : List S) (j : Nat) (ds : List D) : Prop := ∃ s, E[j]? = some s ∧ s.tree? = some (.lst ds)
def tibOf (C : Ctx) (j : Nat) (t : TIt) : TI := fun σ H R => ∃ ps Ep E Z Qi, At C ps Ep Z σ E H ∧ t E Qi ∧ ∀ J ds E' Z' H', At C ps Ep Z' σ E' H' → Stp Z H Z' H' → Walks C J Z' H' ds (fun σ2 E2 => σ2[j]? = σ[j]? ∧ lstIs E2 j ds) → Qi ds E' → R J H'
def tiB (j : Nat) : TIt := fun E Q => match E[j]? with
  | some (.ow (.lst ds)) => Q ds E
  | some (.mu (.lst ds)) => Q ds E
  | _ => False
theorem di_b (j : Nat) {x : Str} {pos : Pos} {tg : Expr} (hN : X.N[j]? = some x := by rfl) (hv : Vis X.env.scope x := by first | exact Or.inl rfl | exact Or.inr (Or.inl rfl) | exact Or.inr (Or.inr rfl)) (hd : (x == ("__debug__" : Str)) = false := by decide)
    (hcd : (x == ("__classdict__" : Str)) = false := by decide) (hK : X.K = C.K := by rfl) : PI X tg (.Name x pos) (tibOf C j (tiB j)) := (pi_list (pe_var hN hv hd hcd)).imp fun σ H R ⟨ps, Ep, E, Z, Qd, w, h, post⟩ => by
  rw [hK]
  have main : ∀ {s : S} {ds : List D}, E[j]? = some s → s.tree? = some (.lst ds) → Qd ds E → iList C.K (tVar j) σ H R := fun {s ds} e et q => by
    obtain ⟨a, vs, e1, ha, rs, _⟩ := w.list e et
    have get : ∀ {Z2 : Addr → Prop} {σ2 : Sg} {E2 : List S} {H2 : Hp} {ps : Sg} {Ep : List S}, At C ps Ep Z2 σ2 E2 H2 → σ2[j]? = σ[j]? → lstIs E2 j ds → ∃ vs2, H2 a = some (.lst vs2) ∧ Reps C.K Z2 H2 vs2 ds := fun {Z2 σ2 E2 H2 ps Ep} w2 es ⟨s2, g1, g2⟩ => by
      obtain ⟨a2, vs2, g3, g4, g5, _⟩ := w2.list g1 g2
      rw [es, e1] at g3
      cases g3
      exact ⟨vs2, g4, g5⟩
    refine ⟨_, e1, a, rfl, ⟨vs, .of ha⟩, post _ ds E Z H w (Stp.refl _ _) ⟨fun Z2 σ2 E2 H2 ps Ep st w2 hh i hi => ?_, fun Z2 σ2 E2 H2 ps Ep st w2 hh i d ed => ?_⟩ q⟩
    · obtain ⟨vs2, g1, g2⟩ := get w2 hh.1 hh.2
      exact ⟨vs2, .of g1, by rw [g2.length]; exact hi⟩
    · obtain ⟨vs2, g1, g2⟩ := get w2 hh.1 hh.2
      obtain ⟨v, e2, rv⟩ := g2.get ed
      refine ⟨⟨vs2, v, .of g1, e2⟩, fun x H3 y => ?_⟩
      obtain ⟨y1, y2⟩ := y
      subst y1
      have := y2 vs2 (.of g1)
      rw [e2] at this
      cases this
      exact ⟨.inl rfl, rv⟩
  unfold tiB at h
  split at h
  · rename_i ds e; exact main e rfl h
  · rename_i ds e; exact main e rfl h
  · cases h
def tLcB (j : Nat) (t : TIt) (g : TGD) (tt : TB) (te : TD) (own : List Nat) : TN := fun E Q => t E fun ds E1 => ∃ I : Nat → List D → List S → Prop, I 0 [] (wipeE E1 own) ∧ (∀ i acc E', I i acc E' → lstIs E' j ds) ∧
  (∀ (i : Nat) d acc E', ds[i]? = some d → I i acc E' → g d E' fun E2 => tt E2 fun b E3 => brB b (te E3 fun y E4 => acc.length < sizeLine ∧ I (i + 1) (acc ++ [y]) (wipeE E4 own)) (I (i + 1) acc (wipeE E3 own))) ∧
  ∀ acc E', I ds.length acc E' → (∀ j ∈ own, E'[j]? = some .un ∨ E'[j]? = none) → Q (.lst acc) E'
theorem lcB_imp {j0 : Nat} {t : TIt} {g : TGD} {tt : TB} {te : TD} {own : List Nat} {gs : List Nat} (hj0 : j0 ∉ own) (hgs : ∀ j ∈ gs, j ∈ own) (σ : Sg) (H : Hp) (Q : VK) (h : neOf C (tLcB j0 t g tt te own) σ H Q) : tLc (tibOf C j0 t) (tgOf C gs g) (ttOf C tt) (teOf C te) own σ H Q := by
  obtain ⟨ps, Ep, E, Z, Qd, w, h, post⟩ := h
  refine ⟨ps, Ep, E, Z, _, w, h, fun J ds E1 Z1 H1 w1 st1 wk ⟨I, i0, hold, step, fin⟩ D' hD => ?_⟩
  obtain ⟨stp, wp⟩ := w1.push hD (vs := []) (ds := []) .nil
  refine ⟨fun i m H' => m = ds.length - i ∧ i ≤ ds.length ∧ ∃ E' Z' acc, At C (ps ++ [some (.ref D')]) (Ep ++ [.ow (.lst acc)]) Z' (L2.wipe σ own) E' H' ∧ Stp Z1 H1 Z' H' ∧ I i acc E' ∧ ∀ j ∈ own, E'[j]? = some .un ∨ E'[j]? = none,
    ⟨_, rfl, Nat.zero_le _, _, Z1, [], wp.wipe own, stp, i0, wipeE_un _ _⟩, ?_⟩
  rintro i m H' ⟨rfl, hle, E', Z', acc, w', st', hi', hun⟩
  by_cases hlt : i < ds.length
  · obtain ⟨go, yl⟩ := wk.go Z' _ E' H' _ _ st' w' ⟨wipe_out hj0, hold _ _ _ hi'⟩ i _ (List.getElem?_eq_getElem hlt)
    refine .inr ⟨go, fun H2 => ∃ E2 Z2 acc, At C (ps ++ [some (.ref D')]) (Ep ++ [.ow (.lst acc)]) Z2 (L2.wipe σ own) E2 H2 ∧ Stp Z1 H1 Z2 H2 ∧ I (i + 1) acc E2 ∧ ∀ j ∈ own, E2[j]? = some .un ∨ E2[j]? = none,
      fun H2 ⟨E2, Z2, acc2, w2, st2, h2, u2⟩ => ⟨ds.length - (i + 1), by omega, rfl, hlt, E2, Z2, acc2, w2, st2, h2, u2⟩, fun x H3 y => ?_⟩
    obtain ⟨hh, rx⟩ := yl x H3 y
    have w3 : At C (ps ++ [some (.ref D')]) (Ep ++ [.ow (.lst acc)]) Z' (L2.wipe σ own) E' H3 ∧ Stp Z' H' Z' H3 := by
      rcases hh with e | ⟨p, o, hp, e⟩
      · subst e; exact ⟨w', Stp.refl _ _⟩
      · subst e; exact ⟨w'.new hp, Stp.new w'.zt hp⟩
    have stA := st'.trans w3.2
    refine ⟨_, _, E', Z', _, _, w3.1, rx, step i _ acc E' (List.getElem?_eq_getElem hlt) hi', fun σ2 E2 w2 k2 h2 => ?_⟩
    have hl2 : σ2.length = (L2.wipe σ own).length := k2.1
    have ww : L2.wipe σ2 own = L2.wipe σ own := by
      rw [wipe_eq (σ := L2.wipe σ own) (fun j hj => k2.2 j fun m => hj (hgs j m)) hl2]
      refine wipe_eq (fun j hj => wipe_out hj) (wipe_length σ own)
    refine ⟨ww, _, _, E2, Z', _, w2, h2, fun b E3 Z3 H4 w4 st4 h4 => ?_⟩
    cases b with
    | true =>
      rw [if_pos rfl]
      replace h4 := h4.t
      refine ⟨_, _, E3, Z3, _, w4, h4, fun d E5 Z5 H5 v w5 st5 r5 ⟨hz, h5⟩ => ?_⟩
      obtain ⟨vs, e6, l6, st6, w6⟩ := w5.snocP r5
      refine ⟨vs, e6, by rw [l6]; exact hz, wipeE E5 own, Z5, acc ++ [d], ?_, stA.trans (st4.trans (st5.trans st6)), h5, wipeE_un _ _⟩
      rw [← ww]
      exact w6.wipe own
    | false =>
      rw [if_neg Bool.false_ne_true]
      replace h4 := h4.f
      refine ⟨wipeE E3 own, Z3, acc, ?_, stA.trans st4, h4, wipeE_un _ _⟩
      rw [← ww]
      exact w4.wipe own
  · have e : i = ds.length := by omega
    subst e
    refine .inl ⟨wk.stop Z' _ E' H' _ _ st' w' ⟨wipe_out hj0, hold _ _ _ hi'⟩ _ (Nat.le_refl _), post _ E' Z' H' _ (w'.resig (wipe_length σ own).symm fun j s ej hs => ?_) (st1.trans st') (fin acc E' hi' hun)⟩
    have hj : j ∉ own := fun m => by
      rcases hun j m with z | z
      · rw [ej] at z; cases z; exact hs rfl
      · rw [ej] at z; cases z
    exact (wipe_out hj).symm
theorem dn_lcB (j0 : Nat) {elt tg iter : Expr} {ifs : List Expr} {scope : Scope} {own : List (Str × Nat)} {pos : Pos} {t : TIt} {g : TGD} {tt : TB} {te : TD} {gs : List Nat} (hN : X.N.Nodup) (hi : PI X tg iter (tibOf C j0 t)) (ok : BlkOk X.N X.env.scope scope own)
    (hg : ∀ (s : Shared) (H : Hp) (a : Addr) (cl : List (Str × Addr)) (fp : List Addr), DG C (X.blk s H scope (compEnvC scope cl a X.env) fp) gs tg g) (ht : ∀ (s : Shared) (H : Hp) (a : Addr) (cl : List (Str × Addr)) (fp : List Addr), PTs (X.blk s H scope (compEnvC scope cl a X.env) fp) ifs (ttOf C tt))
    (he : ∀ (s : Shared) (H : Hp) (a : Addr) (cl : List (Str × Addr)) (fp : List Addr), DE C (X.blk s H scope (compEnvC scope cl a X.env) fp) elt te) (hc : X.calm = true := by rfl) (hj0 : j0 ∉ own.map (·.2) := by decide) (hgs : ∀ j ∈ gs, j ∈ own.map (·.2) := by decide) (hs : ∀ x, foldedSetIterable iter X.env x = pure x := by intro _; rfl) :
    DN C X (.ListComp elt [⟨tg, iter, ifs, 0⟩] scope pos) (tLcB j0 t g tt te (own.map (·.2))) := (pe_lc hc hN hi ok hg ht he hs).imp (lcB_imp hj0 hgs)
end
end DL
set_option Elab.async false
set_option linter.all false
set_option maxRecDepth 100000
set_option maxHeartbeats 4000000
/-! DL, part f: calls of defs, what a def keeps. -/
namespace DL
open PySem PySem.Spec PyProof.Rows L2

/-- an argument: data, or the tree at a name, lent -/
inductive AM where
  | d (d : D) | m (i : Nat)
abbrev SpD := List S → (S → List S → Prop) → Prop
def argS (E : List S) : AM → S
  | .d d => .fr d
  | .m i => match E[i]? with
    | some (.ow t) => .mu t
    | some (.mu t) => .mu t
    | some (.fr d) => .fr d
    | _ => .un
def msOf : List AM → List Nat
  | [] => []
  | .d _ :: as => msOf as
  | .m i :: as => i :: msOf as
def apart : List Nat → Bool
  | [] => true
  | i :: is => !is.contains i && apart is
def whoAt : List AM → Nat → Option Nat
  | [], _ => none
  | .d _ :: as, j => (whoAt as j).map (· + 1)
  | .m i :: as, j => if i = j then some 0 else (whoAt as j).map (· + 1)
def backAt (as : List AM) (Em : List S) (j : Nat) (s : S) : S := match whoAt as j with
  | none => s
  | some k => match s with
    | .un => .un
    | .fr d => .fr d
    | s => match Em[k]? with
      | some (.mu t) => s.put t
      | _ => .un
def backL (as : List AM) (Em : List S) : Nat → List S → List S
  | _, [] => []
  | j, s :: E => backAt as Em j s :: backL as Em (j + 1) E
theorem backL_length (as : List AM) (Em : List S) : ∀ (j : Nat) (E : List S), (backL as Em j E).length = E.length
  | _, [] => rfl
  | j, s :: E => by rw [backL, List.length_cons, List.length_cons, backL_length as Em (j + 1) E]
theorem backL_get (as : List AM) (Em : List S) : ∀ (j : Nat) (E : List S) (i : Nat), (backL as Em j E)[i]? = E[i]?.map (backAt as Em (j + i))
  | _, [], i => by simp [backL]
  | j, s :: E, 0 => by simp [backL]
  | j, s :: E, i + 1 => by
    rw [backL, List.getElem?_cons_succ, List.getElem?_cons_succ, backL_get as Em (j + 1) E i, show j + 1 + i = j + (i + 1) by omega]
theorem whoAt_some : ∀ {as : List AM} {j k : Nat}, whoAt as j = some k → as[k]? = some (.m j)
  | [], _, _, h => by cases h
  | .d _ :: as, j, k, h => by
    unfold whoAt at h
    cases e : whoAt as j with
    | none => rw [e] at h; cases h
    | some l => rw [e] at h; cases h; rw [List.getElem?_cons_succ]; exact whoAt_some e
  | .m i :: as, j, k, h => by
    unfold whoAt at h
    split at h
    · rename_i q
      cases h
      rw [q]; rfl
    · cases e : whoAt as j with
      | none => rw [e] at h; cases h
      | some l => rw [e] at h; cases h; rw [List.getElem?_cons_succ]; exact whoAt_some e
theorem whoAt_none : ∀ {as : List AM} {j : Nat}, whoAt as j = none → ∀ k : Nat, as[k]? ≠ some (.m j)
  | [], _, _, k, e => by simp at e
  | .d _ :: as, j, h, k, e => by
    unfold whoAt at h
    cases k with
    | zero => simp at e
    | succ k =>
      rw [List.getElem?_cons_succ] at e
      exact whoAt_none (as := as) (by cases q : whoAt as j with | none => rfl | some l => rw [q] at h; cases h) k e
  | .m i :: as, j, h, k, e => by
    unfold whoAt at h
    split at h
    · cases h
    · rename_i q
      cases k with
      | zero => simp at e; exact q e
      | succ k =>
        rw [List.getElem?_cons_succ] at e
        exact whoAt_none (as := as) (by cases q : whoAt as j with | none => rfl | some l => rw [q] at h; cases h) k e
theorem mem_msOf : ∀ {as : List AM} {k i : Nat}, as[k]? = some (.m i) → i ∈ msOf as
  | [], _, _, e => by simp at e
  | .d _ :: as, k, i, e => by
    cases k with
    | zero => simp at e
    | succ k => rw [List.getElem?_cons_succ] at e; exact mem_msOf (as := as) e
  | .m j :: as, k, i, e => by
    cases k with
    | zero => simp at e; subst e; exact List.mem_cons_self
    | succ k => rw [List.getElem?_cons_succ] at e; exact List.mem_cons_of_mem _ (mem_msOf (as := as) e)
theorem apart_inj : ∀ {as : List AM} {k l i : Nat}, apart (msOf as) = true → as[k]? = some (.m i) → as[l]? = some (.m i) → k = l
  | [], _, _, _, _, e, _ => by simp at e
  | .d _ :: as, k, l, i, h, e1, e2 => by
    cases k with
    | zero => simp at e1
    | succ k =>
      cases l with
      | zero => simp at e2
      | succ l =>
        rw [List.getElem?_cons_succ] at e1 e2
        rw [apart_inj (as := as) h e1 e2]
  | .m j :: as, k, l, i, h, e1, e2 => by
    have h' : (!(msOf as).contains j && apart (msOf as)) = true := h
    obtain ⟨h1, h2⟩ := Bool.and_eq_true_iff.mp h'
    have n : j ∉ msOf as := by simpa using h1
    cases k with
    | zero =>
      simp at e1
      subst e1
      cases l with
      | zero => rfl
      | succ l => rw [List.getElem?_cons_succ] at e2; exact absurd (mem_msOf e2) n
    | succ k =>
      rw [List.getElem?_cons_succ] at e1
      cases l with
      | zero =>
        simp at e2
        subst e2
        exact absurd (mem_msOf e1) n
      | succ l =>
        rw [List.getElem?_cons_succ] at e2
        rw [apart_inj (as := as) h2 e1 e2]

theorem backAt_tree {as : List AM} {Em : List S} {j : Nat} {s0 s : S} {u : T} (hu : s0.tree? = some u) (e : backAt as Em j s0 = s) :
    (whoAt as j = none ∧ s0 = s) ∨ (∃ (k : Nat) (t : T), as[k]? = some (AM.m j) ∧ Em[k]? = some (S.mu t) ∧ s0.put t = s) ∨ s = .un := by
  have main : (match whoAt as j with | none => s0 | some k => match Em[k]? with | some (.mu t) => s0.put t | _ => .un) = s := by
    unfold backAt at e
    cases s0 with
    | un => cases hu
    | fr d => cases hu
    | ow t => exact e
    | mu t => exact e
  cases wa : whoAt as j with
  | none => rw [wa] at main; exact .inl ⟨rfl, main⟩
  | some k =>
    rw [wa] at main
    have ek := whoAt_some wa
    have main : (match Em[k]? with | some (.mu t) => s0.put t | _ => .un) = s := main
    split at main
    · rename_i t et
      exact .inr (.inl ⟨k, t, ek, et, main⟩)
    · exact .inr (.inr main.symm)

inductive ArgsOk (K : Frg) (Z : Addr → Prop) (σ : Sg) (H : Hp) : List V → List AM → Prop
  | nil : ArgsOk K Z σ H [] []
  | d {v : V} {vs : List V} {d : D} {as : List AM} : Rep K Z H v d → ArgsOk K Z σ H vs as → ArgsOk K Z σ H (v :: vs) (.d d :: as)
  | m {v : V} {vs : List V} {i : Nat} {as : List AM} : σ[i]? = some (some v) → ArgsOk K Z σ H vs as → ArgsOk K Z σ H (v :: vs) (.m i :: as)
section
variable {K : Frg} {Z Z' : Addr → Prop} {σ : Sg} {H H' : Hp}
theorem ArgsOk.length : ∀ {vs : List V} {as : List AM}, ArgsOk K Z σ H vs as → vs.length = as.length
  | _, _, .nil => rfl
  | _, _, .d _ r => by rw [List.length_cons, List.length_cons, r.length]
  | _, _, .m _ r => by rw [List.length_cons, List.length_cons, r.length]
theorem ArgsOk.atD : ∀ {vs : List V} {as : List AM} {k : Nat} {d : D}, ArgsOk K Z σ H vs as → as[k]? = some (.d d) → ∃ v, vs[k]? = some v ∧ Rep K Z H v d
  | _, _, _, _, .nil, e => by simp at e
  | _, _, 0, _, .d h _, e => by simp at e; subst e; exact ⟨_, rfl, h⟩
  | _, _, 0, _, .m h _, e => by simp at e
  | _, _, k + 1, _, .d _ r, e => by
    rw [List.getElem?_cons_succ] at e ⊢
    exact r.atD e
  | _, _, k + 1, _, .m _ r, e => by
    rw [List.getElem?_cons_succ] at e ⊢
    exact r.atD e
theorem ArgsOk.atM : ∀ {vs : List V} {as : List AM} {k : Nat} {i : Nat}, ArgsOk K Z σ H vs as → as[k]? = some (.m i) → ∃ v, vs[k]? = some v ∧ σ[i]? = some (some v)
  | _, _, _, _, .nil, e => by simp at e
  | _, _, 0, _, .d h _, e => by simp at e
  | _, _, 0, _, .m h _, e => by simp at e; subst e; exact ⟨_, rfl, h⟩
  | _, _, k + 1, _, .d _ r, e => by
    rw [List.getElem?_cons_succ] at e ⊢
    exact r.atM e
  | _, _, k + 1, _, .m _ r, e => by
    rw [List.getElem?_cons_succ] at e ⊢
    exact r.atM e
end

/-- what a def promises, over data: at the entry the arguments' places; Qd of the result and of what became of the trees -/
def spD (K : Frg) (n : Nat) (sd : SpD) : Sp := fun vs H Q _ => ∃ (Z : Addr → Prop) (args : List S) (F : Foot) (Qd : S → List S → Prop), vs.length = n ∧ Slots K Z H (vs.map some) args F ∧ (∀ i a, a ∈ F i → ¬ Z a) ∧ (∀ a, Z a → H a ≠ none) ∧ (∀ (i : Nat) t, args[i]? ≠ some (.ow t)) ∧ sd args Qd ∧
  ∀ r Em Z' H' v, ResAt ⟨K, H, F, Z, vs⟩ [] [] Z' (vs.map some) Em H' v r → Qd r Em → Q v H'

section
variable {C : Ctx} {ps : Sg} {Ep : List S} {Z Z' : Addr → Prop} {σ : Sg} {E : List S} {H H' : Hp} {F : Foot}
/-- a callee's world goes on from the caller's -/
theorem WdF.stp {C' : Ctx} {F' : Foot} {σ' : Sg} {E' : List S} {Z0 : Addr → Prop} {H0 : Hp} (e1 : C'.Z0 = Z0) (e2 : C'.H0 = H0) (nz : ∀ i a, a ∈ C'.Fm i → ¬ Z0 a) (kd : ∀ i a, a ∈ C'.Fm i → ∃ o, H0 a = some o ∧ MutK o) (zt : ∀ a, Z0 a → H0 a ≠ none) (w : WdF C' Z' σ' E' H' F') : Stp Z0 H0 Z' H' := by
  subst e1 e2
  refine ⟨w.z0, fun a z => ?_, fun a xs h => ?_, fun a o u h => ?_⟩
  · cases q : C'.H0 a with
    | none => exact absurd q (zt a z)
    | some o => exact w.fr a o q fun i hi => nz i a hi z
  · refine w.fr a _ h fun i hi => ?_
    obtain ⟨o, e, k⟩ := kd i a hi
    rw [h] at e; cases e; exact k
  · refine w.fr a _ h fun i hi => ?_
    obtain ⟨o, e, k⟩ := kd i a hi
    rw [h] at e; cases e; exact k
/-- the footprints that are lent -/
def lent (as : List AM) (E : List S) (F : Foot) : Foot := fun k => match as[k]? with
  | some (.m i) => (match E[i]? with | some (.ow _) => F i | some (.mu _) => F i | _ => [])
  | _ => []
theorem mem_lent {as : List AM} {k : Nat} {a : Addr} (h : a ∈ lent as E F k) : ∃ i s t, as[k]? = some (.m i) ∧ E[i]? = some s ∧ s.tree? = some t ∧ argS E (.m i) = .mu t ∧ a ∈ F i := by
  unfold lent at h
  split at h
  · rename_i i e
    split at h
    · rename_i t e2
      exact ⟨i, _, t, e, e2, rfl, by simp only [argS, e2], h⟩
    · rename_i t e2
      exact ⟨i, _, t, e, e2, rfl, by simp only [argS, e2], h⟩
    · cases h
  · cases h
theorem lent_of {as : List AM} {k i : Nat} {s : S} {t : T} (e : as[k]? = some (.m i)) (e2 : E[i]? = some s) (et : s.tree? = some t) : lent as E F k = F i := by
  unfold lent
  rw [e]
  cases s with
  | un => cases et
  | fr d => cases et
  | ow t => simp only [e2]
  | mu t => simp only [e2]
/-- THE CALL: the caller's places behind it -/
theorem call_go {as : List AM} {vs : List V} (w : WdF C Z (σ ++ ps) (E ++ Ep) H F) (hl : σ.length = E.length) (ok : ArgsOk C.K Z σ H vs as) (ap : apart (msOf as) = true) :
    Slots C.K Z H (vs.map some) (as.map (argS E)) (lent as E F) ∧ (∀ i a, a ∈ lent as E F i → ¬ Z a) ∧
    ∀ (r : S) Em Z' H' v, ResAt ⟨C.K, H, lent as E F, Z, vs⟩ [] [] Z' (vs.map some) Em H' v r → Stp Z H Z' H' ∧ ResAt C ps Ep Z' σ (backL as Em 0 E) H' v r := by
  have hlen := ok.length
  have eF : ∀ {i : Nat} {s : S}, E[i]? = some s → SRep C.K Z H (σ.getD i none) s (F i) := fun {i s} e => by
    have q := w.sl.rep i s (up_get e)
    rw [getD_left (by rw [hl]; exact (List.getElem?_eq_some_iff.mp e).1)] at q
    exact q
  have nzl : ∀ i a, a ∈ lent as E F i → ¬ Z a := fun k a h => by
    obtain ⟨i, s, t, _, _, _, _, m⟩ := mem_lent h
    exact w.nz i a m
  have kdl : ∀ i a, a ∈ lent as E F i → ∃ o, H a = some o ∧ MutK o := fun k a h => by
    obtain ⟨i, s, t, _, _, _, _, m⟩ := mem_lent h
    exact w.kind m
  have gv : ∀ {k : Nat} {v : V}, vs[k]? = some v → (vs.map some).getD k none = some v := fun {k v} e => by
    rw [List.getD_eq_getElem?_getD, List.getElem?_map, e]; rfl
  refine ⟨⟨by rw [List.length_map, List.length_map, hlen], fun k s e => ?_, fun k hk => ?_, fun k => ?_, fun k l a h1 h2 => ?_⟩, nzl, fun r Em Z' H' v R => ?_⟩
  · rw [List.getElem?_map] at e
    cases ea : as[k]? with
    | none => rw [ea] at e; cases e
    | some x =>
      rw [ea] at e
      cases e
      cases x with
      | d d =>
        obtain ⟨v, e1, rv⟩ := ok.atD ea
        refine ⟨?_, v, gv e1, rv⟩
        unfold lent; rw [ea]
      | m i =>
        obtain ⟨v, e1, e2⟩ := ok.atM ea
        have e2' := of_getD e2
        show SRep C.K Z H _ (argS E (.m i)) _
        unfold argS lent
        rw [ea]
        dsimp only
        cases ei : E[i]? with
        | none => exact rfl
        | some s =>
          have q := eF ei
          cases s with
          | un => exact rfl
          | fr d =>
            obtain ⟨q1, u, q2, q3⟩ := q
            rw [e2'] at q2
            cases q2
            exact ⟨rfl, v, gv e1, q3⟩
          | ow t =>
            obtain ⟨u, q2, q3⟩ := q
            rw [e2'] at q2
            cases q2
            exact ⟨v, gv e1, q3⟩
          | mu t =>
            obtain ⟨u, q2, q3⟩ := q
            rw [e2'] at q2
            cases q2
            exact ⟨v, gv e1, q3⟩
  · rw [List.length_map] at hk
    unfold lent
    rw [List.getElem?_eq_none hk]
  · unfold lent
    split
    · split
      · exact w.sl.nd _
      · exact w.sl.nd _
      · exact List.nodup_nil
    · exact List.nodup_nil
  · obtain ⟨i, _, _, e1, _, _, _, m1⟩ := mem_lent h1
    obtain ⟨j, _, _, e2, _, _, _, m2⟩ := mem_lent h2
    have := w.sl.dj i j a m1 m2
    subst this
    exact apart_inj ap e1 e2
  · -- the end
    have main : ∀ (pv : Sg) (pe : List S), pv.length = pe.length → (∀ (l : Nat) s, pe[l]? = some s → ∃ t, s = .ow t) → Wd ⟨C.K, H, lent as E F, Z, vs⟩ Z' (vs.map some ++ pv) (Em ++ pe) H' → (vs.map some).length = Em.length →
        Stp Z H Z' H' ∧ Wd C Z' (σ ++ (ps ++ pv)) (backL as Em 0 E ++ (Ep ++ pe)) H' := by
      intro pv pe hp hpe ⟨F', f⟩ hle
      have st : Stp Z H Z' H' := WdF.stp (C' := ⟨C.K, H, lent as E F, Z, vs⟩) rfl rfl nzl kdl w.zt f
      have keepF : ∀ j a, a ∈ F j → (∀ k : Nat, as[k]? ≠ some (AM.m j)) → H' a = H a := fun j a ha hn => by
        obtain ⟨o, e, _⟩ := w.kind ha
        rw [e]
        refine f.fr a o e fun k hk => ?_
        obtain ⟨i, _, _, e1, _, _, _, m⟩ := mem_lent hk
        have := w.sl.dj i j a m ha
        subst this
        exact hn k e1
      have nz1 : ∀ j a, a ∈ F j → ¬ Z' a := fun j a ha z => by
        rcases f.zn a z with z | z
        · exact w.nz j a ha z
        · obtain ⟨o, e, _⟩ := w.kind ha
          have z : H a = none := z
          rw [e] at z; cases z
      have old : ∀ j a, a ∈ F j → H a ≠ none := fun j a ha => by
        obtain ⟨o, e, _⟩ := w.kind ha
        rw [e]; intro q; cases q
      -- the pieces: a place not lent; lent; pending of old; of new
      have lE : (E ++ Ep).length = E.length + Ep.length := List.length_append
      have lV : (vs.map some).length = vs.length := List.length_map _
      have lent_mu : ∀ {k i : Nat} {t : T}, as[k]? = some (.m i) → Em[k]? = some (S.mu t) → ∀ a, a ∈ F' k → (∃ s u, E[i]? = some s ∧ s.tree? = some u ∧ a ∈ F i) ∨ H a = none := fun {k i t} e1 e2 a ha => by
        rcases f.mum k t a (up_get e2) ha with z | z
        · obtain ⟨i', s, u, e3, e4, e5, _, m⟩ := mem_lent z
          rw [e1] at e3
          cases e3
          exact .inl ⟨s, u, e4, e5, m⟩
        · exact .inr z
      have pos : ∀ (j : Nat) s, (backL as Em 0 E ++ (Ep ++ pe))[j]? = some s →
          (s = .un) ∨ ((E ++ Ep)[j]? = some s ∧ (∀ k : Nat, as[k]? ≠ some (AM.m j)) ∧ j < (E ++ Ep).length) ∨ ((∃ d, E[j]? = some (.fr d) ∧ s = .fr d)) ∨ (∃ (k : Nat) (s0 : S) (t : T) (u : T), as[k]? = some (AM.m j) ∧ E[j]? = some s0 ∧ s0.tree? = some u ∧ Em[k]? = some (S.mu t) ∧ s = s0.put t) ∨
          (∃ (l : Nat) (t : T), j = (E ++ Ep).length + l ∧ pe[l]? = some (S.ow t) ∧ s = .ow t) ∨ (E.length ≤ j ∧ j < (E ++ Ep).length ∧ (E ++ Ep)[j]? = some s) := by
        intro j s e
        by_cases h1 : j < E.length
        · rw [List.getElem?_append_left (by rw [backL_length]; exact h1), backL_get, Nat.zero_add, List.getElem?_eq_getElem h1, Option.map_some] at e
          have e0 : E[j]? = some E[j] := List.getElem?_eq_getElem h1
          generalize E[j] = s0 at e e0
          have e := Option.some.inj e
          cases hu : s0.tree? with
          | none =>
            cases s0 with
            | un =>
              have e : backAt as Em j .un = s := e
              unfold backAt at e
              split at e <;> exact .inl e.symm
            | fr d =>
              have e : backAt as Em j (.fr d) = s := e
              unfold backAt at e
              split at e <;> exact .inr (.inr (.inl ⟨d, e0, e.symm⟩))
            | ow t => cases hu
            | mu t => cases hu
          | some u =>
            rcases backAt_tree hu e with ⟨wa, e⟩ | ⟨k, t, ek, et, e⟩ | e
            · subst e
              exact .inr (.inl ⟨up_get e0, whoAt_none wa, by rw [lE]; omega⟩)
            · exact .inr (.inr (.inr (.inl ⟨k, s0, t, u, ek, e0, hu, et, e.symm⟩)))
            · exact .inl e
        · rw [List.getElem?_append_right (by rw [backL_length]; omega), backL_length] at e
          by_cases h2 : j < (E ++ Ep).length
          · rw [List.getElem?_append_left (by omega)] at e
            refine .inr (.inr (.inr (.inr (.inr ⟨by omega, h2, ?_⟩))))
            rw [List.getElem?_append_right (by omega)]
            exact e
          · rw [List.getElem?_append_right (by omega)] at e
            obtain ⟨t, et⟩ := hpe _ s e
            refine .inr (.inr (.inr (.inr (.inl ⟨j - E.length - Ep.length, t, by omega, ?_, et⟩))))
            rw [e, et]
      -- the new footprints
      let G : Foot := fun j => match (backL as Em 0 E ++ (Ep ++ pe))[j]? with
        | none => []
        | some .un => []
        | some (.fr _) => []
        | some _ => if j < (E ++ Ep).length then (if j < E.length then (match whoAt as j with | none => F j | some k => F' k) else F j) else F' (vs.length + (j - (E ++ Ep).length))
      have hlσ : (σ ++ (ps ++ pv)).length = (backL as Em 0 E ++ (Ep ++ pe)).length := by
        have := w.sl.len
        simp only [List.length_append, backL_length] at this ⊢
        omega
      have lps : ps.length = Ep.length := by
        have := w.sl.len
        simp only [List.length_append] at this
        omega
      have tree_put : ∀ {s : S} {t u : T}, s.tree? = some u → ((∃ x, s = .ow x ∧ s.put t = .ow t) ∨ (∃ x, s = .mu x ∧ s.put t = .mu t)) := fun {s t u} h => by
        cases s with
        | un => cases h
        | fr d => cases h
        | ow x => exact .inl ⟨x, rfl, rfl⟩
        | mu x => exact .inr ⟨x, rfl, rfl⟩
      -- what G is
      have Gold : ∀ {j : Nat} {s : S}, (backL as Em 0 E ++ (Ep ++ pe))[j]? = some s → (E ++ Ep)[j]? = some s → (∀ k : Nat, as[k]? ≠ some (AM.m j)) ∨ E.length ≤ j → j < (E ++ Ep).length → G j = F j ∨ (G j = [] ∧ F j = []) := fun {j s} e e0 hn hj => by
        have z := w.sl.rep j s e0
        show (match (backL as Em 0 E ++ (Ep ++ pe))[j]? with | none => [] | some .un => [] | some (.fr _) => [] | some _ => if j < (E ++ Ep).length then (if j < E.length then (match whoAt as j with | none => F j | some k => F' k) else F j) else F' (vs.length + (j - (E ++ Ep).length))) = F j ∨ _
        have inner : (if j < (E ++ Ep).length then (if j < E.length then (match whoAt as j with | none => F j | some k => F' k) else F j) else F' (vs.length + (j - (E ++ Ep).length))) = F j := by
          rw [if_pos hj]
          split
          · rcases hn with hn | hn
            · cases wa : whoAt as j with
              | none => rfl
              | some k => exact absurd (whoAt_some wa) (hn k)
            · omega
          · rfl
        cases s with
        | un => rw [e]; exact .inl (show [] = F j from (show F j = [] from z).symm)
        | fr d => rw [e]; exact .inl (show [] = F j from z.1.symm)
        | ow t => rw [e]; exact .inl inner
        | mu t => rw [e]; exact .inl inner
      have Glent : ∀ {j k : Nat} {s0 : S} {t u : T}, (backL as Em 0 E ++ (Ep ++ pe))[j]? = some (s0.put t) → as[k]? = some (.m j) → E[j]? = some s0 → s0.tree? = some u → G j = F' k := fun {j k s0 t u} e ek e0 hu => by
        have hj := (List.getElem?_eq_some_iff.mp e0).1
        have wk : whoAt as j = some k := by
          cases wa : whoAt as j with
          | none => exact absurd ek (whoAt_none wa k)
          | some k' => rw [apart_inj ap (whoAt_some wa) ek]
        show (match (backL as Em 0 E ++ (Ep ++ pe))[j]? with | none => [] | some .un => [] | some (.fr _) => [] | some _ => if j < (E ++ Ep).length then (if j < E.length then (match whoAt as j with | none => F j | some k => F' k) else F j) else F' (vs.length + (j - (E ++ Ep).length))) = F' k
        rw [e]
        have inner : (if j < (E ++ Ep).length then (if j < E.length then (match whoAt as j with | none => F j | some k => F' k) else F j) else F' (vs.length + (j - (E ++ Ep).length))) = F' k := by
          rw [if_pos (by rw [lE]; omega), if_pos hj, wk]
        rcases tree_put (t := t) hu with ⟨x, _, q⟩ | ⟨x, _, q⟩ <;> (rw [q]; exact inner)
      have Gnew : ∀ {j l : Nat} {t : T}, (backL as Em 0 E ++ (Ep ++ pe))[j]? = some (.ow t) → j = (E ++ Ep).length + l → G j = F' (vs.length + l) := fun {j l t} e ej => by
        show (match (backL as Em 0 E ++ (Ep ++ pe))[j]? with | none => [] | some .un => [] | some (.fr _) => [] | some _ => if j < (E ++ Ep).length then (if j < E.length then (match whoAt as j with | none => F j | some k => F' k) else F j) else F' (vs.length + (j - (E ++ Ep).length))) = _
        rw [e]
        show (if j < (E ++ Ep).length then _ else F' (vs.length + (j - (E ++ Ep).length))) = _
        rw [if_neg (by omega), ej, Nat.add_sub_cancel_left]
      have Gun : ∀ {j : Nat}, (backL as Em 0 E ++ (Ep ++ pe))[j]? = some .un → G j = [] := fun {j} e => by
        show (match (backL as Em 0 E ++ (Ep ++ pe))[j]? with | none => [] | some .un => [] | some (.fr _) => [] | some _ => if j < (E ++ Ep).length then (if j < E.length then (match whoAt as j with | none => F j | some k => F' k) else F j) else F' (vs.length + (j - (E ++ Ep).length))) = _
        rw [e]
      have Gfr : ∀ {j : Nat} {d : D}, (backL as Em 0 E ++ (Ep ++ pe))[j]? = some (.fr d) → G j = [] := fun {j d} e => by
        show (match (backL as Em 0 E ++ (Ep ++ pe))[j]? with | none => [] | some .un => [] | some (.fr _) => [] | some _ => if j < (E ++ Ep).length then (if j < E.length then (match whoAt as j with | none => F j | some k => F' k) else F j) else F' (vs.length + (j - (E ++ Ep).length))) = _
        rw [e]
      have Gout : ∀ {j : Nat}, (backL as Em 0 E ++ (Ep ++ pe)).length ≤ j → G j = [] := fun {j} hj => by
        show (match (backL as Em 0 E ++ (Ep ++ pe))[j]? with | none => [] | some .un => [] | some (.fr _) => [] | some _ => if j < (E ++ Ep).length then (if j < E.length then (match whoAt as j with | none => F j | some k => F' k) else F j) else F' (vs.length + (j - (E ++ Ep).length))) = _
        rw [List.getElem?_eq_none hj]
      -- where an address of G j comes from
      have src : ∀ (j : Nat) a, a ∈ G j → (a ∈ F j ∧ ((∀ k : Nat, as[k]? ≠ some (AM.m j)) ∨ E.length ≤ j)) ∨ (∃ (k : Nat) (t : T), as[k]? = some (AM.m j) ∧ Em[k]? = some (S.mu t) ∧ a ∈ F' k) ∨ (∃ (l : Nat) (t : T), j = (E ++ Ep).length + l ∧ pe[l]? = some (S.ow t) ∧ a ∈ F' (vs.length + l)) := fun j a ha => by
        by_cases hj : j < (backL as Em 0 E ++ (Ep ++ pe)).length
        · have e := List.getElem?_eq_getElem hj
          generalize (backL as Em 0 E ++ (Ep ++ pe))[j] = s at e
          rcases pos j s e with q | ⟨q1, q2, q3⟩ | ⟨d, q1, q2⟩ | ⟨k, s0, t, u, q1, q2, q3, q4, q5⟩ | ⟨l, t, q1, q2, q3⟩ | ⟨q1, q2, q3⟩
          · subst q; rw [Gun e] at ha; cases ha
          · rcases Gold e q1 (.inl q2) q3 with z | z
            · rw [z] at ha; exact .inl ⟨ha, .inl q2⟩
            · rw [z.1] at ha; cases ha
          · subst q2; rw [Gfr e] at ha; cases ha
          · subst q5; rw [Glent e q1 q2 q3] at ha; exact .inr (.inl ⟨k, t, q1, q4, ha⟩)
          · subst q3; rw [Gnew e q1] at ha; exact .inr (.inr ⟨l, t, q1, q2, ha⟩)
          · rcases Gold e q3 (.inr q1) q2 with z | z
            · rw [z] at ha; exact .inl ⟨ha, .inr q1⟩
            · rw [z.1] at ha; cases ha
        · rw [Gout (by omega)] at ha; cases ha
      have pend : ∀ {l : Nat} {t : T}, pe[l]? = some (S.ow t) → (Em ++ pe)[vs.length + l]? = some (.ow t) := fun {l t} e => by
        rw [List.getElem?_append_right (by omega), show vs.length + l - Em.length = l by omega]
        exact e
      have fresh : ∀ {k : Nat} {a : Addr}, a ∈ F' k → (∃ i, a ∈ F i ∧ as[k]? = some (.m i)) ∨ H a = none ∨ (∀ s, (Em ++ pe)[k]? = some s → s.tree? = none) := fun {k a} ha => by
        by_cases hk : k < (Em ++ pe).length
        · have e := List.getElem?_eq_getElem hk
          generalize (Em ++ pe)[k] = s at e
          cases s with
          | un => exact .inr (.inr fun s q => by rw [e] at q; cases q; rfl)
          | fr d => exact .inr (.inr fun s q => by rw [e] at q; cases q; rfl)
          | ow t => exact .inr (.inl (f.own k t a e ha))
          | mu t =>
            rcases f.mum k t a e ha with z | z
            · obtain ⟨i, s, u, e3, e4, e5, _, m⟩ := mem_lent z
              exact .inl ⟨i, m, e3⟩
            · exact .inr (.inl z)
        · rw [f.sl.out k (by omega)] at ha; cases ha
      refine ⟨st, G, ⟨⟨hlσ, fun j s e => ?_, fun j hj => Gout hj, fun j => ?_, fun j l a h1 h2 => ?_⟩, fun j a ha => ?_, fun j t a e ha => ?_, fun j t a e ha => ?_, fun j t e => ?_, fun b o e0 n => ?_, fun a h => st.zz a (w.z0 a h), fun a h => ?_, f.zt, fun b h => f.kt b (w.kt b h)⟩⟩
      · -- rep
        rcases pos j s e with q | ⟨q1, q2, q3⟩ | ⟨d, q1, q2⟩ | ⟨k, s0, t, u, q1, q2, q3, q4, q5⟩ | ⟨l, t, q1, q2, q3⟩ | ⟨q1, q2, q3⟩
        · subst q; exact Gun e
        · have z := (w.sl.rep j s q1).mono st fun a ha => keepF j a ha q2
          rw [show (σ ++ (ps ++ pv)).getD j none = (σ ++ ps).getD j none by rw [← List.append_assoc, getD_left (by rw [List.length_append]; omega)]]
          rcases Gold e q1 (.inl q2) q3 with y | y
          · rw [y]; exact z
          · rw [y.1]; rw [y.2] at z; exact z
        · subst q2
          have z := (w.sl.rep j _ (up_get q1)).mono st fun a ha => by
            have := (w.sl.rep j _ (up_get (Ep := Ep) q1)).1
            rw [this] at ha; cases ha
          have hj := (List.getElem?_eq_some_iff.mp q1).1
          rw [show (σ ++ (ps ++ pv)).getD j none = (σ ++ ps).getD j none by rw [← List.append_assoc, getD_left (by rw [List.length_append]; omega)]]
          rw [Gfr e]
          exact ⟨rfl, z.2⟩
        · subst q5
          rw [Glent e q1 q2 q3]
          have z := f.sl.rep k _ (up_get q4)
          obtain ⟨v', y1, y2⟩ := ok.atM q1
          rw [getD_left (by rw [lV]; exact (List.getElem?_eq_some_iff.mp y1).1), gv y1] at z
          obtain ⟨x, x1, x2⟩ := z
          cases x1
          have hj := (List.getElem?_eq_some_iff.mp q2).1
          rw [getD_left (by omega), of_getD y2]
          rcases tree_put (t := t) q3 with ⟨x, _, q⟩ | ⟨x, _, q⟩ <;> (rw [q]; exact ⟨v', rfl, x2⟩)
        · subst q3
          rw [Gnew e q1]
          have z := f.sl.rep _ _ (pend q2)
          rw [getD_right (by rw [lV]; omega), lV, Nat.add_sub_cancel_left] at z
          rw [← List.append_assoc, getD_right (by rw [List.length_append]; omega), show j - (σ ++ ps).length = l by rw [List.length_append]; omega]
          exact z
        · have hn : ∀ k : Nat, as[k]? ≠ some (AM.m j) := fun k ek => by
            obtain ⟨v', _, y2⟩ := ok.atM ek
            have := (List.getElem?_eq_some_iff.mp y2).1
            omega
          have z := (w.sl.rep j s q3).mono st fun a ha => keepF j a ha hn
          rw [show (σ ++ (ps ++ pv)).getD j none = (σ ++ ps).getD j none by rw [← List.append_assoc, getD_left (by rw [List.length_append]; omega)]]
          rcases Gold e q3 (.inr q1) q2 with y | y
          · rw [y]; exact z
          · rw [y.1]; rw [y.2] at z; exact z
      · -- nodup
        show (match (backL as Em 0 E ++ (Ep ++ pe))[j]? with | none => [] | some .un => [] | some (.fr _) => [] | some _ => if j < (E ++ Ep).length then (if j < E.length then (match whoAt as j with | none => F j | some k => F' k) else F j) else F' (vs.length + (j - (E ++ Ep).length))).Nodup
        split
        · exact List.nodup_nil
        · exact List.nodup_nil
        · exact List.nodup_nil
        · split
          · split
            · split
              · exact w.sl.nd _
              · exact f.sl.nd _
            · exact w.sl.nd _
          · exact f.sl.nd _
      · -- disjoint
        have cross : ∀ {j l : Nat}, a ∈ F j → ((∀ k : Nat, as[k]? ≠ some (AM.m j)) ∨ E.length ≤ j) → ((∃ (k : Nat) (t : T), as[k]? = some (AM.m l) ∧ Em[k]? = some (S.mu t) ∧ a ∈ F' k) ∨ (∃ (m : Nat) (t : T), l = (E ++ Ep).length + m ∧ pe[m]? = some (S.ow t) ∧ a ∈ F' (vs.length + m))) → False := fun {j l} h1 hn h2 => by
          have hn : ∀ k : Nat, as[k]? ≠ some (AM.m j) := by
            rcases hn with hn | hn
            · exact hn
            · intro k ek
              obtain ⟨v', _, y2⟩ := ok.atM ek
              have := (List.getElem?_eq_some_iff.mp y2).1
              omega
          rcases h2 with ⟨k, t, e1, e2, h2⟩ | ⟨m, t, e1, e2, h2⟩
          · rcases lent_mu e1 e2 a h2 with ⟨s, u, _, _, z⟩ | z
            · have := w.sl.dj _ _ a h1 z
              subst this
              exact hn k e1
            · exact old j a h1 z
          · exact old j a h1 (f.own _ t a (pend e2) h2)
        rcases src j a h1 with ⟨m1, n1⟩ | r1
        · rcases src l a h2 with ⟨m2, n2⟩ | r2
          · exact w.sl.dj j l a m1 m2
          · exact (cross m1 n1 r2).elim
        · rcases src l a h2 with ⟨m2, n2⟩ | r2
          · exact (cross m2 n2 r1).elim
          · rcases r1 with ⟨k, t, e1, e2, m1⟩ | ⟨m, t, e1, e2, m1⟩
            · rcases r2 with ⟨k', t', e1', e2', m1'⟩ | ⟨m', t', e1', e2', m1'⟩
              · have := f.sl.dj _ _ a m1 m1'
                subst this
                rw [e1] at e1'
                cases e1'
                rfl
              · have := f.sl.dj _ _ a m1 m1'
                have hk := (List.getElem?_eq_some_iff.mp e2).1
                omega
            · rcases r2 with ⟨k', t', e1', e2', m1'⟩ | ⟨m', t', e1', e2', m1'⟩
              · have := f.sl.dj _ _ a m1 m1'
                have hk := (List.getElem?_eq_some_iff.mp e2').1
                omega
              · have := f.sl.dj _ _ a m1 m1'
                omega
      · -- not frozen
        rcases src j a ha with ⟨m1, _⟩ | ⟨k, t, _, _, m1⟩ | ⟨l, t, _, _, m1⟩
        · exact nz1 j a m1
        · exact f.nz _ a m1
        · exact f.nz _ a m1
      · -- own
        have hw : H a = none → C.H0 a = none := fun z => Classical.byContradiction fun n => w.kt a n z
        rcases pos j _ e with q | ⟨q1, q2, q3⟩ | ⟨d, q1, q2⟩ | ⟨k, s0, t', u, q1, q2, q3, q4, q5⟩ | ⟨l, t', q1, q2, q3⟩ | ⟨q1, q2, q3⟩
        · cases q
        · rcases Gold e q1 (.inl q2) q3 with z | z
          · rw [z] at ha; exact w.own j t a q1 ha
          · rw [z.1] at ha; cases ha
        · cases q2
        · rw [q5] at e
          rw [Glent e q1 q2 q3] at ha
          rcases lent_mu q1 q4 a ha with ⟨s, u', e4, e5, z⟩ | z
          · rw [q2] at e4
            cases e4
            cases s0 with
            | un => cases q3
            | fr d => cases q3
            | ow x => exact w.own j x a (up_get q2) z
            | mu x => cases q5
          · exact hw z
        · rw [Gnew e q1] at ha
          exact hw (f.own _ _ a (pend q2) ha)
        · rcases Gold e q3 (.inr q1) q2 with z | z
          · rw [z] at ha; exact w.own j t a q3 ha
          · rw [z.1] at ha; cases ha
      · -- mum
        have hw : H a = none → C.H0 a = none := fun z => Classical.byContradiction fun n => w.kt a n z
        rcases pos j _ e with q | ⟨q1, q2, q3⟩ | ⟨d, q1, q2⟩ | ⟨k, s0, t', u, q1, q2, q3, q4, q5⟩ | ⟨l, t', q1, q2, q3⟩ | ⟨q1, q2, q3⟩
        · cases q
        · rcases Gold e q1 (.inl q2) q3 with z | z
          · rw [z] at ha; exact w.mum j t a q1 ha
          · rw [z.1] at ha; cases ha
        · cases q2
        · rw [q5] at e
          rw [Glent e q1 q2 q3] at ha
          rcases lent_mu q1 q4 a ha with ⟨s, u', e4, e5, z⟩ | z
          · rw [q2] at e4
            cases e4
            cases s0 with
            | un => cases q3
            | fr d => cases q3
            | ow x => cases q5
            | mu x => exact w.mum j x a (up_get q2) z
          · exact .inr (hw z)
        · cases q3
        · rcases Gold e q3 (.inr q1) q2 with z | z
          · rw [z] at ha; exact w.mum j t a q3 ha
          · rw [z.1] at ha; cases ha
      · -- mus
        have up2 : ∀ {x : V}, j < (E ++ Ep).length → (σ ++ ps)[j]? = some (some x) → (σ ++ (ps ++ pv))[j]? = some (some x) := fun {x} hj e => by
          rw [← List.append_assoc, List.getElem?_append_left (by rw [List.length_append]; omega)]
          exact e
        rcases pos j _ e with q | ⟨q1, q2, q3⟩ | ⟨d, q1, q2⟩ | ⟨k, s0, t', u, q1, q2, q3, q4, q5⟩ | ⟨l, t', q1, q2, q3⟩ | ⟨q1, q2, q3⟩
        · cases q
        · obtain ⟨x, x1, x2⟩ := w.mus j t q1
          exact ⟨x, x1, up2 q3 x2⟩
        · cases q2
        · cases s0 with
          | un => cases q3
          | fr d => cases q3
          | ow x => cases q5
          | mu x =>
            obtain ⟨y, y1, y2⟩ := w.mus j x (up_get q2)
            exact ⟨y, y1, up2 (by have := (List.getElem?_eq_some_iff.mp q2).1; omega) y2⟩
        · cases q3
        · obtain ⟨x, x1, x2⟩ := w.mus j t q3
          exact ⟨x, x1, up2 q2 x2⟩
      · -- frame
        refine f.fr b o (w.fr b o e0 n) fun k hk => ?_
        obtain ⟨i, s, t, _, e4, e5, _, m⟩ := mem_lent hk
        cases s with
        | un => cases e5
        | fr d => cases e5
        | ow x =>
          have := w.own i x b (up_get e4) m
          rw [e0] at this; cases this
        | mu x =>
          rcases w.mum i x b (up_get e4) m with z | z
          · exact n i z
          · rw [e0] at z; cases z
      · -- zn
        rcases f.zn a h with z | z
        · exact w.zn a z
        · exact .inr (Classical.byContradiction fun n => w.kt a n z)
    have lb : σ.length = (backL as Em 0 E).length := by rw [backL_length]; exact hl
    cases r with
    | un => cases R
    | mu t => cases R
    | fr d =>
      obtain ⟨⟨wl, wd⟩, rv⟩ := R
      obtain ⟨st, q⟩ := main [] [] rfl (fun l s e => by simp at e) wd wl
      rw [List.append_nil, List.append_nil] at q
      exact ⟨st, ⟨lb, q⟩, rv⟩
    | ow t =>
      obtain ⟨wl, wd⟩ := R
      obtain ⟨st, q⟩ := main [some v] [.ow t] rfl (fun l s e => by
        cases l with
        | zero => cases e; exact ⟨t, rfl⟩
        | succ l => simp at e) wd wl
      exact ⟨st, lb, q⟩
end
end DL
set_option Elab.async false
set_option linter.all false
set_option maxRecDepth 100000
set_option maxHeartbeats 4000000
/-! DL, part g: arguments, calls of defs as rules, the rule for a def. -/
namespace DL
open PySem PySem.Spec PyProof.Rows L2

abbrev TAm := List S → (List AM → List S → Prop) → Prop
def tamOf (C : Ctx) (n : Nat) (t : TAm) : TA := fun σ H Q => ∃ ps Ep E Z Qd, At C ps Ep Z σ E H ∧ t E Qd ∧ ∀ as E' Z' H' vs, At C ps Ep Z' σ E' H' → Stp Z H Z' H' → ArgsOk C.K Z' σ H' vs as → as.length = n → Qd as E' → Q vs H'
abbrev DM (C : Ctx) (X : Cx) (es : List Expr) (t : TAm) : Prop := PA X es (tamOf C es.length t)
section
variable {C : Ctx} {X : Cx} {pos : Pos}
theorem ArgsOk.mono {K : Frg} {Z Z' : Addr → Prop} {σ : Sg} {H H' : Hp} (st : Stp Z H Z' H') : ∀ {vs : List V} {as : List AM}, ArgsOk K Z σ H vs as → ArgsOk K Z' σ H' vs as
  | _, _, .nil => .nil
  | _, _, .d r h => .d (r.mono st) (h.mono st)
  | _, _, .m e h => .m e (h.mono st)
def tmNil : TAm := fun E Q => Q [] E
def tmD (t : TD) (u : TAm) : TAm := fun E Q => t E fun d E1 => u E1 fun as E2 => Q (.d d :: as) E2
def tmM (i : Nat) (u : TAm) : TAm := fun E Q => (match E[i]? with | some s => s.knownB = true | none => False) ∧ u E fun as E1 => Q (.m i :: as) E1
theorem dm_nil : DM C X [] tmNil := pa_nil.imp fun σ H Q ⟨ps, Ep, E, Z, Qd, w, h, post⟩ => post [] E Z H [] w (Stp.refl _ _) .nil rfl h
theorem dm_d {e : Expr} {es : List Expr} {t : TD} {u : TAm} (ha : DE C X e t) (hr : DM C X es u) (hs : starEach (e :: es) X.env = (false, eval e X.env) :: starEach es X.env := by rfl) : DM C X (e :: es) (tmD t u) :=
  (pa_cons ha hr hs).imp fun σ H Q ⟨ps, Ep, E, Z, Qd, w, h, post⟩ => ⟨ps, Ep, E, Z, _, w, h, fun d E1 Z1 H1 v w1 st1 r1 h1 => ⟨ps, Ep, E1, Z1, _, w1, h1, fun as E2 Z2 H2 vs w2 st2 r2 n h2 =>
    post _ E2 Z2 H2 _ w2 (st1.trans st2) (.d (r1.mono st2) r2) (by rw [List.length_cons, List.length_cons, n]) h2⟩⟩
theorem dm_m (i : Nat) {x : Str} {es : List Expr} {u : TAm} {pos' : Pos} (hr : DM C X es u) (hN : X.N[i]? = some x := by rfl) (hv : Vis X.env.scope x := by first | exact Or.inl rfl | exact Or.inr (Or.inl rfl) | exact Or.inr (Or.inr rfl)) (hd : (x == ("__debug__" : Str)) = false := by decide)
    (hcd : (x == ("__classdict__" : Str)) = false := by decide) (hs : starEach (.Name x pos' :: es) X.env = (false, eval (.Name x pos') X.env) :: starEach es X.env := by rfl) : DM C X (.Name x pos' :: es) (tmM i u) :=
  (pa_cons (pe_var hN hv hd hcd) hr hs).imp fun σ H Q ⟨ps, Ep, E, Z, Qd, w, ⟨hk, h⟩, post⟩ => by
    split at hk
    · rename_i s e
      obtain ⟨v, e1⟩ := w.known e hk
      exact ⟨v, e1, ps, Ep, E, Z, _, w, h, fun as E2 Z2 H2 vs w2 st2 r2 n h2 => post _ E2 Z2 H2 _ w2 st2 (.m e1 r2) (by rw [List.length_cons, List.length_cons, n]) h2⟩
    · cases hk

/-- a call whose result is data; what it makes of the lent trees -/
def tCallD (sd : SpD) (ta : TAm) : TD := fun E Q => ta E fun as E1 => apart (msOf as) = true ∧ sd (as.map (argS E1)) fun r Em => match r with
  | .fr d => Q d (backL as Em 0 E1)
  | _ => False
def tCallN (sd : SpD) (ta : TAm) : TN := fun E Q => ta E fun as E1 => apart (msOf as) = true ∧ sd (as.map (argS E1)) fun r Em => match r with
  | .ow t => Q t (backL as Em 0 E1)
  | _ => False
theorem argS_no {E : List S} {as : List AM} : ∀ (i : Nat) t, (as.map (argS E))[i]? ≠ some (.ow t) := fun i t e => by
  rw [List.getElem?_map] at e
  cases q : as[i]? with
  | none => rw [q] at e; cases e
  | some a =>
    rw [q] at e
    have e : argS E a = .ow t := Option.some.inj e
    cases a with
    | d d => cases e
    | m j =>
      unfold argS at e
      dsimp only at e
      split at e <;> cases e
theorem call_imp {n : Nat} {sd : SpD} {ta : TAm} {Ex : XK} {σ : Sg} {H : Hp} {Q : VK} {ps : Sg} {Ep : List S} {E : List S} {Z : Addr → Prop} {Qr : S → List S → Prop} (w : At C ps Ep Z σ E H)
    (h : ta E fun as E1 => apart (msOf as) = true ∧ sd (as.map (argS E1)) fun r Em => Qr r (backL as Em 0 E1))
    (post : ∀ r E' Z' H' v, ResAt C ps Ep Z' σ E' H' v r → Stp Z H Z' H' → Qr r E' → Q v H') : tCall (spD C.K n sd) [] Ex (tamOf C n ta) σ H Q :=
  ⟨ps, Ep, E, Z, _, w, h, fun as E1 Z1 H1 vs w1 st1 ok hn ⟨ap, h1⟩ => by
    obtain ⟨F, f⟩ := w1.2
    obtain ⟨g1, g2, g3⟩ := call_go f w1.1 ok ap
    rw [List.append_nil]
    refine ⟨Z1, _, _, _, by rw [ok.length]; exact hn, g1, g2, f.zt, argS_no, h1, fun r Em Z' H' v R q => ?_⟩
    obtain ⟨st2, R2⟩ := g3 r Em Z' H' v R
    exact post r _ Z' H' v R2 (st1.trans st2) q⟩
variable {CX : CXT} {k n : Nat} {f : Addr} {fd : FuncData} {prs : List Str} {sd : SpD} {Ex : XK} {x : Str} {p : Pos} {e : Expr} {es : List Expr} {ta : TAm}
theorem de_call (G : FnOk X.prog X.w X.K X.mg X.base CX k f fd prs (spD X.K n sd)) (hr : Room k X.A) (hm : X.mg x = some (.ref f)) (hk : PySem.W.keepIn X.K (.ref f) = true) (hb : Binds X.K fd prs []) (ha : DM C X (e :: es) ta) (hx : Passes CX X Ex := by exact pass0) (hg : Gl X x := by rfl) (hn : n = (e :: es).length := by rfl) (hK : X.K = C.K := by rfl)
    (hdb : (x == ("__debug__" : Str)) = false := by decide) (he : starEach (e :: es) X.env = (false, eval e X.env) :: starEach es X.env := by rfl) (hpl : (backTo pos (starEach es X.env)).any (·.1) = false := by rfl) :
    DE C X (.Call (.Name x p) (e :: es) [] pos) (tCallD sd ta) := (pe_call G hr hg hm hk hb .nil hx ha hdb he hpl).imp fun σ H Q ⟨ps, Ep, E, Z, Qd, w, h, post⟩ => by
  subst hn
  rw [hK]
  refine call_imp (Qr := fun r E' => match r with | .fr d => Qd d E' | _ => False) w h fun r E' Z' H' v R st q => ?_
  cases r with
  | fr d => exact post d E' Z' H' v R.1 st R.2 q
  | un => cases q
  | ow t => cases q
  | mu t => cases q
theorem dn_call (G : FnOk X.prog X.w X.K X.mg X.base CX k f fd prs (spD X.K n sd)) (hr : Room k X.A) (hm : X.mg x = some (.ref f)) (hk : PySem.W.keepIn X.K (.ref f) = true) (hb : Binds X.K fd prs []) (ha : DM C X (e :: es) ta) (hx : Passes CX X Ex := by exact pass0) (hg : Gl X x := by rfl) (hn : n = (e :: es).length := by rfl) (hK : X.K = C.K := by rfl)
    (hdb : (x == ("__debug__" : Str)) = false := by decide) (he : starEach (e :: es) X.env = (false, eval e X.env) :: starEach es X.env := by rfl) (hpl : (backTo pos (starEach es X.env)).any (·.1) = false := by rfl) :
    DN C X (.Call (.Name x p) (e :: es) [] pos) (tCallN sd ta) := (pe_call G hr hg hm hk hb .nil hx ha hdb he hpl).imp fun σ H Q ⟨ps, Ep, E, Z, Qd, w, h, post⟩ => by
  subst hn
  rw [hK]
  refine call_imp (Qr := fun r E' => match r with | .ow t => Qd t E' | _ => False) w h fun r E' Z' H' v R st q => ?_
  cases r with
  | ow t => exact post t E' Z' H' v R st q
  | un => cases q
  | fr d => cases q
  | mu t => cases q
end

/-! ### the rule for a def -/
def muO : S → S
  | .mu t => .mu t
  | _ => .un
theorem getElem?_takeMap {E : List S} {n j : Nat} {s : S} (h : ((E.take n).map muO)[j]? = some s) : j < n ∧ ∃ u, E[j]? = some u ∧ s = muO u := by
  rw [List.getElem?_map] at h
  cases q : (E.take n)[j]? with
  | none => rw [q] at h; cases h
  | some u =>
    rw [q] at h
    have hj : j < n := by
      have := (List.getElem?_eq_some_iff.mp q).1
      rw [List.length_take] at this
      omega
    rw [List.getElem?_take_of_lt hj] at q
    exact ⟨hj, u, q, (Option.some.inj h).symm⟩
section
variable {P : Program} {w : World} {K : Frg} {mg : Str → Option Value} {base : Heap} {C : Ctx}
/-- at a def's end: what became of the arguments' trees -/
theorem ResAt.ends {n : Nat} {Z : Addr → Prop} {σ : Sg} {E : List S} {H : Hp} {v : V} {r : S} (hn : C.vs.length = n) (hE : n ≤ E.length) (R : ResAt C [] [] Z σ E H v r) : ResAt C [] [] Z (C.vs.map some) ((E.take n).map muO) H v r := by
  have main : ∀ (pv : Sg) (pe : List S), pv.length = pe.length → (∀ (l : Nat) t, pe[l]? ≠ some (.mu t)) → σ.length = E.length → Wd C Z (σ ++ pv) (E ++ pe) H → Wd C Z (C.vs.map some ++ pv) ((E.take n).map muO ++ pe) H := by
    intro pv pe hp hm hl ⟨F, f⟩
    have l1 : ((E.take n).map muO).length = n := by rw [List.length_map, List.length_take]; omega
    have l2 : (C.vs.map some).length = n := by rw [List.length_map]; exact hn
    refine f.re (fun j => if j < n then j else E.length + (j - n)) (by rw [List.length_append, List.length_append, l1, l2, hp]) (fun j s e => ?_) (fun j l s u e1 e2 n1 n2 e => ?_)
    · by_cases hj : j < n
      · rw [List.getElem?_append_left (by omega)] at e
        obtain ⟨_, u, e1, e2⟩ := getElem?_takeMap e
        cases u with
        | mu t =>
          subst e2
          refine .inr ⟨by rw [if_pos hj]; exact up_get e1, ?_, fun _ => if_pos hj⟩
          obtain ⟨x, x1, x2⟩ := f.mus j t (up_get e1)
          rw [if_pos hj, of_getD x2, getD_left (by omega), List.getD_eq_getElem?_getD, List.getElem?_map, x1]
          rfl
        | un => exact .inl e2
        | fr d => exact .inl e2
        | ow t => exact .inl e2
      · rw [List.getElem?_append_right (by omega), l1] at e
        refine .inr ⟨?_, ?_, fun h => ?_⟩
        · rw [if_neg hj, List.getElem?_append_right (by omega), Nat.add_sub_cancel_left]
          exact e
        · rw [if_neg hj, getD_right (by omega), getD_right (by omega), l2, hl, Nat.add_sub_cancel_left]
        · cases s with
          | mu t => exact absurd e (hm _ t)
          | _ => cases h
    · by_cases h1 : j < n
      · by_cases h2 : l < n
        · rw [if_pos h1, if_pos h2] at e; exact e
        · rw [if_pos h1, if_neg h2] at e
          omega
      · by_cases h2 : l < n
        · rw [if_neg h1, if_pos h2] at e
          omega
        · rw [if_neg h1, if_neg h2] at e
          omega
  have l0 : (C.vs.map some).length = ((E.take n).map muO).length := by rw [List.length_map, List.length_map, List.length_take, hn]; omega
  cases r with
  | un => cases R
  | mu t => cases R
  | fr d =>
    obtain ⟨⟨a, b⟩, rv⟩ := R
    exact ⟨⟨l0, main [] [] rfl (fun l t e => by simp at e) a b⟩, rv⟩
  | ow t =>
    obtain ⟨a, b⟩ := R
    refine ⟨l0, main [some v] [.ow t] rfl (fun l t e => ?_) a b⟩
    cases l with
    | zero => cases e
    | succ l => simp at e
/-- what is wanted at a def's end -/
def dEnd (n : Nat) (Qd : S → List S → Prop) : DEnd := { nx := fun E => n ≤ E.length ∧ Qd (.fr .non) ((E.take n).map muO), rt := fun r E => n ≤ E.length ∧ Qd r ((E.take n).map muO) }
/-- THE RULE for a def, over data -/
theorem fn_D {x qual : Str} {st : Stmt} {f : Addr} {fd : FuncData} {N prs : List Str} {k : Nat} {sd : SpD} (F : Fun K x qual st f fd) (S' : FnScope N prs (defScope st)) {t : TSD}
    (hb : ∀ (H0 : Hp) (Fm : Foot) (Z0 : Addr → Prop) (vs : List V) (cdv : Value) (A : Around) (outer : List Env) (s : Shared) (H : Hp) (Ex : XK), Room k (A.deeper (envOfC qual (defScope st) s.heap.objs.size f cdv)) →
      DSs ⟨K, H0, Fm, Z0, vs⟩ (cxOf CX0 P w K mg base N qual (defScope st) f cdv A outer s H Ex).nox (defBody st) t)
    (ht : ∀ args Qd, args.length = prs.length → sd args Qd → t (dEnd prs.length Qd) (args ++ List.replicate (N.length - prs.length) .un)) :
    FnOk P w K mg base CX0 (k + 1) f fd prs (spD K prs.length sd) := by
  refine F.ok S' (fun vs H Q E h => ?_) (fun cdv A outer s H vs Q E hr h => ?_)
  · obtain ⟨_, _, _, _, h, _⟩ := h
    exact h
  · obtain ⟨Z, args, F', Qd, hv, sl, nz, zt, no, h, post⟩ := h
    have la : args.length = prs.length := by
      have := sl.len
      rw [List.length_map] at this
      omega
    have w0 : At ⟨K, H, F', Z, vs⟩ [] [] Z (L2.start N vs) (args ++ List.replicate (N.length - prs.length) .un) H := by
      have e1 : L2.start N vs = vs.map some ++ List.replicate (N.length - prs.length) none := by unfold L2.start; rw [hv]
      have ll : (L2.start N vs).length = (args ++ List.replicate (N.length - prs.length) S.un).length := by
        rw [e1, List.length_append, List.length_append, List.length_map, List.length_replicate, List.length_replicate]; omega
      have low : ∀ (j : Nat) u, (args ++ List.replicate (N.length - prs.length) S.un)[j]? = some u → u = .un ∨ args[j]? = some u := fun j u e => by
        by_cases hj : j < args.length
        · rw [List.getElem?_append_left hj] at e; exact .inr e
        · rw [List.getElem?_append_right (by omega), List.getElem?_replicate] at e
          split at e
          · exact .inl (Option.some.inj e).symm
          · cases e
      refine ⟨ll, F', ?_⟩
      rw [List.append_nil, List.append_nil]
      refine ⟨⟨ll, fun j u e => ?_, fun j hj => sl.out j (by rw [List.length_append] at hj; omega), sl.nd, sl.dj⟩, nz, fun j t a e ha => ?_, fun j t a e ha => .inl ha, fun j t e => ?_, fun b o e _ => e, fun a h => h, fun a h => .inl h, zt, fun b h => h⟩
      · by_cases hj : j < args.length
        · rw [List.getElem?_append_left hj] at e
          rw [e1, getD_left (by rw [List.length_map]; omega)]
          exact sl.rep j u e
        · rcases low j u e with q | q
          · subst q; exact sl.out j (by omega)
          · rw [List.getElem?_eq_none (by omega)] at q; cases q
      · rcases low j _ e with q | q
        · cases q
        · exact absurd q (no j t)
      · rcases low j _ e with q | q
        · cases q
        · have hj := (List.getElem?_eq_some_iff.mp q).1
          obtain ⟨x, x1, x2⟩ := sl.rep j _ q
          have x1 := getD_some x1
          rw [List.getElem?_map] at x1
          cases q2 : vs[j]? with
          | none => rw [q2] at x1; cases x1
          | some y =>
            rw [q2] at x1
            cases x1
            refine ⟨x, by first | exact q2 | rfl, ?_⟩
            rw [e1, List.getElem?_append_left (by rw [List.length_map]; omega), List.getElem?_map, q2]
            rfl
    refine ⟨_, hb H F' Z vs cdv A outer s H E hr, ?_⟩
    refine ⟨[], [], _, Z, _, w0, ht args Qd la h, ⟨fun σ' E' Z' H' w' st' ⟨le, q⟩ => ?_, fun _ _ _ _ _ _ q => q, fun _ _ _ _ _ _ q => q, fun r σ' E' Z' H' v w' st' ⟨le, q⟩ => ?_⟩⟩
    · exact post (.fr .non) _ Z' H' .non (ResAt.ends (C := ⟨K, H, F', Z, vs⟩) (r := .fr .non) hv le ⟨w', .non⟩) q
    · exact post r _ Z' H' v (ResAt.ends (C := ⟨K, H, F', Z, vs⟩) hv le w') q
end
end DL
set_option Elab.async false
set_option linter.all false
set_option maxRecDepth 100000
set_option maxHeartbeats 4000000
/-! DL, part h: list operations, built-ins. -/
namespace DL
open PySem PySem.Spec PyProof.Rows L2

section
variable {C : Ctx} {X : Cx} {pos : Pos}
/-! ### an owned list's methods -/
/-- the list at a name, owned -/
def lstAt (E : List S) (i : Nat) (k : List D → (List D → List S) → Prop) : Prop := match E[i]? with
  | some (.ow (.lst ds)) => k ds fun ds' => E.set i (.ow (.lst ds'))
  | some (.mu (.lst ds)) => k ds fun ds' => E.set i (.mu (.lst ds'))
  | _ => False
theorem lstAt_of {E : List S} {i : Nat} {k : List D → (List D → List S) → Prop} (h : lstAt E i k) : ∃ s ds, E[i]? = some s ∧ s.tree? = some (.lst ds) ∧ k ds fun ds' => E.set i (s.put (.lst ds')) := by
  unfold lstAt at h
  split at h
  · rename_i ds e; exact ⟨_, ds, e, rfl, h⟩
  · rename_i ds e; exact ⟨_, ds, e, rfl, h⟩
  · cases h
def tAppend (i : Nat) (t : TD) : TD := fun E Q => lstAt E i fun _ _ => t E fun d E1 => lstAt E1 i fun ds put => ds.length < sizeLine ∧ Q .non (put (ds ++ [d]))
theorem de_append (i : Nat) {x : Str} {e : Expr} {t : TD} {pos' apos cpos : Pos} (he : DE C X e t) (hN : X.N[i]? = some x := by rfl) (hv : Vis X.env.scope x := by first | exact Or.inl rfl | exact Or.inr (Or.inl rfl) | exact Or.inr (Or.inr rfl))
    (hbase : attributeBase (.Name x pos') "append" X.env (eval (.Name x pos') X.env) = eval (.Name x pos') X.env := by rfl)
    (hfew : ((backTo cpos (starEach [e] X.env)).all (fun x => !x.1) && (backToKw cpos (keywordEach [] X.env)).all (fun x => x.1.isSome) && decide ([e].length + ([] : List Keyword).length + (if ([] : List Keyword).isEmpty then 0 else 1) < 30)) = true := by rfl)
    (hline : (apos.endLine == cpos.line) = true := by rfl) (hs : starEach [e] X.env = (false, eval e X.env) :: starEach [] X.env := by rfl) (hd : (x == ("__debug__" : Str)) = false := by decide) (hcd : (x == ("__classdict__" : Str)) = false := by decide) :
    DE C X (.Call (.Attribute (.Name x pos') "append" apos) [e] [] cpos) (tAppend i t) :=
  (pe_bm PySem.F.plainAttrs_list PySem.F.slot_list_append PySem.F.type_list_append mt_append (pe_var hN hv hd hcd) (pa_cons he pa_nil hs) hbase hfew hline hs rfl).imp fun σ H Q ⟨ps, Ep, E, Z, Qd, w, h, post⟩ => by
    obtain ⟨s, ds, e1, e2, h⟩ := lstAt_of h
    obtain ⟨a, vs, e3, ha, _, _⟩ := w.list e1 e2
    refine ⟨_, e3, .inl ⟨rfl, vs, .of ha⟩, ps, Ep, E, Z, _, w, h, fun d E1 Z1 H1 v w1 st1 r1 h1 => ?_⟩
    obtain ⟨s', ds', e4, e5, hz, h1⟩ := lstAt_of h1
    obtain ⟨a', vs', e6, ha', rs', k⟩ := w1.list e4 e5
    rw [e3] at e6; cases e6
    obtain ⟨st2, w2⟩ := k (vs' ++ [v]) (ds' ++ [d]) (rs'.append (.one r1))
    exact ⟨_, _, _, rfl, rfl, ha', by rw [rs'.length]; exact hz, post .non _ Z1 _ _ w2 (st1.trans st2) .non h1⟩
@[irreducible] def tPopL (i : Nat) : TD := fun E Q => lstAt E i fun ds put => match ds.getLast? with
  | some d => Q d (put ds.dropLast)
  | none => False
theorem de_pop (i : Nat) {x : Str} {pos' apos cpos : Pos} (hN : X.N[i]? = some x := by rfl) (hv : Vis X.env.scope x := by first | exact Or.inl rfl | exact Or.inr (Or.inl rfl) | exact Or.inr (Or.inr rfl))
    (hbase : attributeBase (.Name x pos') "pop" X.env (eval (.Name x pos') X.env) = eval (.Name x pos') X.env := by rfl)
    (hline : (apos.endLine == cpos.line) = true := by rfl) (hd : (x == ("__debug__" : Str)) = false := by decide) (hcd : (x == ("__classdict__" : Str)) = false := by decide) :
    DE C X (.Call (.Attribute (.Name x pos') "pop" apos) [] [] cpos) (tPopL i) :=
  (pe_bm0 PySem.F.plainAttrs_list PySem.F.slot_list_pop PySem.F.type_list_pop mt_pop (pe_var hN hv hd hcd) hbase hline).imp fun σ H Q ⟨ps, Ep, E, Z, Qd, w, h, post⟩ => by
    unfold tPopL at h
    obtain ⟨s, ds, e1, e2, h⟩ := lstAt_of h
    obtain ⟨a, vs, e3, ha, rs, k⟩ := w.list e1 e2
    split at h
    · rename_i d ed
      rw [List.getLast?_eq_getElem?] at ed
      obtain ⟨y, ey, ry⟩ := rs.get ed
      obtain ⟨st2, w2⟩ := k vs.dropLast ds.dropLast rs.dropLast
      refine ⟨_, e3, .inl ⟨rfl, vs, .of ha⟩, _, _, y, rfl, rfl, ha, by rw [rs.length]; exact ey, post d _ Z _ _ w2 st2 (ry.mono st2) h⟩
    · cases h
def tRevL (i : Nat) : TD := fun E Q => lstAt E i fun ds put => Q .non (put ds.reverse)
theorem de_reverse (i : Nat) {x : Str} {pos' apos cpos : Pos} (hN : X.N[i]? = some x := by rfl) (hv : Vis X.env.scope x := by first | exact Or.inl rfl | exact Or.inr (Or.inl rfl) | exact Or.inr (Or.inr rfl))
    (hbase : attributeBase (.Name x pos') "reverse" X.env (eval (.Name x pos') X.env) = eval (.Name x pos') X.env := by rfl)
    (hline : (apos.endLine == cpos.line) = true := by rfl) (hd : (x == ("__debug__" : Str)) = false := by decide) (hcd : (x == ("__classdict__" : Str)) = false := by decide) :
    DE C X (.Call (.Attribute (.Name x pos') "reverse" apos) [] [] cpos) (tRevL i) :=
  (pe_bm0 PySem.F.plainAttrs_list PySem.F.slot_list_reverse PySem.F.type_list_reverse mt_reverse (pe_var hN hv hd hcd) hbase hline).imp fun σ H Q ⟨ps, Ep, E, Z, Qd, w, h, post⟩ => by
    obtain ⟨s, ds, e1, e2, h⟩ := lstAt_of h
    obtain ⟨a, vs, e3, ha, rs, k⟩ := w.list e1 e2
    obtain ⟨st2, w2⟩ := k vs.reverse ds.reverse rs.reverse
    exact ⟨_, e3, .inl ⟨rfl, vs, .of ha⟩, _, _, rfl, rfl, ha, post .non _ Z _ _ w2 st2 .non h⟩
/-- xs.insert(k, y), k not below 0 -/
def tInsert (i : Nat) (tk ty : TD) : TD := fun E Q => lstAt E i fun _ _ => tk E fun k E1 => ty E1 fun y E2 => lstAt E2 i fun ds put => match k with
  | .int n => (ds.length < sizeLine ∧ 0 ≤ n ∧ n < 2 ^ 63) ∧ Q .non (put (ds.take n.toNat ++ y :: ds.drop n.toNat))
  | _ => False
theorem de_insert (i : Nat) {x : Str} {e1 e2 : Expr} {tk ty : TD} {pos' apos cpos : Pos} (hk : DE C X e1 tk) (he : DE C X e2 ty) (hN : X.N[i]? = some x := by rfl) (hv : Vis X.env.scope x := by first | exact Or.inl rfl | exact Or.inr (Or.inl rfl) | exact Or.inr (Or.inr rfl))
    (hbase : attributeBase (.Name x pos') "insert" X.env (eval (.Name x pos') X.env) = eval (.Name x pos') X.env := by rfl)
    (hfew : ((backTo cpos (starEach [e1, e2] X.env)).all (fun x => !x.1) && (backToKw cpos (keywordEach [] X.env)).all (fun x => x.1.isSome) && decide ([e1, e2].length + ([] : List Keyword).length + (if ([] : List Keyword).isEmpty then 0 else 1) < 30)) = true := by rfl)
    (hline : (apos.endLine == cpos.line) = true := by rfl) (hs : starEach [e1, e2] X.env = (false, eval e1 X.env) :: starEach [e2] X.env := by rfl) (hs2 : starEach [e2] X.env = (false, eval e2 X.env) :: starEach [] X.env := by rfl) (hpl : (backTo cpos (starEach [e2] X.env)).any (·.1) = false := by rfl)
    (hd : (x == ("__debug__" : Str)) = false := by decide) (hcd : (x == ("__classdict__" : Str)) = false := by decide) :
    DE C X (.Call (.Attribute (.Name x pos') "insert" apos) [e1, e2] [] cpos) (tInsert i tk ty) :=
  (pe_bm PySem.F.plainAttrs_list PySem.F.slot_list_insert PySem.F.type_list_insert mt_insert (pe_var hN hv hd hcd) (pa_cons hk (pa_cons he pa_nil hs2) hs) hbase hfew hline hs hpl).imp fun σ H Q ⟨ps, Ep, E, Z, Qd, w, h, post⟩ => by
    obtain ⟨s, ds, e1, e2, h⟩ := lstAt_of h
    obtain ⟨a, vs, e3, ha, _, _⟩ := w.list e1 e2
    refine ⟨_, e3, .inl ⟨rfl, vs, .of ha⟩, ps, Ep, E, Z, _, w, h, fun k E1 Z1 H1 u w1 st1 r1 h1 => ⟨ps, Ep, E1, Z1, _, w1, h1, fun d E2 Z2 H2 v w2 st2 r2 h2 => ?_⟩⟩
    obtain ⟨s', ds', e4, e5, h2⟩ := lstAt_of h2
    obtain ⟨a', vs', e6, ha', rs', kk⟩ := w2.list e4 e5
    rw [e3] at e6; cases e6
    cases k with
    | int n =>
      obtain ⟨⟨hz, h0, h1'⟩, h2⟩ := h2
      cases r1
      obtain ⟨st3, w3⟩ := kk (vs'.take n.toNat ++ v :: vs'.drop n.toNat) (ds'.take n.toNat ++ d :: ds'.drop n.toNat) (rs'.insertIdx _ r2)
      refine ⟨_, _, n, v, rfl, rfl, ha', by rw [rs'.length]; exact hz, h0, h1', ?_⟩
      rw [List.append_assoc]
      exact post .non _ Z2 _ _ w3 (st1.trans (st2.trans st3)) .non h2
    | _ => cases h2
/-- xs[k] = e -/
def dSetIx (i : Nat) (tk te : TD) : TSD := fun D E => te E fun d E1 => lstAt E1 i fun _ _ => tk E1 fun k E2 => lstAt E2 i fun ds put => match k with
  | .int n => (match ixN ds.length n with | some j => D.nx (put (ds.set j d)) | none => False)
  | _ => False
theorem ds_setix (i : Nat) {x : Str} {e1 e2 : Expr} {tk te : TD} {pos' apos : Pos} (hk : DE C X e1 tk) (he : DE C X e2 te) (hN : X.N[i]? = some x := by rfl) (hv : Vis X.env.scope x := by first | exact Or.inl rfl | exact Or.inr (Or.inl rfl) | exact Or.inr (Or.inr rfl))
    (ha : ∀ v, assign (.Subscript (.Name x pos') e1 apos) X.env v = (do
      let ov ← holding [v] (eval (.Name x pos') X.env)
      let iv ← holding [v, ov] (eval e1 X.env)
      standAt apos
      holding [v, ov, iv] (setItem ov iv v)
      release [v, ov, iv] []) := by intro _; rfl)
    (hs : swapsWithSole [(.Subscript (.Name x pos') e1 apos)] e2 pos.line X.env = pure false := by rfl) (hw : swappedStores [(.Subscript (.Name x pos') e1 apos)] e2 X.env = pure none := by rfl)
    (h1 : (assignEach [(.Subscript (.Name x pos') e1 apos)] X.env).map (·.2) = [assign (.Subscript (.Name x pos') e1 apos) X.env] := by rfl) (hd : (x == ("__debug__" : Str)) = false := by decide) (hcd : (x == ("__classdict__" : Str)) = false := by decide) :
    DS C X (.Assign [.Subscript (.Name x pos') e1 apos] e2 pos) (dSetIx i tk te) :=
  (ps_asg he (pg_sub (pe_var hN hv hd hcd) hk set_list ha) hs hw h1).imp fun Dn σ H ⟨ps, Ep, E, Z, Dd, w, h, f⟩ => ⟨ps, Ep, E, Z, _, w, h, fun d E1 Z1 H1 v w1 st1 r1 h1 => by
    obtain ⟨s, ds, e1, e2, h1⟩ := lstAt_of h1
    obtain ⟨a, vs, e3, ha, _, _⟩ := w1.list e1 e2
    refine ⟨_, e3, ps, Ep, E1, Z1, _, w1, h1, fun k E2 Z2 H2 u w2 st2 r2 h2 => ?_⟩
    obtain ⟨s', ds', e4, e5, h2⟩ := lstAt_of h2
    obtain ⟨a', vs', e6, ha', rs', kk⟩ := w2.list e4 e5
    rw [e3] at e6; cases e6
    cases k with
    | int n =>
      dsimp only at h2
      split at h2
      · rename_i j ej
        cases r2
        obtain ⟨st3, w3⟩ := kk (vs'.set j v) (ds'.set j d) (rs'.set j (r1.mono st2))
        exact ⟨_, _, n, j, rfl, rfl, ha', by rw [rs'.length]; exact ej, f.nx _ _ Z2 _ w3 (st1.trans (st2.trans st3)) h2⟩
      · cases h2
    | _ => cases h2⟩

/-! ### slices -/
abbrev TOD := List S → (Option Int → List S → Prop) → Prop
def toOf (C : Ctx) (t : TOD) : TO := fun σ H Q => ∃ ps Ep E Z Qd, At C ps Ep Z σ E H ∧ t E Qd ∧ ∀ o E' Z' H', At C ps Ep Z' σ E' H' → Stp Z H Z' H' → Qd o E' → Q o H'
def toN : TOD := fun E Q => Q none E
def toS (t : TD) : TOD := fun E Q => t E fun d E1 => match d with
  | .int i => Q (some i) E1
  | _ => False
theorem _root_.L2.PO.imp {X : Cx} {e : Option Expr} {t t' : TO} (h : PO X e t) (k : ∀ σ H Q, t' σ H Q → t σ H Q) : PO X e t' := ⟨fun pins s σ H Q I q => h.run pins s σ H Q I (k σ H Q q)⟩
theorem do_n : PO X none (toOf C toN) := po_none.imp fun σ H Q ⟨ps, Ep, E, Z, Qd, w, h, post⟩ => post none E Z H w (Stp.refl _ _) h
theorem do_s {e : Expr} {t : TD} (h : DE C X e t) : PO X (some e) (toOf C (toS t)) := (po_some h).imp fun σ H Q ⟨ps, Ep, E, Z, Qd, w, h, post⟩ => ⟨ps, Ep, E, Z, _, w, h, fun d E1 Z1 H1 v w1 st1 r1 h1 => by
  cases r1 with
  | int i => exact ⟨i, rfl, post _ E1 Z1 H1 w1 st1 h1⟩
  | _ => cases h1⟩
def cutD (xs : List D) (lo hi : Option Int) : List D := (xs.drop (HT.sIx xs.length 0 lo)).take (HT.sIx xs.length xs.length hi - HT.sIx xs.length 0 lo)
theorem Reps.cut {K : Frg} {Z : Addr → Prop} {H : Hp} {vs : List V} {ds : List D} (r : Reps K Z H vs ds) (lo hi : Option Int) : Reps K Z H (cutV vs lo hi) (cutD ds lo hi) := by
  unfold cutV cutD
  rw [r.length]
  exact (r.drop _).take _
/-- a slice of a list: a new list -/
def tSlL (t : TD) (lo hi : TOD) : TN := fun E Q => t E fun d E1 => lo E1 fun l E2 => hi E2 fun u E3 => match d with
  | .lst ds => Q (.lst (cutD ds l u)) E3
  | .scr ds => Q (.lst (cutD ds l u)) E3
  | _ => False
theorem dn_sl {e : Expr} {lo hi : Option Expr} {t : TD} {tl th : TOD} {p2 pos : Pos} (he : DE C X e t) (hl : PO X lo (toOf C tl)) (hh : PO X hi (toOf C th)) (hK : X.K = C.K := by rfl) : DN C X (.Subscript e (.Slice lo hi none p2) pos) (tSlL t tl th) :=
  (pe_slice sl_list he hl hh).imp fun σ H Q ⟨ps, Ep, E, Z, Qd, w, h, post⟩ => ⟨ps, Ep, E, Z, _, w, h, fun d E1 Z1 H1 v w1 st1 r1 h1 => ⟨ps, Ep, E1, Z1, _, w1, h1, fun l E2 Z2 H2 w2 st2 h2 => ⟨ps, Ep, E2, Z2, _, w2, h2, fun u E3 Z3 H3 w3 st3 h3 => by
    rw [hK]
    split at h3
    · cases r1 with
      | lst hs rs =>
        have st23 := st2.trans st3
        refine ⟨_, _, rfl, (hs.mono st23).sq, fun p hp => ?_⟩
        obtain ⟨st4, w4⟩ := w3.push hp ((rs.mono st23).cut l u)
        exact post _ E3 Z3 _ _ w4 (st1.trans (st23.trans st4)) h3
    · cases r1 with
      | scr hs rs =>
        have st23 := st2.trans st3
        refine ⟨_, _, rfl, (hs.mono st23).sq, fun p hp => ?_⟩
        obtain ⟨st4, w4⟩ := w3.push hp ((rs.mono st23).cut l u)
        exact post _ E3 Z3 _ _ w4 (st1.trans (st23.trans st4)) h3
    · cases h3⟩⟩⟩

/-! ### built-ins of one argument that leave the heap -/
def Meets1 (C : Ctx) (o : D → (D → Prop) → Prop) (r : List V → Hp → VK → Prop) : Prop := ∀ (Z : Addr → Prop) (H : Hp) (v : V) (d : D) (q : D → Prop) (Q : VK), BRep C.K Z H v d → o d q → (∀ z y, Rep C.K Z H z y → q y → Q z H) → r [v] H Q
theorem one_imp {o : D → (D → Prop) → Prop} {r : List V → Hp → VK → Prop} (m : Meets1 C o r) {t : TD} (σ : Sg) (H : Hp) (Q : VK) (h : teOf C (tUn1 o t) σ H Q) : tCB r (tCons (tbOf C t) tNil) σ H Q := by
  obtain ⟨ps, Ep, E, Z, Qd, w, h, post⟩ := h
  exact ⟨ps, Ep, E, Z, _, w, h, fun d E1 Z1 H1 v w1 st1 r1 h1 => m Z1 H1 v d _ _ r1 h1 fun z y rz q => post y E1 Z1 H1 z w1 st1 rz q⟩
theorem de_b1 {id : String} {x : Str} {e : Expr} {t : TD} {o : D → (D → Prop) → Prop} {r : List V → Hp → VK → Prop} {p : Pos} (hc : CallR X (.builtin id) r ∧ Meets1 C o r) (hm : X.mg x = none) (he : DB C X e t) (hv : bootBuiltins x = some (.builtin id) := by first | rfl | decide +kernel) (hg : Gl X x := by rfl) (hn : x ≠ "__name__" := by decide) (hdb : (x == ("__debug__" : Str)) = false := by decide)
    (hs : starEach [e] X.env = (false, eval e X.env) :: starEach [] X.env := by rfl) (hpl : (backTo pos (starEach [] X.env)).any (·.1) = false := by rfl) : DE C X (.Call (.Name x p) [e] [] pos) (tUn1 o t) :=
  (pe_callB hc.1 hg hm hv (pa_cons he pa_nil hs) hn hdb hs hpl).imp (one_imp hc.2)
theorem de_t1 {T : String} {x : Str} {e : Expr} {t : TD} {o : D → (D → Prop) → Prop} {r : List V → Hp → VK → Prop} {p : Pos} (hc : CallR X (.type T) r ∧ Meets1 C o r) (hm : X.mg x = none) (he : DB C X e t) (hv : bootBuiltins x = some (.type T) := by first | rfl | decide +kernel) (hg : Gl X x := by rfl) (hn : x ≠ "__name__" := by decide) (hdb : (x == ("__debug__" : Str)) = false := by decide)
    (hs : starEach [e] X.env = (false, eval e X.env) :: starEach [] X.env := by rfl) (hpl : (backTo pos (starEach [] X.env)).any (·.1) = false := by rfl) : DE C X (.Call (.Name x p) [e] [] pos) (tUn1 o t) :=
  (pe_callTy hc.1 hg hm hv (pa_cons he pa_nil hs) hn hdb hs hpl).imp (one_imp hc.2)
def oLen : D → (D → Prop) → Prop := fun d q => match d with
  | .lst ds => q (.int ds.length)
  | .tup ds => q (.int ds.length)
  | .str z => z.length ≤ sizeLine ∧ q (.int z.length)
  | _ => False
def rLen (K : Frg) : List V → Hp → VK → Prop := fun xs H Q => (∃ p ys, xs = [.ref p] ∧ (SqL K H p ys ∨ SqT K H p ys) ∧ Q (.int ys.length) H) ∨ ∃ z, xs = [.str z] ∧ z.length ≤ sizeLine ∧ Q (.int z.length) H
theorem b_len (hK : X.K = C.K := by rfl) : CallR X (.builtin "len") (rLen X.K) ∧ Meets1 C oLen (rLen X.K) := ⟨call_len_seq.or call_len_str, fun Z H v d q Q r h k => by
  rw [hK]
  unfold oLen at h
  split at h
  · obtain ⟨a, vs, rfl, hs, rs⟩ := r.lst
    refine .inl ⟨a, vs, rfl, .inl hs, k _ _ ?_ h⟩
    rw [rs.length]; exact .int _
  · obtain ⟨a, vs, rfl, hs, rs⟩ := r.tup
    refine .inl ⟨a, vs, rfl, .inr hs, k _ _ ?_ h⟩
    rw [rs.length]; exact .int _
  · cases r.str
    exact .inr ⟨_, rfl, h.1, k _ _ (.int _) h.2⟩
  · cases h⟩
theorem BRep.int {K : Frg} {Z : Addr → Prop} {H : Hp} {v : V} {i : Int} (h : BRep K Z H v (.int i)) : v = .int i := by
  rcases h with h | ⟨t, F, h, e⟩
  · cases h; rfl
  · cases h with
    | fr h =>
      rw [show (T.fr _).fz = _ from rfl] at e
      subst e
      cases h; rfl
    | lst h hs => cases e
    | dic h e1 hs => cases e
    | obj h e1 hs => cases e
theorem BRep.bl {K : Frg} {Z : Addr → Prop} {H : Hp} {v : V} {i : Bool} (h : BRep K Z H v (.bl i)) : v = .bl i := by
  rcases h with h | ⟨t, F, h, e⟩
  · cases h; rfl
  · cases h with
    | fr h =>
      rw [show (T.fr _).fz = _ from rfl] at e
      subst e
      cases h; rfl
    | lst h hs => cases e
    | dic h e1 hs => cases e
    | obj h e1 hs => cases e
def oInt : D → (D → Prop) → Prop := fun d q => match d with
  | .int i => q (.int i)
  | .bl b => q (.int (if b then 1 else 0))
  | _ => False
theorem b_int : CallR X (.type "int") (fun xs H Q => (∃ i, xs = [.int i] ∧ Q (.int i) H) ∨ ∃ k, xs = [.bl k] ∧ Q (.int (if k then 1 else 0)) H) ∧ Meets1 C oInt (fun xs H Q => (∃ i, xs = [.int i] ∧ Q (.int i) H) ∨ ∃ k, xs = [.bl k] ∧ Q (.int (if k then 1 else 0)) H) := ⟨call_int1, fun Z H v d q Q r h k => by
  unfold oInt at h
  split at h
  · cases r.int; exact .inl ⟨_, rfl, k _ _ (.int _) h⟩
  · cases r.bl; exact .inr ⟨_, rfl, k _ _ (.int _) h⟩
  · cases h⟩
def oAbs : D → (D → Prop) → Prop := fun d q => match d with
  | .int i => q (.int (if i < 0 then -i else i))
  | _ => False
theorem b_abs : CallR X (.builtin "abs") (fun xs H Q => ∃ i, xs = [.int i] ∧ Q (.int (if i < 0 then -i else i)) H) ∧ Meets1 C oAbs (fun xs H Q => ∃ i, xs = [.int i] ∧ Q (.int (if i < 0 then -i else i)) H) := ⟨call_abs, fun Z H v d q Q r h k => by
  unfold oAbs at h
  split at h
  · cases r.int; exact ⟨_, rfl, k _ _ (.int _) h⟩
  · cases h⟩
theorem Reps.ints {K : Frg} {Z : Addr → Prop} {H : Hp} : ∀ {vs : List V} {ns : List Int}, Reps K Z H vs (ns.map D.int) → vs = ns.map V.int
  | _, [], h => by cases h; rfl
  | _, n :: ns, h => by
    cases h with
    | cons h hs => cases h; rw [List.map_cons, Reps.ints hs]
theorem Reps.bls {K : Frg} {Z : Addr → Prop} {H : Hp} : ∀ {vs : List V} {ns : List Bool}, Reps K Z H vs (ns.map D.bl) → vs = ns.map V.bl
  | _, [], h => by cases h; rfl
  | _, n :: ns, h => by
    cases h with
    | cons h hs => cases h; rw [List.map_cons, Reps.bls hs]
def oSum : D → (D → Prop) → Prop := fun d q => match d with
  | .lst ds => ∃ ns : List Int, ds = ns.map D.int ∧ q (.int ns.sum)
  | _ => False
theorem b_sum (hc : X.calm = true := by rfl) (hK : X.K = C.K := by rfl) : CallR X (.builtin "sum") (rSum X.K) ∧ Meets1 C oSum (rSum X.K) := ⟨cr_sum hc, fun Z H v d q Q r h k => by
  rw [hK]
  unfold oSum at h
  split at h
  · obtain ⟨ns, rfl, h⟩ := h
    obtain ⟨a, vs, rfl, hs, rs⟩ := r.lst
    rw [rs.ints] at hs
    exact ⟨a, ns, rfl, hs, k _ _ (.int _) h⟩
  · cases h⟩
def oMax : D → (D → Prop) → Prop := fun d q => match d with
  | .lst ds => ∃ ns : List Int, ds = ns.map D.int ∧ 0 < ns.length ∧ ∀ m, m ∈ ns → (∀ y, y ∈ ns → y ≤ m) → q (.int m)
  | _ => False
def oMin : D → (D → Prop) → Prop := fun d q => match d with
  | .lst ds => ∃ ns : List Int, ds = ns.map D.int ∧ 0 < ns.length ∧ ∀ m, m ∈ ns → (∀ y, y ∈ ns → m ≤ y) → q (.int m)
  | _ => False
theorem b_max (hc : X.calm = true := by rfl) (hK : X.K = C.K := by rfl) : CallR X (.builtin "max") (rMax X.K) ∧ Meets1 C oMax (rMax X.K) := ⟨cr_max hc, fun Z H v d q Q r h k => by
  rw [hK]
  unfold oMax at h
  split at h
  · obtain ⟨ns, rfl, hn, h⟩ := h
    obtain ⟨a, vs, rfl, hs, rs⟩ := r.lst
    rw [rs.ints] at hs
    exact ⟨a, ns, rfl, hs, hn, fun m h1 h2 => k _ _ (.int _) (h m h1 h2)⟩
  · cases h⟩
theorem b_min (hc : X.calm = true := by rfl) (hK : X.K = C.K := by rfl) : CallR X (.builtin "min") (rMin X.K) ∧ Meets1 C oMin (rMin X.K) := ⟨cr_min hc, fun Z H v d q Q r h k => by
  rw [hK]
  unfold oMin at h
  split at h
  · obtain ⟨ns, rfl, hn, h⟩ := h
    obtain ⟨a, vs, rfl, hs, rs⟩ := r.lst
    rw [rs.ints] at hs
    exact ⟨a, ns, rfl, hs, hn, fun m h1 h2 => k _ _ (.int _) (h m h1 h2)⟩
  · cases h⟩
def oAll : D → (D → Prop) → Prop := fun d q => match d with
  | .lst ds => ∃ bs : List Bool, ds = bs.map D.bl ∧ q (.bl (bs.all id))
  | _ => False
def oAny : D → (D → Prop) → Prop := fun d q => match d with
  | .lst ds => ∃ bs : List Bool, ds = bs.map D.bl ∧ q (.bl (bs.any id))
  | _ => False
theorem b_all (hc : X.calm = true := by rfl) (hK : X.K = C.K := by rfl) : CallR X (.builtin "all") (rAll X.K) ∧ Meets1 C oAll (rAll X.K) := ⟨cr_all hc, fun Z H v d q Q r h k => by
  rw [hK]
  unfold oAll at h
  split at h
  · obtain ⟨ns, rfl, h⟩ := h
    obtain ⟨a, vs, rfl, hs, rs⟩ := r.lst
    rw [rs.bls] at hs
    exact ⟨a, ns, rfl, hs, k _ _ (.bl _) h⟩
  · cases h⟩
theorem b_any (hc : X.calm = true := by rfl) (hK : X.K = C.K := by rfl) : CallR X (.builtin "any") (rAny X.K) ∧ Meets1 C oAny (rAny X.K) := ⟨cr_any hc, fun Z H v d q Q r h k => by
  rw [hK]
  unfold oAny at h
  split at h
  · obtain ⟨ns, rfl, h⟩ := h
    obtain ⟨a, vs, rfl, hs, rs⟩ := r.lst
    rw [rs.bls] at hs
    exact ⟨a, ns, rfl, hs, k _ _ (.bl _) h⟩
  · cases h⟩
/-- list(x) of a list or tuple: a new list -/
def tListOf (t : TD) : TN := fun E Q => t E fun d E1 => match d with
  | .lst ds => Q (.lst ds) E1
  | .tup ds => Q (.lst ds) E1
  | .scr ds => Q (.lst ds) E1
  | _ => False
theorem BRep.scr {K : Frg} {Z : Addr → Prop} {H : Hp} {v : V} {ds : List D} (h : BRep K Z H v (.scr ds)) : ∃ a vs, v = .ref a ∧ SqL K H a vs ∧ Reps K Z H vs ds := by
  rcases h with h | ⟨t, F, h, e⟩
  · cases h with
    | scr h hs => exact ⟨_, _, rfl, h.sq, hs⟩
  · cases h with
    | fr h =>
      rw [show (T.fr _).fz = _ from rfl] at e
      subst e
      cases h with
      | scr h hs => exact ⟨_, _, rfl, h.sq, hs⟩
    | lst h hs => cases e
    | dic h e1 hs => cases e
    | obj h e1 hs => cases e
theorem dn_list {x : Str} {e : Expr} {t : TD} {p : Pos} (hm : X.mg x = none) (he : DB C X e t) (hv : bootBuiltins x = some (.type "list") := by first | rfl | decide +kernel) (hg : Gl X x := by rfl) (hn : x ≠ "__name__" := by decide) (hdb : (x == ("__debug__" : Str)) = false := by decide)
    (hs : starEach [e] X.env = (false, eval e X.env) :: starEach [] X.env := by rfl) (hpl : (backTo pos (starEach [] X.env)).any (·.1) = false := by rfl) (hK : X.K = C.K := by rfl) : DN C X (.Call (.Name x p) [e] [] pos) (tListOf t) :=
  (pe_callTy call_list_of hg hm hv (pa_cons he pa_nil hs) hn hdb hs hpl).imp fun σ H Q ⟨ps, Ep, E, Z, Qd, w, h, post⟩ => ⟨ps, Ep, E, Z, _, w, h, fun d E1 Z1 H1 v w1 st1 r1 h1 => by
    rw [hK]
    split at h1
    · obtain ⟨a, vs, rfl, hs, rs⟩ := r1.lst
      refine ⟨a, vs, rfl, .inl hs, fun p hp => ?_⟩
      obtain ⟨st2, w2⟩ := w1.push hp rs
      exact post _ E1 Z1 _ _ w2 (st1.trans st2) h1
    · obtain ⟨a, vs, rfl, hs, rs⟩ := r1.tup
      refine ⟨a, vs, rfl, .inr hs, fun p hp => ?_⟩
      obtain ⟨st2, w2⟩ := w1.push hp rs
      exact post _ E1 Z1 _ _ w2 (st1.trans st2) h1
    · obtain ⟨a, vs, rfl, hs, rs⟩ := r1.scr
      refine ⟨a, vs, rfl, .inl hs, fun p hp => ?_⟩
      obtain ⟨st2, w2⟩ := w1.push hp rs
      exact post _ E1 Z1 _ _ w2 (st1.trans st2) h1
    · cases h1⟩
/-- tuple(x) of a list (a new tuple), of a tuple (itself) -/
def oTupOf : D → (D → Prop) → Prop := fun d q => match d with
  | .lst ds => q (.tup ds)
  | .tup ds => q (.tup ds)
  | _ => False
theorem de_tuple {x : Str} {e : Expr} {t : TD} {p : Pos} (hm : X.mg x = none) (he : DB C X e t) (hv : bootBuiltins x = some (.type "tuple") := by first | rfl | decide +kernel) (hg : Gl X x := by rfl) (hn : x ≠ "__name__" := by decide) (hdb : (x == ("__debug__" : Str)) = false := by decide)
    (hs : starEach [e] X.env = (false, eval e X.env) :: starEach [] X.env := by rfl) (hpl : (backTo pos (starEach [] X.env)).any (·.1) = false := by rfl) (hK : X.K = C.K := by rfl) : DE C X (.Call (.Name x p) [e] [] pos) (tUn1 oTupOf t) :=
  (pe_callTy call_tuple_of hg hm hv (pa_cons he pa_nil hs) hn hdb hs hpl).imp fun σ H Q ⟨ps, Ep, E, Z, Qd, w, h, post⟩ => ⟨ps, Ep, E, Z, _, w, h, fun d E1 Z1 H1 v w1 st1 r1 h1 => by
    rw [hK]
    unfold oTupOf at h1
    split at h1
    · obtain ⟨a, vs, rfl, hs, rs⟩ := r1.lst
      refine ⟨a, vs, rfl, .inl ⟨hs, fun p hp => ?_⟩⟩
      have st2 := Stp.new (o := .tup vs) w1.zt hp
      exact post _ E1 Z1 _ _ (w1.new hp) (st1.trans st2) (.tup (.of upd_same) (rs.mono st2)) h1
    · obtain ⟨a, vs, rfl, hs, rs⟩ := r1.tup
      exact ⟨a, vs, rfl, .inr ⟨hs, post _ E1 Z1 _ _ w1 st1 (.tup hs rs) h1⟩⟩
    · cases h1⟩
/-- min, max of two ints -/
def oMx2 : O2 := oI (iInt fun i j => if j > i then j else i)
def oMn2 : O2 := oI (iInt fun i j => if j < i then j else i)
theorem de_b2 {id : String} {x : Str} {a b : Expr} {ta tb : TD} {o : O2} {r : R2} {p : Pos} (hc : CallR X (.builtin id) (fun xs H Q => ∃ v w, xs = [v, w] ∧ r v w H Q)) (m : Meets C o r) (hm : X.mg x = none) (ha : DE C X a ta) (hb : DE C X b tb) (hv : bootBuiltins x = some (.builtin id) := by first | rfl | decide +kernel) (hg : Gl X x := by rfl) (hn : x ≠ "__name__" := by decide)
    (hdb : (x == ("__debug__" : Str)) = false := by decide) (hs : starEach [a, b] X.env = (false, eval a X.env) :: starEach [b] X.env := by rfl) (hs2 : starEach [b] X.env = (false, eval b X.env) :: starEach [] X.env := by rfl) (hpl : (backTo pos (starEach [b] X.env)).any (·.1) = false := by rfl) :
    DE C X (.Call (.Name x p) [a, b] [] pos) (tOp2 o ta tb) :=
  (pe_callB hc hg hm hv (pa_cons ha (pa_cons hb pa_nil hs2) hs) hn hdb hs hpl).imp fun σ H Q h => by
    have q := op2_imp m σ H Q h
    obtain ⟨ps, Ep, E, Z, Qd, w, h, post⟩ := q
    refine ⟨ps, Ep, E, Z, Qd, w, h, fun d E1 Z1 H1 v w1 st1 r1 h1 => ?_⟩
    obtain ⟨ps, Ep, E, Z, Qd, w, h, post⟩ := post d E1 Z1 H1 v w1 st1 r1 h1
    exact ⟨ps, Ep, E, Z, Qd, w, h, fun d E1 Z1 H1 v w1 st1 r1 h1 => ⟨_, _, rfl, post d E1 Z1 H1 v w1 st1 r1 h1⟩⟩
theorem b_max2 (hc : X.calm = true := by rfl) : CallR X (.builtin "max") (fun xs H Q => ∃ v w, xs = [v, w] ∧ rI0 (fun i j => .int (if j > i then j else i)) v w H Q) := fun pins s σ H xs us Q I r ⟨v, w, e, i, j, e1, e2, q⟩ => by
  subst e e1 e2
  exact call_max2 hc pins s σ H _ us Q I r ⟨i, j, rfl, q⟩
theorem b_min2 (hc : X.calm = true := by rfl) : CallR X (.builtin "min") (fun xs H Q => ∃ v w, xs = [v, w] ∧ rI0 (fun i j => .int (if j < i then j else i)) v w H Q) := fun pins s σ H xs us Q I r ⟨v, w, e, i, j, e1, e2, q⟩ => by
  subst e e1 e2
  exact call_min2 hc pins s σ H _ us Q I r ⟨i, j, rfl, q⟩
/-- list(range(..)) -/
def tRgL1 (t : TD) : TN := fun E Q => t E fun d E1 => match d with
  | .int j => RgOk 0 j ∧ Q (.lst (rng 0 j)) E1
  | _ => False
def tRgL2 (t u : TD) : TN := fun E Q => t E fun d E1 => u E1 fun e E2 => match d, e with
  | .int i, .int j => RgOk i j ∧ Q (.lst (rng i j)) E2
  | _, _ => False
theorem reps_rng {K : Frg} {Z : Addr → Prop} {H : Hp} (i j : Int) : Reps K Z H (rgV i j) (rng i j) := by
  have main : ∀ l : List Nat, Reps K Z H (l.map fun k : Nat => V.int (i + (k : Int))) (l.map fun k : Nat => D.int (i + (k : Int))) := fun l => by
    induction l with
    | nil => exact .nil
    | cons a l ih => exact .cons (.int _) ih
  exact main _
theorem dn_rg1 {a : Expr} {t : TD} {p p1 p2 : Pos} (hml : X.mg "list" = none) (hm : X.mg "range" = none) (ha : DE C X a t) (hgl : Gl X "list" := by rfl) (hg : Gl X "range" := by rfl) (hc : X.calm = true := by rfl) (na : starEach [a] X.env = (false, eval a X.env) :: starEach [] X.env := by rfl)
    (nb : starEach [.Call (.Name "range" p1) [a] [] p2] X.env = (false, eval (.Call (.Name "range" p1) [a] [] p2) X.env) :: starEach [] X.env := by rfl) : DN C X (.Call (.Name "list" p) [.Call (.Name "range" p1) [a] [] p2] [] pos) (tRgL1 t) :=
  (pe_listRg hc hgl hml (prg_1 hg hm ha na) nb).imp fun σ H Q ⟨ps, Ep, E, Z, Qd, w, h, post⟩ => ⟨ps, Ep, E, Z, _, w, h, fun d E1 Z1 H1 v w1 st1 r1 h1 => by
    split at h1
    · obtain ⟨ok, h1⟩ := h1
      cases r1
      refine ⟨_, rfl, ok, fun p hp => ?_⟩
      obtain ⟨st2, w2⟩ := w1.push hp (reps_rng 0 _)
      exact post _ E1 Z1 _ _ w2 (st1.trans st2) h1
    · cases h1⟩
theorem dn_rg2 {a b : Expr} {t u : TD} {p p1 p2 : Pos} (hml : X.mg "list" = none) (hm : X.mg "range" = none) (ha : DE C X a t) (hb : DE C X b u) (hgl : Gl X "list" := by rfl) (hg : Gl X "range" := by rfl) (hc : X.calm = true := by rfl) (na : starEach [a, b] X.env = (false, eval a X.env) :: starEach [b] X.env := by rfl) (nb' : starEach [b] X.env = (false, eval b X.env) :: starEach [] X.env := by rfl)
    (hpl : (backTo p2 (starEach [b] X.env)).any (·.1) = false := by rfl)
    (nb : starEach [.Call (.Name "range" p1) [a, b] [] p2] X.env = (false, eval (.Call (.Name "range" p1) [a, b] [] p2) X.env) :: starEach [] X.env := by rfl) : DN C X (.Call (.Name "list" p) [.Call (.Name "range" p1) [a, b] [] p2] [] pos) (tRgL2 t u) :=
  (pe_listRg hc hgl hml (prg_2 hg hm ha hb na nb' hpl) nb).imp fun σ H Q ⟨ps, Ep, E, Z, Qd, w, h, post⟩ => ⟨ps, Ep, E, Z, _, w, h, fun d E1 Z1 H1 v w1 st1 r1 h1 => ⟨ps, Ep, E1, Z1, _, w1, h1, fun e E2 Z2 H2 v2 w2 st2 r2 h2 => by
    split at h2
    · obtain ⟨ok, h2⟩ := h2
      cases r1; cases r2
      refine ⟨_, _, rfl, rfl, ok, fun p hp => ?_⟩
      obtain ⟨st3, w3⟩ := w2.push hp (reps_rng _ _)
      exact post _ E2 Z2 _ _ w3 (st1.trans (st2.trans st3)) h2
    · cases h2⟩⟩
/-- xs + ys: a new list -/
def tCatL (t u : TD) : TN := fun E Q => t E fun x E1 => u E1 fun y E2 => match x, y with
  | .lst ds, .lst es => ds.length + es.length ≤ sizeLine ∧ Q (.lst (ds ++ es)) E2
  | _, _ => False
def rCatR : R2 := fun x y H Q => ∃ l b xs zs, x = .ref l ∧ y = .ref b ∧ Rd H l (.lst xs) ∧ Rd H b (.lst zs) ∧ xs.length + zs.length ≤ sizeLine ∧ ∀ p, H p = none → Q (.ref p) (upd H p (.lst (xs ++ zs)))
theorem op_catR : OpR X (binaryOp .Add) rCatR := by
  intro pins s σ H x y v u Q I rx ry h
  obtain ⟨l, b, xs, zs, rfl, rfl, hH, hB, hz, q⟩ := h
  cases rx
  cases ry
  obtain ⟨z, its, n, r, e⟩ := hH.ok I.hok
  obtain ⟨z2, its2, n2, r2, e2⟩ := hB.ok I.hok
  have l1 := r.length
  have l2 := r2.length
  refine PySem.P.add_list e e2 ?_ (by rw [List.size_toArray, List.size_toArray]; omega)
  have ea : its.toArray ++ its2.toArray = (its ++ its2).toArray := by simp
  rw [ea]
  exact ⟨.ref _, _, I.lnew (t' := s.toks) (r.append r2) (by rw [List.length_append]; omega), rfl, q _ I.fresh⟩
theorem dn_cat {a b : Expr} {ta tb : TD} (ha : DE C X a ta) (hb : DB C X b tb) : DN C X (.BinOp a .Add b pos) (tCatL ta tb) :=
  (pe_op op_catR ha hb).imp fun σ H Q ⟨ps, Ep, E, Z, Qd, w, h, post⟩ => ⟨ps, Ep, E, Z, _, w, h, fun x E1 Z1 H1 v w1 st1 r1 h1 => ⟨ps, Ep, E1, Z1, _, w1, h1, fun y E2 Z2 H2 u w2 st2 r2 h2 => by
    split at h2
    · obtain ⟨hz, h2⟩ := h2
      cases r1 with
      | lst hs rs =>
        obtain ⟨b, zs, rfl, hs2, rs2⟩ : ∃ b zs, u = .ref b ∧ Rd H2 b (.lst zs) ∧ Reps C.K Z2 H2 zs _ := by
          rcases r2 with r2 | ⟨t, F, r2, e⟩
          · cases r2 with
            | lst h hs => exact ⟨_, _, rfl, h.rd, hs⟩
          · cases r2 with
            | fr h =>
              rw [show (T.fr _).fz = _ from rfl] at e
              subst e
              cases h with
              | lst h hs => exact ⟨_, _, rfl, h.rd, hs⟩
            | lst h hs => cases e; exact ⟨_, _, rfl, .inl h, hs⟩
            | dic h e1 hs => cases e
            | obj h e1 hs => cases e
        have rs1 := rs.mono st2
        refine ⟨_, _, _, _, rfl, rfl, (hs.mono st2).rd, hs2, by rw [rs1.length, rs2.length]; exact hz, fun p hp => ?_⟩
        obtain ⟨st3, w3⟩ := w2.push hp (rs1.append rs2)
        exact post _ E2 Z2 _ _ w3 (st1.trans (st2.trans st3)) h2
    · cases h2⟩⟩
/-! ### sorted -/
def sortD (ds : List D) : List D := ds.mergeSort (PySem.W.dataLe false D.py)
/-- a list that sorted takes -/
structure SortOk (ds : List D) : Prop where
  al : PySem.W.AllAlike (ds.map D.py)
  so : PySem.W.Sortable (ds.map D.py)
  ln : ds.length ≤ sizeLine
  sh : ∀ d ∈ ds, d.shp = true
def tSortD (t : TD) : TN := fun E Q => t E fun d E1 => match d with
  | .lst ds => SortOk ds ∧ Q (.lst (sortD ds)) E1
  | _ => False
def rSortD (K : Frg) : List V → Hp → VK → Prop := fun vs H Q => ∃ (a : Addr) (ys : List V) (ds : List D), vs = [V.ref a] ∧ SqL K H a ys ∧ SortOk ds ∧ EachIs' K H ys ds ∧ ∀ zs p, (∀ (Z : Addr → Prop), Reps K Z H ys ds → Reps K Z H zs (sortD ds)) → zs.length ≤ sizeLine → H p = none → Q (.ref p) (upd H p (.lst zs))
where EachIs' (K : Frg) (H : Hp) (ys : List V) (ds : List D) : Prop := DpAll K H ys (D.pys ds)
theorem each_of {R : Value → V × D → Prop} : ∀ {ys : List V} {us : List Value} {ds : List D}, Vals ys us → ys.length = ds.length → (∀ (i : Nat) y u d, ys[i]? = some y → us[i]? = some u → ds[i]? = some d → R u (y, d)) → PySem.W.EachIs R us (ys.zip ds)
  | _, _, [], .nil, _, _ => .nil
  | _, _, _ :: _, .nil, h, _ => by cases h
  | _, _, [], .cons _ _, h, _ => by cases h
  | y :: ys, u :: us, d :: ds, .cons r t, h, k => .cons (k 0 y u d rfl rfl rfl) (each_of t (by simpa using h) fun i y u d e1 e2 e3 => k (i + 1) y u d e1 e2 e3)
theorem vals_fst {R : Value → V × D → Prop} (hR : ∀ u p, R u p → RelV p.1 u) : ∀ {us : List Value} {ps : List (V × D)}, PySem.W.EachIs R us ps → Vals (ps.map (·.1)) us
  | _, _, .nil => .nil
  | _, _, .cons r t => .cons (hR _ _ r) (vals_fst hR t)
theorem reps_of_mem {K : Frg} {Z : Addr → Prop} {H : Hp} : ∀ {ps : List (V × D)}, (∀ p ∈ ps, Rep K Z H p.1 p.2) → Reps K Z H (ps.map (·.1)) (ps.map (·.2))
  | [], _ => .nil
  | p :: ps, h => .cons (h p (List.mem_cons_self)) (reps_of_mem fun q hq => h q (List.mem_cons_of_mem _ hq))
theorem zip_mem {K : Frg} {Z : Addr → Prop} {H : Hp} : ∀ {vs : List V} {ds : List D}, Reps K Z H vs ds → ∀ p ∈ vs.zip ds, Rep K Z H p.1 p.2
  | _, _, .nil, p, h => by cases h
  | _, _, .cons r t, p, h => by
    rcases List.mem_cons.mp h with e | h
    · subst e; exact r
    · exact zip_mem t p h
theorem zip_snd : ∀ {vs : List V} {ds : List D}, vs.length = ds.length → (vs.zip ds).map (·.2) = ds
  | [], [], _ => rfl
  | [], _ :: _, h => by cases h
  | _ :: _, [], h => by cases h
  | v :: vs, d :: ds, h => by rw [List.zip_cons_cons, List.map_cons, zip_snd (vs := vs) (by simpa using h)]
theorem cr_sortD (hu : X.A.units + 70 < cLine) : CallR X (.builtin "sorted") (rSortD X.K) := by
  intro pins s σ H vs us Q I r h
  obtain ⟨a, ys, ds, rfl, hs, ok, dp, q⟩ := h
  obtain ⟨its, rv, hl, hz⟩ := I.list hs
  rw [Vals.ref1 r]
  obtain ⟨as, rd⟩ := Dp.readsAll I (D.pys ds) ys its dp rv
  have hlen : ys.length = ds.length := by
    have := SeqAt.ReadsAll.length _ _ _ rd
    rw [pys_map, List.length_map] at this
    have := rv.length
    omega
  have er : PySem.W.EachIs (fun u (p : V × D) => RelV p.1 u ∧ ∃ as, Reads s.heap u p.2.py as) its (ys.zip ds) := each_of rv hlen fun i y u d e1 e2 e3 => by
    refine ⟨?_, ?_⟩
    · obtain ⟨u', e4, r4⟩ := rv.get e1
      rw [e2] at e4; cases e4
      exact r4
    · have main : ∀ {us : List Value} {es : List PyData} {as : List Addr} (i : Nat) {u : Value} {e : PyData}, ReadsAll s.heap us es as → us[i]? = some u → es[i]? = some e → ∃ as, Reads s.heap u e as := by
        intro us es as i u e h
        induction i generalizing us es as with
        | zero =>
          cases h with
          | nil => intro q; cases q
          | cons h1 h2 => intro q1 q2; cases q1; cases q2; exact ⟨_, h1⟩
        | succ i ih =>
          cases h with
          | nil => intro q; cases q
          | cons h1 h2 => intro q1 q2; exact ih h2 (by simpa using q1) (by simpa using q2)
      refine main i rd e2 ?_
      rw [pys_map, List.getElem?_map, e3]
      rfl
  have es : (ys.zip ds).map (fun p : V × D => p.2.py) = ds.map D.py := by
    rw [show (fun p : V × D => p.2.py) = D.py ∘ (·.2) from rfl, ← List.map_map, zip_snd hlen]
  refine PySem.W.sorted_data (enc := fun p : V × D => p.2.py) hl.isList er (er.mono fun _ _ h => h.2) (by rw [es]; exact ok.al) (by rw [es]; exact ok.so) (by rw [List.length_zip]; have := ok.ln; omega) (fun p hp => ?_) fun out ho eo => ?_
  · have : p.2 ∈ ds := by
      have : p.2 ∈ (ys.zip ds).map (·.2) := List.mem_map.mpr ⟨p, hp, rfl⟩
      rw [zip_snd hlen] at this
      exact this
    have hd := SeqAt.depth_of_shaped (ok.sh _ this)
    show X.A.units + 2 + p.2.py.depth < cLine
    omega
  · obtain ⟨ep, he'⟩ := PyProof.Rows.sortedAll_at s.heap its (List.toArray out)
    have hv := vals_fst (fun u p h => h.1) eo
    have hz2 : (((ys.zip ds).mergeSort (PySem.W.dataLe false fun p : V × D => p.2.py)).map (·.1)).length ≤ sizeLine := by
      rw [List.length_map, List.length_mergeSort, List.length_zip]
      have := ok.ln
      omega
    refine ⟨.ref _, upd H (s.heap.objs.size + 1) (.lst (((ys.zip ds).mergeSort (PySem.W.dataLe false fun p : V × D => p.2.py)).map (·.1))), I.laid (t' := s.toks) (fun _ _ => PyProof.Rows.sortedAll_old) (Nat.le_succ _) ⟨hz2, out, ep, hv, he'⟩, rfl, q _ _ (fun Z rz => ?_) hz2 (I.hok.fresh (Nat.le_succ _))⟩
    have e2 : ((ys.zip ds).mergeSort (PySem.W.dataLe false fun p : V × D => p.2.py)).map (·.2) = sortD ds := by
      unfold sortD
      have := PySem.W.sort_maps (r := PySem.W.dataLe false fun p : V × D => p.2.py) (s := PySem.W.dataLe false D.py) (fun p : V × D => p.2) (l := ys.zip ds) fun a _ b _ => rfl
      rw [zip_snd hlen] at this
      exact this
    rw [← e2]
    exact reps_of_mem fun p hp => zip_mem rz p (List.mem_mergeSort.mp hp)
theorem dn_sorted {x : Str} {e : Expr} {t : TD} {p : Pos} (hu : X.A.units + 70 < cLine) (hm : X.mg x = none) (he : DB C X e t) (hv : bootBuiltins x = some (.builtin "sorted") := by first | rfl | decide +kernel) (hg : Gl X x := by rfl) (hn : x ≠ "__name__" := by decide) (hdb : (x == ("__debug__" : Str)) = false := by decide)
    (hs : starEach [e] X.env = (false, eval e X.env) :: starEach [] X.env := by rfl) (hpl : (backTo pos (starEach [] X.env)).any (·.1) = false := by rfl) (hK : X.K = C.K := by rfl) : DN C X (.Call (.Name x p) [e] [] pos) (tSortD t) :=
  (pe_callB (cr_sortD hu) hg hm hv (pa_cons he pa_nil hs) hn hdb hs hpl).imp fun σ H Q ⟨ps, Ep, E, Z, Qd, w, h, post⟩ => ⟨ps, Ep, E, Z, _, w, h, fun d E1 Z1 H1 v w1 st1 r1 h1 => by
    rw [hK]
    split at h1
    · obtain ⟨ok, h1⟩ := h1
      obtain ⟨a, vs, rfl, hs, rs⟩ := r1.lst
      refine ⟨a, vs, _, rfl, hs, ok, rs.dp ?_, fun zs p hz _ hp => ?_⟩
      · have main : ∀ l : List D, (∀ d ∈ l, d.shp = true) → PyData.canLayAll0 (D.pys l) = true := by
          intro l
          induction l with
          | nil => intro _; rfl
          | cons d l ih => intro hd; exact Bool.and_eq_true_iff.mpr ⟨shp_lay (hd d List.mem_cons_self), ih fun e he => hd e (List.mem_cons_of_mem _ he)⟩
        exact main _ ok.sh
      · obtain ⟨st2, w2⟩ := w1.push hp (hz Z1 rs)
        exact post _ E1 Z1 _ _ w2 (st1.trans st2) h1
    · cases h1⟩

/-! ### x in xs -/
def oIn : O2 := fun x c q => match c with
  | .lst ds => (x.shp = true ∧ (D.lst ds).shp = true) ∧ q (.bl (ds.any fun z => z.eqv x))
  | .tup ds => (x.shp = true ∧ (D.tup ds).shp = true) ∧ q (.bl (ds.any fun z => z.eqv x))
  | .str y => (match x with | .str z => q (.bl (!(Builtin.Str.occurrences y z 0 y.length 1).isEmpty)) | _ => False)
  | _ => False
def oNin : O2 := fun x c q => match c with
  | .lst ds => (x.shp = true ∧ (D.lst ds).shp = true) ∧ q (.bl (!ds.any fun z => z.eqv x))
  | .tup ds => (x.shp = true ∧ (D.tup ds).shp = true) ∧ q (.bl (!ds.any fun z => z.eqv x))
  | .str y => (match x with | .str z => q (.bl (!(!(Builtin.Str.occurrences y z 0 y.length 1).isEmpty))) | _ => False)
  | _ => False
def rInTD (K : Frg) : R2 := fun x y H Q => ∃ d ds, Dp K H x d ∧ Dp K H y (.tuple ds) ∧ SeqAt.shaped d = true ∧ SeqAt.shaped (.tuple ds) = true ∧ Q (.bl (ds.any fun z => PyData.eqv z d)) H
def rNotInTD (K : Frg) : R2 := fun x y H Q => ∃ d ds, Dp K H x d ∧ Dp K H y (.tuple ds) ∧ SeqAt.shaped d = true ∧ SeqAt.shaped (.tuple ds) = true ∧ Q (.bl (!ds.any fun z => PyData.eqv z d)) H
theorem op_inTD (hu : X.A.units + 65 < cLine) : OpR X (compareOp .In) (rInTD X.K) := by
  intro pins s σ H x y v u Q I rx ry h
  obtain ⟨d, ds, hd, he, sd, se, q⟩ := h
  obtain ⟨as, r1⟩ := Dp.reads I d x v hd rx
  obtain ⟨bs, r2⟩ := Dp.reads I (.tuple ds) y u he ry
  exact SeqAt.in_tuple_reads r2 r1 (SeqAt.canLay_of_shaped se) (SeqAt.canLay_of_shaped sd) (room_in_shaped sd hu) ⟨.bl _, H, I, rfl, q⟩
theorem op_notInTD (hu : X.A.units + 65 < cLine) : OpR X (compareOp .NotIn) (rNotInTD X.K) := by
  intro pins s σ H x y v u Q I rx ry h
  obtain ⟨d, ds, hd, he, sd, se, q⟩ := h
  obtain ⟨as, r1⟩ := Dp.reads I d x v hd rx
  obtain ⟨bs, r2⟩ := Dp.reads I (.tuple ds) y u he ry
  exact SeqAt.notIn_tuple_reads r2 r1 (SeqAt.canLay_of_shaped se) (SeqAt.canLay_of_shaped sd) (room_in_shaped sd hu) ⟨.bl _, H, I, rfl, q⟩
def rInA (K : Frg) : R2 := fun x y H Q => rInD K x y H Q ∨ rInTD K x y H Q ∨ ∃ i j, x = .str i ∧ y = .str j ∧ Q (.bl (!(Builtin.Str.occurrences j i 0 j.length 1).isEmpty)) H
def rNinA (K : Frg) : R2 := fun x y H Q => rNotInD K x y H Q ∨ rNotInTD K x y H Q ∨ ∃ i j, x = .str i ∧ y = .str j ∧ Q (.bl (!(!(Builtin.Str.occurrences j i 0 j.length 1).isEmpty))) H
theorem any_eqv (ds : List D) (x : D) : (D.pys ds).any (fun z => PyData.eqv z x.py) = ds.any fun z => z.eqv x := by
  rw [pys_map, List.any_map]
  rfl
/-- the right operand may be an owned list, only looked at -/
theorem inB_imp {o : O2} {r : R2} (m : ∀ (Z : Addr → Prop) (H : Hp) (v w : V) (x y : D) (q : D → Prop) (Q : VK), Rep C.K Z H v x → BRep C.K Z H w y → o x y q → (∀ z d, Rep C.K Z H z d → q d → Q z H) → r v w H Q) {ta tb : TD} (σ : Sg) (H : Hp) (Q : VK) (h : teOf C (tOp2 o ta tb) σ H Q) :
    tOp r (teOf C ta) (tbOf C tb) σ H Q := by
  obtain ⟨ps, Ep, E, Z, Qd, w, h, post⟩ := h
  exact ⟨ps, Ep, E, Z, _, w, h, fun x E1 Z1 H1 v w1 st1 r1 h1 => ⟨ps, Ep, E1, Z1, _, w1, h1, fun y E2 Z2 H2 u w2 st2 r2 h2 => m Z2 H2 v u x y _ Q (r1.mono st2) r2 h2 fun z d rz q => post d E2 Z2 H2 z w2 (st1.trans st2) rz q⟩⟩
theorem m_in {Z : Addr → Prop} {H : Hp} {v w : V} {x y : D} {q : D → Prop} {Q : VK} (rx : Rep C.K Z H v x) (ry : BRep C.K Z H w y) (h : oIn x y q) (k : ∀ z d, Rep C.K Z H z d → q d → Q z H) : rInA C.K v w H Q := by
  unfold oIn at h
  split at h
  · obtain ⟨⟨h1, h2⟩, h⟩ := h
    refine .inl ⟨_, _, rx.dp (shp_lay h1), ry.dp (shp_lay h2), h1, h2, k _ _ ?_ h⟩
    rw [any_eqv]; exact .bl _
  · obtain ⟨⟨h1, h2⟩, h⟩ := h
    refine .inr (.inl ⟨_, _, rx.dp (shp_lay h1), ry.dp (shp_lay h2), h1, h2, k _ _ ?_ h⟩)
    rw [any_eqv]; exact .bl _
  · split at h
    · cases rx
      cases ry.str
      exact .inr (.inr ⟨_, _, rfl, rfl, k _ _ (.bl _) h⟩)
    · cases h
  · cases h
theorem m_nin {Z : Addr → Prop} {H : Hp} {v w : V} {x y : D} {q : D → Prop} {Q : VK} (rx : Rep C.K Z H v x) (ry : BRep C.K Z H w y) (h : oNin x y q) (k : ∀ z d, Rep C.K Z H z d → q d → Q z H) : rNinA C.K v w H Q := by
  unfold oNin at h
  split at h
  · obtain ⟨⟨h1, h2⟩, h⟩ := h
    refine .inl ⟨_, _, rx.dp (shp_lay h1), ry.dp (shp_lay h2), h1, h2, k _ _ ?_ h⟩
    rw [any_eqv]; exact .bl _
  · obtain ⟨⟨h1, h2⟩, h⟩ := h
    refine .inr (.inl ⟨_, _, rx.dp (shp_lay h1), ry.dp (shp_lay h2), h1, h2, k _ _ ?_ h⟩)
    rw [any_eqv]; exact .bl _
  · split at h
    · cases rx
      cases ry.str
      exact .inr (.inr ⟨_, _, rfl, rfl, k _ _ (.bl _) h⟩)
    · cases h
  · cases h
theorem de_in {a b : Expr} {ta tb : TD} (hu : X.A.units + 65 < cLine) (ha : DE C X a ta) (hb : DB C X b tb) (hm : behindInMarks .In b = false := by rfl) (hK : X.K = C.K := by rfl) : DE C X (.Compare a [.In] [b] pos) (tOp2 oIn ta tb) :=
  (pe_cmpR ((op_inD hu).or ((op_inTD hu).or op_in_str)) ha hb hm).imp fun σ H Q h => by
    rw [hK]
    exact inB_imp (r := rInA C.K) (fun Z H v w x y q Q rx ry h k => m_in rx ry h k) σ H Q h
theorem de_nin {a b : Expr} {ta tb : TD} (hu : X.A.units + 65 < cLine) (ha : DE C X a ta) (hb : DB C X b tb) (hm : behindInMarks .NotIn b = false := by rfl) (hK : X.K = C.K := by rfl) : DE C X (.Compare a [.NotIn] [b] pos) (tOp2 oNin ta tb) :=
  (pe_cmpR ((op_notInD hu).or ((op_notInTD hu).or op_notIn_str)) ha hb hm).imp fun σ H Q h => by
    rw [hK]
    exact inB_imp (r := rNinA C.K) (fun Z H v w x y q Q rx ry h k => m_nin rx ry h k) σ H Q h
theorem testB {o : O2} {r : R2} (m : ∀ (Z : Addr → Prop) (H : Hp) (v w : V) (x y : D) (q : D → Prop) (Q : VK), Rep C.K Z H v x → BRep C.K Z H w y → o x y q → (∀ z d, Rep C.K Z H z d → q d → Q z H) → r v w H Q) {ta tb : TD} (σ : Sg) (H : Hp) (Q : Bool → Hp → Prop) (h : ttOf C (tOp2B o ta tb) σ H Q) :
    tTest (tOp r (teOf C ta) (tbOf C tb)) σ H Q := by
  obtain ⟨ps, Ep, E, Z, Qd, w, h, post⟩ := h
  exact ⟨ps, Ep, E, Z, _, w, h, fun x E1 Z1 H1 v w1 st1 r1 h1 => ⟨ps, Ep, E1, Z1, _, w1, h1, fun y E2 Z2 H2 u w2 st2 r2 h2 => m Z2 H2 v u x y _ _ (r1.mono st2) r2 h2 fun z d rz q => by
    cases rz with
    | bl k => exact ⟨k, rfl, post k E2 Z2 H2 w2 (st1.trans st2) q⟩
    | _ => cases q⟩⟩
theorem dt_in {a b : Expr} {ta tb : TD} (hu : X.A.units + 65 < cLine) (ha : DE C X a ta) (hb : DB C X b tb) (hm : behindInMarks .In b = false := by rfl) (hK : X.K = C.K := by rfl) : DT C X (.Compare a [.In] [b] pos) (tOp2B oIn ta tb) :=
  (pt_cmpR ((op_inD hu).or ((op_inTD hu).or op_in_str)) ha hb hm).imp fun σ H Q h => by
    rw [hK]
    exact testB (r := rInA C.K) (fun Z H v w x y q Q rx ry h k => m_in rx ry h k) σ H Q h
theorem dt_nin {a b : Expr} {ta tb : TD} (hu : X.A.units + 65 < cLine) (ha : DE C X a ta) (hb : DB C X b tb) (hm : behindInMarks .NotIn b = false := by rfl) (hK : X.K = C.K := by rfl) : DT C X (.Compare a [.NotIn] [b] pos) (tOp2B oNin ta tb) :=
  (pt_cmpR ((op_notInD hu).or ((op_notInTD hu).or op_notIn_str)) ha hb hm).imp fun σ H Q h => by
    rw [hK]
    exact testB (r := rNinA C.K) (fun Z H v w x y q Q rx ry h k => m_nin rx ry h k) σ H Q h
end
end DL
set_option Elab.async false
set_option linter.all false
set_option maxRecDepth 100000
set_option maxHeartbeats 4000000
/-! DL, part i: defs of the text, a law's end. -/
namespace DL
open PySem PySem.Spec PyProof.Rows L2

/-- a def of the text as it stands behind the top -/
structure Dn (K : Frg) (mg : Str → Option Value) (x : Str) (st : Stmt) (prs : List Str) (f : Addr) (fd : FuncData) : Prop where
  F : Fun K x x st f fd
  m : mg x = some (.ref f)
  b : Binds K fd prs []
section
variable {C : Ctx} {X : Cx} {pos : Pos} {CX : CXT} {k n : Nat} {f : Addr} {fd : FuncData} {prs : List Str} {sd : SpD} {Ex : XK} {x : Str} {st : Stmt} {p : Pos} {e : Expr} {es : List Expr} {ta : TAm}
theorem dcall (G : FnOk X.prog X.w X.K X.mg X.base CX k f fd prs (spD X.K n sd)) (Dn' : Dn X.K X.mg x st prs f fd) (hr : Room k X.A) (ha : DM C X (e :: es) ta) (hx : Passes CX X Ex := by exact pass0) (hg : Gl X x := by rfl) (hn : n = (e :: es).length := by rfl) (hK : X.K = C.K := by rfl)
    (hdb : (x == ("__debug__" : Str)) = false := by decide) (he : starEach (e :: es) X.env = (false, eval e X.env) :: starEach es X.env := by rfl) (hpl : (backTo pos (starEach es X.env)).any (·.1) = false := by rfl) :
    DE C X (.Call (.Name x p) (e :: es) [] pos) (tCallD sd ta) := de_call G hr Dn'.m Dn'.F.kp Dn'.b ha hx hg hn hK hdb he hpl
theorem dcalln (G : FnOk X.prog X.w X.K X.mg X.base CX k f fd prs (spD X.K n sd)) (Dn' : Dn X.K X.mg x st prs f fd) (hr : Room k X.A) (ha : DM C X (e :: es) ta) (hx : Passes CX X Ex := by exact pass0) (hg : Gl X x := by rfl) (hn : n = (e :: es).length := by rfl) (hK : X.K = C.K := by rfl)
    (hdb : (x == ("__debug__" : Str)) = false := by decide) (he : starEach (e :: es) X.env = (false, eval e X.env) :: starEach es X.env := by rfl) (hpl : (backTo pos (starEach es X.env)).any (·.1) = false := by rfl) :
    DN C X (.Call (.Name x p) (e :: es) [] pos) (tCallN sd ta) := dn_call G hr Dn'.m Dn'.F.kp Dn'.b ha hx hg hn hK hdb he hpl
end
/-- the law's own promise -/
def sdLaw : SpD := fun args Q => ∃ ns : List Int, args = [.fr (.scr (ns.map D.int))] ∧ ns.length ≤ 63 ∧ Q (.fr (.bl true)) [.un]
theorem law_sp {K : Frg} {H : Hp} {a : Addr} {ns : List Int} {Ex : XK} (hl : ns.length ≤ 63) (h : SqL K H a (ns.map V.int)) : spD K 1 sdLaw [.ref a] H (fun v _ => v = .bl true) Ex := by
  have reps : ∀ (Z : Addr → Prop) (l : List Int), Reps K Z H (l.map V.int) (l.map D.int) := fun Z l => by
    induction l with
    | nil => exact .nil
    | cons a l ih => exact .cons (.int _) ih
  refine ⟨fun b => b = a ∧ H a = some (.lst (ns.map V.int)), [.fr (.scr (ns.map D.int))], fun _ => [], fun r _ => r = .fr (.bl true), rfl, ⟨rfl, fun i s e => ?_, fun _ _ => rfl, fun _ => List.nodup_nil, fun i j b h => (by cases h)⟩, fun i b h => (by cases h), fun b h => ?_, fun i t e => ?_, ⟨ns, rfl, hl, rfl⟩, fun r Em Z' H' v R e => ?_⟩
  · cases i with
    | zero =>
      cases e
      refine ⟨rfl, .ref a, rfl, .scr ?_ (reps _ _)⟩
      rcases h with (h | ⟨o, h⟩) | h
      · exact .inl (.inl ⟨⟨rfl, h⟩, h⟩)
      · exact .inl (.inr ⟨o, h⟩)
      · exact .inr h
    | succ i => simp at e
  · rw [h.1, h.2]; intro q; cases q
  · cases i with
    | zero => cases e
    | succ i => simp at e
  · subst e
    obtain ⟨_, r⟩ := R
    cases r
    rfl
theorem u65_of {k : Nat} {A : Around} (r : Room k A) : A.units + 65 < cLine := by have := r.un; omega
theorem u70_of {k : Nat} {A : Around} (r : Room k A) : A.units + 70 < cLine := by have := r.un; omega
/-! ### helpers for readings -/
theorem popMu {i : Nat} {E : List S} {Q : D → List S → Prop} {init : List D} {d : D} (e : E[i]? = some (.mu (.lst (init ++ [d])))) (q : Q d (E.set i (.mu (.lst init)))) : tPopL i E Q := by
  unfold tPopL lstAt
  rw [e]
  simp only [List.getLast?_concat, List.dropLast_concat]
  exact q
theorem popOw {i : Nat} {E : List S} {Q : D → List S → Prop} {init : List D} {d : D} (e : E[i]? = some (.ow (.lst (init ++ [d])))) (q : Q d (E.set i (.ow (.lst init)))) : tPopL i E Q := by
  unfold tPopL lstAt
  rw [e]
  simp only [List.getLast?_concat, List.dropLast_concat]
  exact q
theorem popMuI {i : Nat} {E : List S} {Q : D → List S → Prop} {init : List Int} {x : Int} (e : E[i]? = some (.mu (.lst ((init ++ [x]).map D.int)))) (q : Q (.int x) (E.set i (.mu (.lst (init.map D.int))))) : tPopL i E Q :=
  popMu (init := init.map D.int) (d := .int x) (by rw [e, List.map_append]; rfl) q
theorem popOwI {i : Nat} {E : List S} {Q : D → List S → Prop} {init : List Int} {x : Int} (e : E[i]? = some (.ow (.lst ((init ++ [x]).map D.int)))) (q : Q (.int x) (E.set i (.ow (.lst (init.map D.int))))) : tPopL i E Q :=
  popOw (init := init.map D.int) (d := .int x) (by rw [e, List.map_append]; rfl) q
theorem snoc_of_ne {α : Type} {l : List α} (h : l ≠ []) : ∃ init x, l = init ++ [x] := ⟨l.dropLast, l.getLast h, (List.dropLast_concat_getLast h).symm⟩
theorem cut_ints (ns : List Int) (lo hi : Option Int) : ∃ ms : List Int, cutD (ns.map D.int) lo hi = ms.map D.int ∧ ms.length ≤ ns.length := by
  refine ⟨(ns.drop (HT.sIx (ns.map D.int).length 0 lo)).take (HT.sIx (ns.map D.int).length (ns.map D.int).length hi - HT.sIx (ns.map D.int).length 0 lo), ?_, ?_⟩
  · unfold cutD
    rw [List.map_take, List.map_drop]
  · rw [List.length_take, List.length_drop]
    omega
end DL
set_option Elab.async false
set_option linter.all false
set_option maxRecDepth 100000
set_option maxHeartbeats 4000000
/-! DL, part j: wide quotients, isinstance, least and greatest of a tuple, list(reversed(..)). -/
namespace DL
open PySem PySem.Spec PyProof.Rows L2

section
variable {C : Ctx} {X : Cx} {pos : Pos}
theorem o_fdivW : OpR X (binaryOp .FloorDiv) (rI CDivW fun i j => .int (i / j)) ∧ Meets C (oIc CDivW (iInt fun i j => i / j)) (rI CDivW fun i j => .int (i / j)) := ⟨op_fdivW, meets_Ic (fun _ _ _ _ _ => .int _) fun _ _ h => h⟩
theorem o_mulW : OpR X (binaryOp .Mult) (rI CMulW fun i j => .int (i * j)) ∧ Meets C (oIc CMulW (iInt fun i j => i * j)) (rI CMulW fun i j => .int (i * j)) := ⟨op_mulW, meets_Ic (fun _ _ _ _ _ => .int _) fun _ _ h => h⟩

/-! ### isinstance(x, T), T a built-in type -/
/-- the name of data's type -/
def D.ty : D → String
  | .non => "NoneType"
  | .bl _ => "bool"
  | .int _ => "int"
  | .str _ => "str"
  | .tup _ => "tuple"
  | .lst _ => "list"
  | .scr _ => "list"
  | .dic _ _ => "dict"
  | .obj _ _ _ => "object"
def D.isObj : D → Bool
  | .obj _ _ _ => true
  | _ => false
theorem LsR.tyx {K : Frg} {Z : Addr → Prop} {H : Hp} {a : Addr} {vs : List V} (h : LsR Z H a vs) : TyX K H (.ref a) (.type "list") := by
  rcases h with ⟨_, h⟩ | ⟨o, h⟩
  · exact .base (.lst h)
  · exact .base (.frz h)
theorem Rep.tyx {K : Frg} {Z : Addr → Prop} {H : Hp} {v : V} {d : D} (r : Rep K Z H v d) (h : d.isObj = false) : TyX K H v (.type d.ty) := by
  cases r with
  | non => exact .base .non
  | bl b => exact .base (.bl b)
  | int i => exact .base (.int i)
  | str x => exact .base (.str x)
  | tup hs _ =>
    rcases hs with (h | ⟨o, h⟩) | ⟨o, _, _, h, c, _⟩
    · exact .base (.tup h)
    · exact .fTuple h
    · exact .kTuple h c
  | lst hs _ => exact hs.tyx
  | scr hs _ =>
    rcases hs with h | ⟨o, _, _, h, c, _⟩
    · exact h.tyx
    · exact .kList h c
  | dic _ q _ _ => exact .base (.dK q)
  | obj _ _ _ _ => cases h
theorem BRep.tyx {K : Frg} {Z : Addr → Prop} {H : Hp} {v : V} {d : D} (r : BRep K Z H v d) (h : d.isObj = false) : TyX K H v (.type d.ty) := by
  rcases r with r | ⟨t, F, r, e⟩
  · exact r.tyx h
  · cases r with
    | fr r => subst e; exact r.tyx h
    | lst hs _ => subst e; exact .base (.lst hs)
    | dic hs _ _ => subst e; exact .base (.dK hs)
    | obj _ _ _ => subst e; cases h
/-- data with its answer -/
def oIsi (T : String) : D → (D → Prop) → Prop := fun d q => d.isObj = false ∧ ∃ b, kitB d.ty T = some b ∧ q (.bl b)
theorem de_isi {x y : Str} {T : String} {e : Expr} {t : TD} {p p' : Pos} (hm : X.mg x = none) (hm' : X.mg y = none) (he : DB C X e t) (hy : bootBuiltins y = some (.type T) := by first | rfl | decide +kernel) (hv : bootBuiltins x = some (.builtin "isinstance") := by first | rfl | decide +kernel) (hg : Gl X x := by rfl) (hg' : Gl X y := by rfl) (hn : x ≠ "__name__" := by decide) (hn' : y ≠ "__name__" := by decide)
    (hdb : (x == ("__debug__" : Str)) = false := by decide) (hdb' : (y == ("__debug__" : Str)) = false := by decide) (hs : starEach [e, .Name y p'] X.env = (false, eval e X.env) :: starEach [.Name y p'] X.env := by rfl) (hs2 : starEach [.Name y p'] X.env = (false, eval (.Name y p') X.env) :: starEach [] X.env := by rfl)
    (hpl : (backTo pos (starEach [.Name y p'] X.env)).any (·.1) = false := by rfl) (hK : X.K = C.K := by rfl) : DE C X (.Call (.Name x p) [e, .Name y p'] [] pos) (tUn1 (oIsi T) t) :=
  (pe_callB call_isi hg hm hv (pa_cons he (pa_cons (pe_bltn (v := .ty T) (u := .type T) hg' hm' hy rfl hn' hdb') pa_nil hs2) hs) hn hdb hs hpl).imp fun σ H Q ⟨ps, Ep, E, Z, Qd, w, h, post⟩ => ⟨ps, Ep, E, Z, _, w, h, fun d E1 Z1 H1 v w1 st1 r1 ⟨ho, b, hb, h1⟩ => by
    rw [hK]
    exact ⟨v, .ty T, .type d.ty, .type T, b, rfl, .ty T, r1.tyx ho, kit_ty hb, post _ E1 Z1 H1 _ w1 st1 (.bl b) h1⟩⟩

/-! ### the greatest, the least of a tuple of ints -/
section
variable {prog : Program} {w : World} {A : Around} {Er : Value → Shared → Prop} {s : Shared} {l : Addr} {its : List Value} {ns : List Int} {Q : Value → Shared → Prop}
theorem mx_tup (hh : A.handled = none) (hl : s.heap.IsTuple l its.toArray) (hi : IntsAre its ns) (hne : 0 < ns.length) (gr : Bool)
    (h : ∀ h' tk M t', (∀ b o, s.heap.get? b = some o → h'.get? b = some o) → M ∈ ns → (∀ a, a ∈ ns → if gr then a ≤ M else M ≤ a) → Q (.int M t') { s with heap := h', toks := tk }) : wpAny (model prog w) A (call (.builtin (if gr then "max" else "min")) [.ref l]) Q Er s := by
  obtain ⟨xs, e⟩ := hi.allInts.items
  have hn : numsOf (intItems xs).toList = ns := by rw [← e]; exact hi.numsOf
  rw [nums_intItems] at hn
  subst hn
  rw [e] at hl
  have hz : 0 < xs.size := by simpa using hne
  have hlt : l < s.heap.objs.size := by obtain ⟨_, q, _⟩ := hl; exact Heap.lt_size q
  have fp : ∀ (o : Obj) (b : Addr), b ∈ [s.heap.objs.size, l] → b < (s.heap.push o).objs.size := fun o b hb => by
    rw [Heap.size_push]
    rcases List.mem_cons.mp hb with rfl | hb
    · exact Nat.lt_succ_self _
    · rw [List.mem_singleton.mp hb]; exact Nat.lt_succ_of_lt hlt
  have old : ∀ (o : Obj) (h' : Heap), (∀ b u, b ∉ [s.heap.objs.size] → (s.heap.push o).get? b = some u → h'.get? b = some u) → ∀ b u, s.heap.get? b = some u → h'.get? b = some u := fun o h' hk b u q => by
    refine hk b u (fun hm => ?_) (Heap.get?_push_of_some _ q)
    have := Heap.lt_size q
    rw [List.mem_singleton.mp hm] at this
    exact Nat.lt_irrefl _ this
  cases gr with
  | true =>
    refine call_max_walk (wpAny_pyIter_tuple hl ?_)
    refine ⟨_, [_, l], [_], _, _, _, _, rfl, Walks.tuple (A := A.in1) hh _ l (Nat.ne_of_lt hlt) (intItems xs), ⟨⟨_, Heap.get?_push_size _ rfl, rfl, rfl⟩, hl.push _⟩, fun c hc => fp _ c hc, by simpa [intItems] using hz, CmpOf.ints_gt (numAt xs) (fun _ _ => intItems_at), fun v h' tk hP hk => ?_⟩
    obtain ⟨t, rfl⟩ := intItems_at hP
    have ez : (intItems xs).size = xs.size := by simp [intItems]
    rw [ez]
    obtain ⟨h1, h2⟩ := argBest_gt (numAt xs) (xs.size - 1)
    refine h h' tk _ t (old _ h' hk) ?_ fun a ha => ?_
    · rw [numAt_eq]; exact PySem.getD_mem (by rw [List.length_map, Array.length_toList]; omega)
    · obtain ⟨j, hj, rfl⟩ := mem_getD ha
      rw [List.length_map, Array.length_toList] at hj
      rw [if_pos rfl, ← numAt_eq]; exact h2 j (by omega)
  | false =>
    refine call_min_walk (wpAny_pyIter_tuple hl ?_)
    refine ⟨_, [_, l], [_], _, _, _, _, rfl, Walks.tuple (A := A.in1) hh _ l (Nat.ne_of_lt hlt) (intItems xs), ⟨⟨_, Heap.get?_push_size _ rfl, rfl, rfl⟩, hl.push _⟩, fun c hc => fp _ c hc, by simpa [intItems] using hz, CmpOf.ints_lt (numAt xs) (fun _ _ => intItems_at), fun v h' tk hP hk => ?_⟩
    obtain ⟨t, rfl⟩ := intItems_at hP
    have ez : (intItems xs).size = xs.size := by simp [intItems]
    rw [ez]
    obtain ⟨h1, h2⟩ := argBest_lt (numAt xs) (xs.size - 1)
    refine h h' tk _ t (old _ h' hk) ?_ fun a ha => ?_
    · rw [numAt_eq]; exact PySem.getD_mem (by rw [List.length_map, Array.length_toList]; omega)
    · obtain ⟨j, hj, rfl⟩ := mem_getD ha
      rw [List.length_map, Array.length_toList] at hj
      rw [if_neg Bool.false_ne_true, ← numAt_eq]; exact h2 j (by omega)
end
def oMxT (gr : Bool) : D → (D → Prop) → Prop := fun d q => match d with
  | .tup ds => ∃ ns : List Int, ds = ns.map D.int ∧ 0 < ns.length ∧ ∀ m, m ∈ ns → (∀ y, y ∈ ns → if gr then y ≤ m else m ≤ y) → q (.int m)
  | _ => False
def rMxT (K : Frg) (gr : Bool) : List V → Hp → VK → Prop := fun vs H Q => ∃ (a : Addr) (ns : List Int), vs = [V.ref a] ∧ SqT K H a (ns.map V.int) ∧ 0 < ns.length ∧ ∀ m, m ∈ ns → (∀ y, y ∈ ns → if gr then y ≤ m else m ≤ y) → Q (.int m) H
theorem cr_mxT (gr : Bool) (hc : X.calm = true) : CallR X (.builtin (if gr then "max" else "min")) (rMxT X.K gr) := by
  intro pins s σ H vs us Q I r ⟨a, ns, e, hs, hne, q⟩
  subst e
  obtain ⟨its, rv, hl, _⟩ := I.tuple hs
  rw [Vals.ref1 r]
  exact mx_tup (I.ok.hd hc) (show s.heap.IsTuple a its.toArray from hl) rv.ints hne gr fun h' tk m t' hk h1 h2 => ⟨.int _, H, I.kept hk, ⟨_, rfl⟩, q m h1 h2⟩
theorem m_mxT (gr : Bool) (hK : X.K = C.K) : Meets1 C (oMxT gr) (rMxT X.K gr) := fun Z H v d q Q r h k => by
  rw [hK]
  unfold oMxT at h
  split at h
  · obtain ⟨ns, rfl, hn, h⟩ := h
    obtain ⟨a, vs, rfl, hs, rs⟩ := r.tup
    rw [rs.ints] at hs
    exact ⟨a, ns, rfl, hs, hn, fun m h1 h2 => k _ _ (.int _) (h m h1 h2)⟩
  · cases h
theorem b_maxT (hc : X.calm = true := by rfl) (hK : X.K = C.K := by rfl) : CallR X (.builtin "max") (rMxT X.K true) ∧ Meets1 C (oMxT true) (rMxT X.K true) := ⟨cr_mxT true hc, m_mxT true hK⟩
theorem b_minT (hc : X.calm = true := by rfl) (hK : X.K = C.K := by rfl) : CallR X (.builtin "min") (rMxT X.K false) ∧ Meets1 C (oMxT false) (rMxT X.K false) := ⟨cr_mxT false hc, m_mxT false hK⟩

/-! ### list(reversed(xs)) -/
section
variable {prog : Program} {w : World} {A : Around} {Er : Value → Shared → Prop} {s : Shared} {Q : Value → Shared → Prop}
theorem list_of_rev {it l : Addr} {its : Array Value} (hh : A.handled = none) (hit : s.heap.IsRevIter it l ((its.size : Int) - 1)) (hl : s.heap.IsList l its) (hne : l ≠ it) (hn : its.size ≤ sizeLine)
    (hQ : ∀ (h' : Heap) (tk : Nat) (acc : Array Value) (c : Nat), (∀ b o, b ≠ it → s.heap.get? b = some o → h'.get? b = some o) → h'.get? s.heap.objs.size = some { cls := .type "list", dict := none, data := .seq acc c, slots := #[] } →
      ItemsOf (fun i v => its[its.size - 1 - i]? = some v) acc its.size → Q (.ref s.heap.objs.size) { s with heap := h', toks := tk }) : wpAny (model prog w) A (call (.type "list") [.ref it]) Q Er s := by
  obtain ⟨oi, hoi, _⟩ := id hit
  obtain ⟨ol, hol, _⟩ := id hl
  have ni : s.heap.objs.size ≠ it := Nat.ne_of_gt (Heap.lt_size hoi)
  have nl : s.heap.objs.size ≠ l := Nat.ne_of_gt (Heap.lt_size hol)
  refine callType_codes (Q₁ := fun ob s1 => ob = .ref s.heap.objs.size ∧ s1 = { s with heap := s.heap.push { cls := .type "list", data := .seq #[] } }) F.called_list (F.typeCall_list_1 _) F.entry_list_init (code_list_new _ ⟨rfl, rfl⟩) fun ob s1 h1 => ?_
  obtain ⟨rfl, rfl⟩ := h1
  have h0 : (s.heap.push { cls := .type "list", data := .seq #[] }).get? s.heap.objs.size = some { cls := .type "list", data := .seq #[] } := Heap.get?_push_size _ rfl
  refine ⟨⟨_, h0, rfl⟩, F.args_list_init_2 _ _, ?_⟩
  unfold Builtin.«list.__init__»
  refine wpAny_bind ?_
  unfold Builtin.List.listItems
  refine wpAny_bind (wpAny_seqItems h0 rfl (wpAny_pure ?_))
  refine wpAny_bind ?_
  show wpAny _ _ (updateSeq s.heap.objs.size (fun _ => #[])) _ _ _
  refine wpAny_updateSeq h0 rfl ?_
  have h2 := Heap.get?_update_self (Obj.mapSeq (fun _ => (#[] : Array Value))) h0 rfl
  have up : ∀ b o, b ≠ s.heap.objs.size → (s.heap.push { cls := .type "list", data := .seq #[] }).get? b = some o → ((s.heap.push { cls := .type "list", data := .seq #[] }).update s.heap.objs.size (Obj.mapSeq (fun _ => (#[] : Array Value)))).get? b = some o :=
    fun b o hb e => (Heap.get?_update_other _ _ (Ne.symm hb)).trans e
  have hit2 : ((s.heap.push { cls := .type "list", data := .seq #[] }).update s.heap.objs.size (Obj.mapSeq (fun _ => (#[] : Array Value)))).IsRevIter it l ((its.size : Int) - 1) := (hit.at fun o e => Heap.get?_push_of_some _ e).at fun o e => up it o (Ne.symm ni) e
  have hl2 : ((s.heap.push { cls := .type "list", data := .seq #[] }).update s.heap.objs.size (Obj.mapSeq (fun _ => (#[] : Array Value)))).IsList l its := ⟨ol, up l ol (Ne.symm nl) (Heap.get?_push_of_some _ hol), by assumption⟩
  refine wpAny_bind (wpAny_letGo ?_)
  have tyr := Heap.IsRevIter.typeIs (s := { s with heap := (s.heap.push { cls := .type "list", data := .seq #[] }).update s.heap.objs.size (Obj.mapSeq (fun _ => (#[] : Array Value))) }) hit2
  show wpAny _ _ (Builtin.List.listExtendWith (.ref s.heap.objs.size) (.ref it) .none) _ _ _
  unfold Builtin.List.listExtendWith
  refine wpAny_bind (wpAny_typeOf tyr ?_)
  rw [if_neg (by simp [Builtin.List.listSameRef, ni])]
  refine wpAny_bind (wpAny_pyIter_revIter (s := { s with heap := (s.heap.push { cls := .type "list", data := .seq #[] }).update s.heap.objs.size (Obj.mapSeq (fun _ => (#[] : Array Value))) }) hit2 ?_)
  refine wpAny_bind (wpAny_holding ?_)
  unfold Builtin.List.listLengthHint
  refine wpAny_bind (wpAny_specialOf tyr RT.nolen_lri ?_)
  show wpAny _ _ (specialOf (Value.ref it) (Str.ofString "__length_hint__") >>= _) _ _ _
  refine wpAny_bind (wpAny_specialOf tyr RT.hint_lri ?_)
  generalize hid : ("list_reverseiterator.__length_hint__" : String) = id0
  wp_delta
  rw [show splitId id0 = some ("list_reverseiterator", "__length_hint__") from by subst hid; decide +kernel]
  subst hid
  refine wpAny_bind (wpAny_isInstance (b := true) tyr (by rw [isSubtype_type]; kernel_rfl) ?_)
  refine wpAny_pure ?_
  rw [if_neg (by decide)]
  have W := (Walks.listRev (prog := prog) (w := w) (A := A.in1.in1) hh it l hne its).toS
  have nf : s.heap.objs.size ∉ [it, l] := by simp only [List.mem_cons, List.not_mem_nil, or_false, not_or]; exact ⟨ni, nl⟩
  have e0 : ((its.size : Nat) : Int) - 1 - ((0 : Nat) : Int) = (its.size : Int) - 1 := by omega
  refine wpAny_pure ⟨plainId_quiet F.plain_extend_loop _, codeAny_extend_loopS W hn _ nf _ its.size 0 _ _ _ rfl (Nat.zero_le _) ⟨Nat.zero_le _, by rw [e0]; exact hit2, hl2⟩ h2 (ItemsOf.nil _) fun s' acc c hm hS hacc => ?_⟩
  have em := Moved.eq_with hm
  refine ⟨rfl, ?_⟩
  rw [em]
  refine hQ s'.heap s'.toks acc c (fun b o hb e => hm.heap b o (fun hmem => ?_) (up b o (Nat.ne_of_lt (Heap.lt_size e)) (Heap.get?_push_of_some _ e))) hS hacc
  rcases List.mem_cons.mp hmem with e' | hmem
  · exact absurd (Heap.lt_size e) (by rw [e']; exact Nat.lt_irrefl _)
  · exact hb (List.mem_singleton.mp hmem)
end

theorem valsRev : ∀ {vs : List V} {us : List Value}, Vals vs us → Vals vs.reverse us.reverse := fun {vs us} h => by
  have app : ∀ {a b : List V} {c d : List Value}, Vals a c → Vals b d → Vals (a ++ b) (c ++ d) := fun {a b c d} h k => by
    induction h with
    | nil => exact k
    | cons r _ ih => exact .cons r ih
  induction h with
  | nil => exact .nil
  | cons r _ ih => rw [List.reverse_cons, List.reverse_cons]; exact app ih (.cons r .nil)
theorem items_rev {its : List Value} {acc : Array Value} (h : ItemsOf (fun i v => its.toArray[its.toArray.size - 1 - i]? = some v) acc its.toArray.size) : acc.toList = its.reverse := by
  have hs : acc.size = its.length := by have := h.1; simpa using this
  refine List.ext_getElem? fun i => ?_
  by_cases hi : i < its.length
  · have e : acc[i]? = some acc[i] := Array.getElem?_eq_getElem (by omega)
    have q := h.2 i _ e
    rw [Array.getElem?_toList, e]
    rw [List.getElem?_reverse hi]
    simp only [List.size_toArray, List.getElem?_toArray] at q
    exact q.symm
  · rw [List.getElem?_eq_none (by rw [Array.length_toList]; omega), List.getElem?_eq_none (by rw [List.length_reverse]; omega)]
def tRevOf (t : TD) : TN := fun E Q => t E fun d E1 => match d with
  | .lst ds => Q (.lst ds.reverse) E1
  | _ => False
theorem dn_listRev {e : Expr} {t : TD} {p p1 p2 : Pos} (hml : X.mg "list" = none) (hm : X.mg "reversed" = none) (he : DB C X e t) (hgl : Gl X "list" := by rfl) (hg : Gl X "reversed" := by rfl) (hc : X.calm = true := by rfl) (na : starEach [e] X.env = (false, eval e X.env) :: starEach [] X.env := by rfl)
    (nb : starEach [.Call (.Name "reversed" p1) [e] [] p2] X.env = (false, eval (.Call (.Name "reversed" p1) [e] [] p2) X.env) :: starEach [] X.env := by rfl) (hK : X.K = C.K := by rfl) : DN C X (.Call (.Name "list" p) [.Call (.Name "reversed" p1) [e] [] p2] [] pos) (tRevOf t) := by
  refine ⟨fun pins s σ H Q I h => ?_⟩
  obtain ⟨ps, Ep, E, Z, Qd, w, h, post⟩ := h
  refine Call_ (ld_blt I hgl hml boot_list (PyProof.Rows.callWith_type1 (args_cons (thn (Q := fun x s' => ∃ (s0 : Shared) (l : Addr) (its : List Value) (vs : List V) (ds : List D) (E1 : List S) (Z1 : Addr → Prop) (H1 : Hp), x = .ref s0.heap.objs.size ∧ s' = { s0 with heap := s0.heap.push (revObj l ((its.toArray.size : Int) - 1)) } ∧
    Inv X pins σ H1 s0 ∧ s0.heap.IsList l its.toArray ∧ Vals vs its ∧ vs.length ≤ sizeLine ∧ At C ps Ep Z1 σ E1 H1 ∧ Stp Z H Z1 H1 ∧ Reps C.K Z1 H1 vs ds ∧ Qd (.lst ds.reverse) E1) ?_ fun x s1 ⟨s0, l, its, vs, ds, E1, Z1, H1, ex, es, I0, hl, rv, hz, w1, st1, rs, q⟩ => args_nil ?_) nb) nb))
  · refine Call_ (ld_blt I hg hm (u := .type "reversed") (by first | rfl | decide +kernel) (PyProof.Rows.callWith_type1 (one_arg he I ⟨ps, Ep, E, Z, _, w, h, fun d E1 Z1 H1 v w1 st1 r1 h1 => ?_⟩ (fun u s2 y H2 I2 r2 (q : ∃ (l : Addr) (vs : List V) (ds : List D) (E1 : List S) (Z1 : Addr → Prop), y = .ref l ∧ SqL X.K H2 l vs ∧ At C ps Ep Z1 σ E1 H2 ∧ Stp Z H Z1 H2 ∧ Reps C.K Z1 H2 vs ds ∧ Qd (.lst ds.reverse) E1) => ?_) na) na))
    · split at h1
      · obtain ⟨a, vs, rfl, hs, rs⟩ := r1.lst
        exact ⟨a, vs, _, E1, Z1, rfl, hK ▸ hs, w1, st1, rs, h1⟩
      · cases h1
    · obtain ⟨l, vs, ds, E1, Z1, rfl, hs, w1, st1, rs, q⟩ := q
      cases (show u = Value.ref l from r2)
      obtain ⟨its, rv, pl, hz⟩ := I2.list hs
      refine call_reversed_list pl.isList ?_
      exact ⟨s2, l, its, vs, ds, E1, Z1, H2, rfl, rfl, I2, pl.isList, rv, hz, w1, st1, rs, q⟩
  · subst ex es
    have hne : l ≠ s0.heap.objs.size := by obtain ⟨_, e, _⟩ := hl; exact Nat.ne_of_lt (Heap.lt_size e)
    refine list_of_rev (I0.ok.hd hc) ⟨_, Heap.get?_push_size _ rfl, rfl, rfl⟩ (hl.push _) hne (by rw [List.size_toArray, ← rv.length]; exact hz) fun h' tk acc c hk hS hacc => ?_
    have hsz : (s0.heap.push (revObj l ((its.toArray.size : Int) - 1))).objs.size = s0.heap.objs.size + 1 := Heap.size_push ..
    have hold : ∀ b o, s0.heap.get? b = some o → h'.get? b = some o := fun b o e => hk b o (Nat.ne_of_lt (Heap.lt_size e)) (Heap.get?_push_of_some _ e)
    have ea := items_rev hacc
    have hf := I0.hok.fresh (a := (s0.heap.push (revObj l ((its.toArray.size : Int) - 1))).objs.size) (by rw [hsz]; exact Nat.le_succ _)
    obtain ⟨st2, w2⟩ := w1.push hf rs.reverse
    refine ⟨.ref _, upd H1 _ (.lst vs.reverse), I0.laid (t' := tk) hold (by rw [hsz]; exact Nat.le_succ _) (show ObjOk X.prog X.w _ _ _ (.lst vs.reverse) from ⟨by rw [List.length_reverse]; exact hz, acc.toList, c, by rw [ea]; exact valsRev rv, by rw [Array.toArray_toList]; exact hS⟩), rfl, post _ E1 Z1 _ _ w2 (st1.trans st2) q⟩
end
end DL
namespace DL
open PySem PySem.Spec PyProof.Rows L2
section
variable {C : Ctx} {X : Cx} {pos : Pos}
/-! ### == and != that only look -/
def MeetsB (C : Ctx) (o : O2) (r : R2) : Prop := ∀ (Z : Addr → Prop) (H : Hp) (v w : V) (x y : D) (q : D → Prop) (Q : VK), BRep C.K Z H v x → BRep C.K Z H w y → o x y q → (∀ z d, Rep C.K Z H z d → q d → Q z H) → r v w H Q
theorem ob_eq (hu : X.A.units + 64 < cLine) (hK : X.K = C.K := by rfl) : OpR X (compareOp .Eq) (rEqD X.K) ∧ MeetsB C oEq (rEqD X.K) := ⟨op_eqD hu, fun Z H v w x y q Q rx ry h k => by
  rw [hK]
  exact ⟨_, _, rx.dp (shp_lay h.1.1), ry.dp (shp_lay h.1.2), h.1.1, h.1.2, k _ _ (.bl _) h.2⟩⟩
theorem ob_ne (hu : X.A.units + 64 < cLine) (hK : X.K = C.K := by rfl) : OpR X (compareOp .NotEq) (rNeD X.K) ∧ MeetsB C oNe (rNeD X.K) := ⟨op_neD hu, fun Z H v w x y q Q rx ry h k => by
  rw [hK]
  exact ⟨_, _, rx.dp (shp_lay h.1.1), ry.dp (shp_lay h.1.2), h.1.1, h.1.2, k _ _ (.bl _) h.2⟩⟩
/-- first a name that is only looked at, then a plain second operand whose world goes on without touching it -/
def nameAt (E : List S) (i : Nat) (q : D → Prop) : Prop := match E[i]? with
  | some (.fr d) => q d
  | some (.ow t) => q t.fz
  | some (.mu t) => q t.fz
  | _ => False
def tCmpB (o : O2) (i : Nat) (tb : TD) : TB := fun E Q => (match E[i]? with | some s => s.knownB = true | none => False) ∧ tb E fun y E1 => nameAt E1 i fun x => o x y fun z => match z with
  | .bl k => Q k E1
  | _ => False
theorem dt_cmpB (i : Nat) {x : Str} {op : CmpOp} {o : O2} {r : R2} {b : Expr} {tb : TD} {pos' : Pos} (ho : OpR X (compareOp op) r ∧ MeetsB C o r) (hb : DE C X b tb) (hm : behindInMarks op b = false := by first | exact nomark _ | rfl) (hN : X.N[i]? = some x := by rfl)
    (hv : Vis X.env.scope x := by first | exact Or.inl rfl | exact Or.inr (Or.inl rfl) | exact Or.inr (Or.inr rfl)) (hd : (x == ("__debug__" : Str)) = false := by decide) (hcd : (x == ("__classdict__" : Str)) = false := by decide) : DT C X (.Compare (.Name x pos') [op] [b] pos) (tCmpB o i tb) :=
  (pt_cmpR ho.1 (pe_var hN hv hd hcd) hb hm).imp fun σ H Q ⟨ps, Ep, E, Z, Qd, w, ⟨hk, h⟩, post⟩ => by
    split at hk
    · rename_i s e
      obtain ⟨v, e1⟩ := w.known e hk
      refine ⟨v, e1, ps, Ep, E, Z, _, w, h, fun y E1 Z1 H1 u w1 st1 r1 h1 => ?_⟩
      have fin : ∀ x, BRep C.K Z1 H1 v x → (o x y fun z => match z with | .bl k => Qd k E1 | _ => False) → r v u H1 fun z H' => ∃ k, z = .bl k ∧ Q k H' := fun x rx hx => ho.2 Z1 H1 v u x y _ _ rx (.inl r1) hx fun z d rz q => by
        cases rz with
        | bl k => exact ⟨k, rfl, post k E1 Z1 H1 w1 st1 q⟩
        | _ => cases q
      unfold nameAt at h1
      split at h1
      · rename_i d e2
        obtain ⟨v', e3, r3⟩ := w1.get e2
        rw [e1] at e3; cases e3
        exact fin d (.inl r3) h1
      · rename_i t e2
        exact fin _ (w1.brep e2 rfl e1) h1
      · rename_i t e2
        exact fin _ (w1.brep e2 rfl e1) h1
      · cases h1
    · cases hk
end
end DL
namespace DL
open PySem PySem.Spec PyProof.Rows L2
/-- a promise of nothing -/
theorem fn_never {P : Program} {w : World} {K : Frg} {mg : Str → Option Value} {base : Heap} {CX : CXT} {k n : Nat} {f : Addr} {fd : FuncData} {ps : List Str} {sd : SpD} (h : ∀ a q, ¬ sd a q) : FnOk P w K mg base CX k f fd ps (spD K n sd) :=
  ⟨fun vs H Q E ⟨_, _, _, _, _, _, _, _, _, q, _⟩ => (h _ _ q).elim, fun A outer s H args us vs Q E _ _ _ _ ⟨_, _, _, _, _, _, _, _, _, q, _⟩ => (h _ _ q).elim⟩
end DL
set_option Elab.async false
set_option linter.all false
set_option maxRecDepth 100000
set_option maxHeartbeats 4000000
/-! DL, part k: plain facts on data. -/
namespace DL
open PySem PySem.Spec PyProof.Rows L2
theorem shpD {d : D} (h1 : d.py.canLay0 = true) (h2 : d.py.depth ≤ 64) : d.shp = true := Bool.and_eq_true_iff.mpr ⟨h1, decide_eq_true h2⟩
theorem layL {α : Type} (f : α → D) (h : ∀ a, (f a).py.canLay0 = true) : ∀ l : List α, PyData.canLayAll0 (D.pys (l.map f)) = true
  | [] => rfl
  | a :: l => Bool.and_eq_true_iff.mpr ⟨h a, layL f h l⟩
theorem depL {α : Type} (f : α → D) {n : Nat} (h : ∀ a, (f a).py.depth ≤ n) : ∀ l : List α, PyData.depthAll (D.pys (l.map f)) ≤ n
  | [] => Nat.zero_le _
  | a :: l => Nat.max_le.mpr ⟨h a, depL f h l⟩
theorem shpL {α : Type} (f : α → D) (h1 : ∀ a, (f a).py.canLay0 = true) (h2 : ∀ a, (f a).py.depth ≤ 60) (l : List α) : (D.lst (l.map f)).shp = true :=
  shpD (layL f h1 l) (Nat.le_trans (Nat.succ_le_succ (depL f h2 l)) (by decide))
theorem shp_ints (l : List Int) : (D.lst (l.map D.int)).shp = true := shpL D.int (fun _ => rfl) (fun _ => Nat.le_trans (Nat.le_of_eq rfl) (by decide : 0 ≤ 60)) l
/-- the place of a number in a list -/
theorem at_pos {ds : List D} {k : Int} {i : Nat} {d : D} (hk : k = i) (h : ds[i]? = some d) : atI ds k = some d := by
  have hi := (List.getElem?_eq_some_iff.mp h).1
  subst hk
  unfold atI ixN
  rw [if_pos (by omega), if_pos (by omega)]
  exact h
def pick3 (k x y z : Int) : Int := if k = 0 then x else if k = 1 then y else z
theorem at_3 (x y z : Int) {k : Int} (h0 : 0 ≤ k) (h : k < 3) : atI [D.int x, .int y, .int z] k = some (.int (pick3 k x y z)) := by
  have : k = 0 ∨ k = 1 ∨ k = 2 := by omega
  rcases this with rfl | rfl | rfl <;> rfl
theorem cut_tail (xs : List D) : cutD xs (some 1) none = xs.drop 1 := by
  have e0 : HT.sIx xs.length 0 (some 1) = min 1 xs.length := HT.sIx_nat _ _ 1
  have e1 : HT.sIx xs.length xs.length none = xs.length := rfl
  unfold cutD
  rw [e0, e1]
  by_cases h : xs = []
  · subst h; rfl
  · have : 1 ≤ xs.length := List.length_pos_iff.mpr h
    rw [show min 1 xs.length = 1 by omega]
    rw [List.take_of_length_le (by rw [List.length_drop]; exact Nat.le_refl _)]
theorem cut_init (xs : List D) (x : D) : cutD (xs ++ [x]) none (some (((xs ++ [x]).length : Int) - 1)) = xs := by
  have e0 : HT.sIx (xs ++ [x]).length 0 none = 0 := rfl
  have e1 : HT.sIx (xs ++ [x]).length (xs ++ [x]).length (some (((xs ++ [x]).length : Int) - 1)) = xs.length := by
    have e : (((xs ++ [x]).length : Int) - 1) = (xs.length : Int) := by rw [List.length_append, List.length_singleton]; omega
    rw [e, HT.sIx_nat, List.length_append, List.length_singleton]
    omega
  unfold cutD
  rw [e0, e1, List.drop_zero, Nat.sub_zero, List.take_left']
  rfl
theorem at_len (xs : List D) (x : D) : atI (xs ++ [x]) (((xs ++ [x]).length : Int) - 1) = some x := by
  refine at_pos (i := xs.length) (by rw [List.length_append, List.length_singleton]; omega) ?_
  rw [List.getElem?_append_right (Nat.le_refl _), Nat.sub_self]
  rfl
end DL
set_option Elab.async false
set_option linter.all false
set_option maxRecDepth 100000
set_option maxHeartbeats 4000000
namespace K51
open PySem PySem.Spec PyProof.Rows L2 DL
def topS (i : Nat) : Stmt := PySem.Challenge.pw_retroact_k51_forms_and_intervals.main.body.getD i (.Pass ⟨0, 0, 0, 0⟩)
abbrev s_l_deck : Stmt := topS 7
abbrev N_l_deck : List Str := ["_law_script"]
theorem sc_l_deck : FnScope N_l_deck ["_law_script"] (defScope s_l_deck) := ⟨rfl, rfl, rfl, by decide +kernel, rfl, by decide +kernel, by decide +kernel⟩
abbrev s_l_draw : Stmt := topS 8
abbrev N_l_draw : List Str := ["_law_deck_here", "_law_most", "_law_cell", "_law_value"]
theorem sc_l_draw : FnScope N_l_draw ["_law_deck_here", "_law_most"] (defScope s_l_draw) := ⟨rfl, rfl, rfl, by decide +kernel, rfl, by decide +kernel, by decide +kernel⟩
abbrev s_l_intervals : Stmt := topS 11
abbrev N_l_intervals : List Str := ["_law_deck_here", "_law_found", "_law_at", "_law_k", "_law_last"]
theorem sc_l_intervals : FnScope N_l_intervals ["_law_deck_here"] (defScope s_l_intervals) := ⟨rfl, rfl, rfl, by decide +kernel, rfl, by decide +kernel, by decide +kernel⟩
abbrev s_l_same : Stmt := topS 9
abbrev N_l_same : List Str := ["_law_actual", "_law_due", "_law_k"]
theorem sc_l_same : FnScope N_l_same ["_law_actual", "_law_due"] (defScope s_l_same) := ⟨rfl, rfl, rfl, by decide +kernel, rfl, by decide +kernel, by decide +kernel⟩
abbrev s_l_same_list : Stmt := topS 10
abbrev N_l_same_list : List Str := ["_law_actual", "_law_due", "_law_k"]
theorem sc_l_same_list : FnScope N_l_same_list ["_law_actual", "_law_due"] (defScope s_l_same_list) := ⟨rfl, rfl, rfl, by decide +kernel, rfl, by decide +kernel, by decide +kernel⟩
abbrev s_united : Stmt := topS 5
abbrev N_united : List Str := ["intervals", "found", "first", "last"]
theorem sc_united : FnScope N_united ["intervals"] (defScope s_united) := ⟨rfl, rfl, rfl, by decide +kernel, rfl, by decide +kernel, by decide +kernel⟩
abbrev s_part_at_least : Stmt := topS 3
abbrev N_part_at_least : List Str := ["form", "interval", "a", "b", "least", "greatest"]
theorem sc_part_at_least : FnScope N_part_at_least ["form", "interval"] (defScope s_part_at_least) := ⟨rfl, rfl, rfl, by decide +kernel, rfl, by decide +kernel, by decide +kernel⟩
abbrev s_value_at : Stmt := topS 1
abbrev N_value_at : List Str := ["form", "u"]
theorem sc_value_at : FnScope N_value_at ["form", "u"] (defScope s_value_at) := ⟨rfl, rfl, rfl, by decide +kernel, rfl, by decide +kernel, by decide +kernel⟩
abbrev s_bounds : Stmt := topS 2
abbrev N_bounds : List Str := ["form", "interval", "ends"]
theorem sc_bounds : FnScope N_bounds ["form", "interval"] (defScope s_bounds) := ⟨rfl, rfl, rfl, by decide +kernel, rfl, by decide +kernel, by decide +kernel⟩
abbrev s_parts_range : Stmt := topS 4
abbrev N_parts_range : List Str := ["intervals", "least", "greatest", "following", "first", "last"]
theorem sc_parts_range : FnScope N_parts_range ["intervals", "least", "greatest"] (defScope s_parts_range) := ⟨rfl, rfl, rfl, by decide +kernel, rfl, by decide +kernel, by decide +kernel⟩
abbrev s_law : Stmt := topS 12
abbrev N_law : List Str := ["_law_script", "_law_deck_here", "_law_size", "_law_form", "_law_least", "_law_interval", "_law_numbers", "_law_fitting", "_law_due", "_law_rows", "_law_first", "_law_last", "_law_row", "_law_covered", "_law_pair", "_law_u", "_law_proper", "_law_k"]
theorem sc_law : FnScope N_law ["_law_script"] (defScope s_law) := ⟨rfl, rfl, rfl, by decide +kernel, rfl, by decide +kernel, by decide +kernel⟩
structure Tx (K : Frg) (mg : Str → Option Value) where
  f_l_deck : Addr
  fd_l_deck : FuncData
  d_l_deck : Dn K mg "_law_deck" s_l_deck ["_law_script"] f_l_deck fd_l_deck
  f_l_draw : Addr
  fd_l_draw : FuncData
  d_l_draw : Dn K mg "_law_draw" s_l_draw ["_law_deck_here", "_law_most"] f_l_draw fd_l_draw
  f_l_intervals : Addr
  fd_l_intervals : FuncData
  d_l_intervals : Dn K mg "_law_intervals" s_l_intervals ["_law_deck_here"] f_l_intervals fd_l_intervals
  f_l_same : Addr
  fd_l_same : FuncData
  d_l_same : Dn K mg "_law_same" s_l_same ["_law_actual", "_law_due"] f_l_same fd_l_same
  f_l_same_list : Addr
  fd_l_same_list : FuncData
  d_l_same_list : Dn K mg "_law_same_list" s_l_same_list ["_law_actual", "_law_due"] f_l_same_list fd_l_same_list
  f_united : Addr
  fd_united : FuncData
  d_united : Dn K mg "united" s_united ["intervals"] f_united fd_united
  f_part_at_least : Addr
  fd_part_at_least : FuncData
  d_part_at_least : Dn K mg "part_at_least" s_part_at_least ["form", "interval"] f_part_at_least fd_part_at_least
  f_value_at : Addr
  fd_value_at : FuncData
  d_value_at : Dn K mg "value_at" s_value_at ["form", "u"] f_value_at fd_value_at
  f_bounds : Addr
  fd_bounds : FuncData
  d_bounds : Dn K mg "bounds" s_bounds ["form", "interval"] f_bounds fd_bounds
  f_parts_range : Addr
  fd_parts_range : FuncData
  d_parts_range : Dn K mg "parts_range" s_parts_range ["intervals", "least", "greatest"] f_parts_range fd_parts_range
  f_law : Addr
  fd_law : FuncData
  d_law : Dn K mg "law" s_law ["_law_script"] f_law fd_law
  m_min : mg "min" = none
  m_max : mg "max" = none
  m_len : mg "len" = none
  m_list : mg "list" = none
  m_int : mg "int" = none
  m_isinstance : mg "isinstance" = none
  m_str : mg "str" = none
  m_tuple : mg "tuple" = none
  m_range : mg "range" = none
  m_bool : mg "bool" = none
  m_reversed : mg "reversed" = none
variable {P : Program} {w : World} {K : Frg} {mg : Str → Option Value} {base : Heap}
end K51
set_option Elab.async false
set_option linter.all false
set_option maxRecDepth 100000
set_option maxHeartbeats 4000000
namespace K51
open PySem PySem.Spec PyProof.Rows L2 DL
variable {P : Program} {w : World} {K : Frg} {mg : Str → Option Value} {base : Heap}

def sd_value_at : SpD := fun args Q => ∃ a b u : Int, args = [.fr (.tup [.int a, .int b]), .fr (.int u)] ∧ -(2 ^ 64) < a ∧ a < 2 ^ 64 ∧ Q (.fr (.int (a * u + b))) [.un, .un]
theorem ok_value_at (T : Tx K mg) : FnOk P w K mg base CX0 1 T.f_value_at T.fd_value_at ["form", "u"] (spD K 2 sd_value_at) := by
  refine fn_D (k := 0) T.d_value_at.F sc_value_at (fun H0 Fm Z0 vs cdv A outer s H Ex hr =>
    have nd := sc_value_at.nd; have u64 := hr.units; have u65 := u65_of hr; have u70 := u70_of hr
    (dss_one (ds_ret (de_op o_add (de_op o_mul (de_ixo 0 de_int) (de_v 1)) (de_ixo 0 de_int))))) (fun args Qd hl h => ?_)
  obtain ⟨a, b, u, rfl, h1, h2, q⟩ := h
  conv => whnf
  refine ⟨rfl, ?_⟩
  conv => whnf
  refine ⟨.inl ⟨h1, h2⟩, ?_⟩
  conv => whnf
  refine ⟨rfl, ?_⟩
  conv => whnf
  exact ⟨(by decide : 2 ≤ 2), q⟩

def sd_bounds : SpD := fun args Q => ∃ a b u v : Int, args = [.fr (.tup [.int a, .int b]), .fr (.tup [.int u, .int v])] ∧ -(2 ^ 64) < a ∧ a < 2 ^ 64 ∧ Q (.fr (.tup [.int (min (a * u + b) (a * v + b)), .int (max (a * u + b) (a * v + b))])) [.un, .un]
theorem ok_bounds (T : Tx K mg) : FnOk P w K mg base CX0 2 T.f_bounds T.fd_bounds ["form", "interval"] (spD K 2 sd_bounds) := by
  have G_value_at := ok_value_at (P := P) (w := w) (base := base) T
  refine fn_D (k := 1) T.d_bounds.F sc_bounds (fun H0 Fm Z0 vs cdv A outer s H Ex hr =>
    have nd := sc_bounds.nd; have u64 := hr.units; have u65 := u65_of hr; have u70 := u70_of hr
    (dss_cons (ds_set 2 nd (de_tup (da_cons (dcall G_value_at T.d_value_at (hr.mono (by decide)) (dm_d (de_v 0) (dm_d (de_ixo 1 de_int) dm_nil))) (da_cons (dcall G_value_at T.d_value_at (hr.mono (by decide)) (dm_d (de_v 0) (dm_d (de_ixo 1 de_int) dm_nil))) da_nil))))
    (dss_one (ds_ret (de_tup (da_cons (de_b1 b_minT T.m_min (db_v 2)) (da_cons (de_b1 b_maxT T.m_max (db_v 2)) da_nil))))))) (fun args Qd hl h => ?_)
  obtain ⟨a, b, u, v, rfl, h1, h2, q⟩ := h
  conv => whnf
  refine ⟨rfl, ?_⟩
  conv => whnf
  refine ⟨rfl, a, b, u, rfl, h1, h2, ?_⟩
  conv => whnf
  refine ⟨rfl, ?_⟩
  conv => whnf
  refine ⟨rfl, a, b, v, rfl, h1, h2, ?_⟩
  conv => whnf
  refine ⟨rfl, ?_⟩
  conv => whnf
  refine ⟨[a * u + b, a * v + b], rfl, Nat.zero_lt_succ _, fun m m1 m2 => ?_⟩
  conv => whnf
  refine ⟨[a * u + b, a * v + b], rfl, Nat.zero_lt_succ _, fun M n1 n2 => ?_⟩
  conv => whnf
  refine ⟨(by decide : 2 ≤ 3), ?_⟩
  have e1 : m = min (a * u + b) (a * v + b) := by
    have x1 := m2 _ (List.mem_cons_self)
    have x2 := m2 _ (List.mem_cons_of_mem _ List.mem_cons_self)
    rw [if_neg Bool.false_ne_true] at x1 x2
    rcases List.mem_cons.mp m1 with e | e
    · omega
    · have e := List.mem_singleton.mp e
      omega
  have e2 : M = max (a * u + b) (a * v + b) := by
    have x1 := n2 _ (List.mem_cons_self)
    have x2 := n2 _ (List.mem_cons_of_mem _ List.mem_cons_self)
    rw [if_pos rfl] at x1 x2
    rcases List.mem_cons.mp n1 with e | e
    · omega
    · have e := List.mem_singleton.mp e
      omega
  rw [e1, e2]
  exact q

/-- the first and the last number of a form's part that is not below 0 -/
def pLo (a b lo : Int) : Int := if a > 0 then max lo (-(b / a)) else lo
def pHi (a b hi : Int) : Int := if a > 0 then hi else if a < 0 then min hi (b / -a) else hi
def part (a b lo hi : Int) : D := if a = 0 ∧ b < 0 then .non else if pLo a b lo > pHi a b hi then .non else .tup [.int (pLo a b lo), .int (pHi a b hi)]
def sd_part_at_least : SpD := fun args Q => ∃ a b lo hi : Int, args = [.fr (.tup [.int a, .int b]), .fr (.tup [.int lo, .int hi])] ∧ -1073741824 < a ∧ a < 1073741824 ∧ Q (.fr (part a b lo hi)) [.un, .un]
theorem max_if (i j : Int) : (if j > i then j else i) = max i j := by split <;> omega
theorem min_if (i j : Int) : (if j < i then j else i) = min i j := by split <;> omega
theorem ok_part_at_least (T : Tx K mg) : FnOk P w K mg base CX0 1 T.f_part_at_least T.fd_part_at_least ["form", "interval"] (spD K 2 sd_part_at_least) := by
  refine fn_D (k := 0) T.d_part_at_least.F sc_part_at_least (fun H0 Fm Z0 vs cdv A outer s H Ex hr =>
    have nd := sc_part_at_least.nd; have u64 := hr.units; have u65 := u65_of hr; have u70 := u70_of hr
    (dss_cons (ds_asg (de_v 0) (dg_tup (n := 2) (dgs_cons (dg_n 2 nd) (dgs_cons (dg_n 3 nd) dgs_nil))))
    (dss_cons (ds_asg (de_v 1) (dg_tup (n := 2) (dgs_cons (dg_n 4 nd) (dgs_cons (dg_n 5 nd) dgs_nil))))
    (dss_cons (ds_if (dt_cmp (o_gt) (de_v 2) de_int) (dss_one (ds_set 4 nd (de_b2 b_max2 (meets_I fun _ _ _ _ _ => .int _) T.m_max (de_v 4) (de_neg (de_op o_fdiv (de_v 3) (de_v 2)))))) (dss_one (ds_if (dt_cmp (o_lt) (de_v 2) de_int) (dss_one (ds_set 5 nd (de_b2 b_min2 (meets_I fun _ _ _ _ _ => .int _) T.m_min (de_v 5) (de_op o_fdiv (de_v 3) (de_neg (de_v 2)))))) (dss_one (ds_if (dt_cmp (o_lt) (de_v 3) de_int) (dss_one (ds_ret de_non)) dss_nil)))))
    (dss_cons (ds_if (dt_cmp (o_gt) (de_v 4) (de_v 5)) (dss_one (ds_ret de_non)) dss_nil)
    (dss_one (ds_ret (de_tup (da_cons (de_v 4) (da_cons (de_v 5) da_nil)))))))))) (fun args Qd hl h => ?_)
  obtain ⟨a, b, lo, hi, rfl, h1, h2, q⟩ := h
  have fin : ∀ (lo' hi' : Int), pLo a b lo = lo' → pHi a b hi = hi' → ¬ (a = 0 ∧ b < 0) → (hi' < lo' → Qd (.fr .non) [.un, .un]) ∧ (¬ hi' < lo' → Qd (.fr (.tup [.int lo', .int hi'])) [.un, .un]) := by
    intro lo' hi' e1 e2 e3
    unfold part at q
    rw [if_neg e3, e1, e2] at q
    refine ⟨fun h => ?_, fun h => ?_⟩
    · rw [if_pos h] at q; exact q
    · rw [if_neg h] at q; exact q
  conv => whnf
  refine ⟨rfl, ?_⟩
  conv => whnf
  refine ⟨rfl, ?_⟩
  conv => whnf
  refine ⟨rfl, ?_⟩
  conv => whnf
  refine ⟨rfl, ?_⟩
  conv => whnf
  refine ⟨rfl, ?_⟩
  conv => whnf
  refine ⟨rfl, ?_⟩
  conv => whnf
  refine br (fun ha => ?_) fun ha => ?_
  · have ha := of_decide_eq_true ha
    conv => whnf
    refine ⟨⟨ha, h2⟩, ?_⟩
    conv => whnf
    refine ⟨rfl, ?_⟩
    conv => whnf
    have g := fin _ _ (by unfold pLo; rw [if_pos ha, ← max_if]) (by unfold pHi; rw [if_pos ha]) (by omega)
    exact br (fun h => ⟨(by decide : 2 ≤ 6), g.1 (of_decide_eq_true h)⟩) fun h => ⟨(by decide : 2 ≤ 6), g.2 (of_decide_eq_false h)⟩
  · have ha := of_decide_eq_false ha
    conv => whnf
    refine br (fun hb => ?_) fun hb => ?_
    · have hb := of_decide_eq_true hb
      conv => whnf
      refine ⟨⟨by omega, by omega⟩, ?_⟩
      conv => whnf
      refine ⟨rfl, ?_⟩
      conv => whnf
      have g := fin _ _ (by unfold pLo; rw [if_neg ha]) (by unfold pHi; rw [if_neg ha, if_pos hb, ← min_if]) (by omega)
      exact br (fun h => ⟨(by decide : 2 ≤ 6), g.1 (of_decide_eq_true h)⟩) fun h => ⟨(by decide : 2 ≤ 6), g.2 (of_decide_eq_false h)⟩
    · have hb := of_decide_eq_false hb
      conv => whnf
      refine br (fun hc => ?_) fun hc => ?_
      · have hc := of_decide_eq_true hc
        conv => whnf
        refine ⟨(by decide : 2 ≤ 6), ?_⟩
        unfold part at q
        rw [if_pos ⟨by omega, hc⟩] at q
        exact q
      · have hc := of_decide_eq_false hc
        conv => whnf
        have g := fin _ _ (by unfold pLo; rw [if_neg ha]) (by unfold pHi; rw [if_neg ha, if_neg hb]) (by omega)
        exact br (fun h => ⟨(by decide : 2 ≤ 6), g.1 (of_decide_eq_true h)⟩) fun h => ⟨(by decide : 2 ≤ 6), g.2 (of_decide_eq_false h)⟩

def pr (p : Int × Int) : D := .tup [.int p.1, .int p.2]
def chain : List (Int × Int) → Int → Option Int
  | [], x => some x
  | (f, l) :: r, x => if f = x ∧ f ≤ l then chain r (l + 1) else none
theorem map_at {α : Type} {f : α → D} {l : List α} {i : Nat} {d : D} (h : (l.map f)[i]? = some d) : ∃ z, d = f z ∧ l[i]? = some z := by
  rw [List.getElem?_map] at h
  cases e : l[i]? with
  | none => rw [e] at h; cases h
  | some z => rw [e] at h; cases h; exact ⟨z, rfl, rfl⟩
theorem eqv_int (i j : Int) : (D.int i).eqv (.int j) = decide (i = j) := by
  show (i == j) = _
  by_cases h : i = j
  · subst h; simp
  · simp [h]
theorem drop_at {α : Type} {l : List α} {i : Nat} {z : α} (h : l[i]? = some z) : l.drop i = z :: l.drop (i + 1) := by
  obtain ⟨h1, h2⟩ := List.getElem?_eq_some_iff.mp h
  rw [List.drop_eq_getElem_cons h1, h2]
def sd_parts_range : SpD := fun args Q => ∃ (ps : List (Int × Int)) (lo hi : Int), args = [.fr (.lst (ps.map pr)), .fr (.int lo), .fr (.int hi)] ∧ Q (.fr (.bl (decide (chain ps lo = some (hi + 1))))) [.un, .un, .un]
theorem ok_parts_range (T : Tx K mg) : FnOk P w K mg base CX0 1 T.f_parts_range T.fd_parts_range ["intervals", "least", "greatest"] (spD K 3 sd_parts_range) := by
  refine fn_D (k := 0) T.d_parts_range.F sc_parts_range (fun H0 Fm Z0 vs cdv A outer s H Ex hr =>
    have nd := sc_parts_range.nd; have u64 := hr.units; have u65 := u65_of hr; have u70 := u70_of hr
    (dss_cons (ds_set 3 nd (de_v 1))
    (dss_cons (ds_for PassesOwn.never (di_seq (de_v 0)) (dg_tup (n := 2) (dgs_cons (dg_n 4 nd) (dgs_cons (dg_n 5 nd) dgs_nil))) (dss_cons (ds_if (dt_w (dw_or (dt_cmp (o_ne u64) (de_v 4) (de_v 3)) (dw_or1 (dt_cmp (o_lt) (de_v 5) (de_v 4))))) (dss_one (ds_ret de_bl)) dss_nil)
    (dss_one (ds_set 3 nd (de_op o_add (de_v 5) de_int)))))
    (dss_one (ds_ret (de_cmp (o_eq u64) (de_v 3) (de_op o_add (de_v 2) de_int))))))) (fun args Qd hl h => ?_)
  obtain ⟨ps, lo, hi, rfl, q⟩ := h
  conv => whnf
  refine ⟨rfl, ?_⟩
  conv => whnf
  refine ⟨fun i E => ∃ (x : Int) (x4 x5 : S), E = [.fr (.lst (ps.map pr)), .fr (.int lo), .fr (.int hi), .fr (.int x), x4, x5] ∧ (S.free (some x4) = true ∧ S.free (some x5) = true) ∧ chain (ps.drop i) x = chain ps lo,
    ⟨lo, .un, .un, rfl, ⟨rfl, rfl⟩, rfl⟩, fun i d E' hd hi' => ?_, fun E' hi' => ?_⟩
  · obtain ⟨⟨f, l⟩, rfl, hz⟩ := map_at hd
    obtain ⟨x, x4, x5, rfl, ⟨f4, f5⟩, hc⟩ := hi'
    rw [drop_at hz] at hc
    conv => whnf
    refine ⟨rfl, ?_⟩
    conv => whnf
    refine ⟨f4, ?_⟩
    conv => whnf
    refine ⟨f5, ?_⟩
    conv => whnf
    refine ⟨⟨rfl, rfl⟩, ?_⟩
    have no : ¬ (f = x ∧ f ≤ l) → (3 ≤ 6 ∧ Qd (.fr (.bl false)) [.un, .un, .un]) := fun n => by
      refine ⟨by decide, ?_⟩
      have e : chain ps lo = none := by rw [← hc]; unfold chain; rw [if_neg n]
      rw [e] at q
      exact q
    refine br (fun h => ?_) fun h => ?_
    · conv => whnf
      refine brT rfl ?_
      conv => whnf
      rw [eqv_int] at h
      have h := of_decide_eq_false (by simpa using h)
      exact no fun n => h n.1
    · rw [eqv_int] at h
      have h := of_decide_eq_true (by simpa using h)
      conv => whnf
      refine br (fun h2 => ?_) fun h2 => ?_
      · conv => whnf
        have h2 := of_decide_eq_true h2
        exact no (by omega)
      · conv => whnf
        have h2 := of_decide_eq_false h2
        refine ⟨rfl, l + 1, _, _, rfl, ⟨rfl, rfl⟩, ?_⟩
        rw [← hc]
        show _ = if f = x ∧ f ≤ l then chain (ps.drop (i + 1)) (l + 1) else none
        rw [if_pos ⟨h, by omega⟩]
  · obtain ⟨x, x4, x5, rfl, ⟨f4, f5⟩, hc⟩ := hi'
    conv => whnf
    refine ⟨⟨rfl, rfl⟩, (by decide : 3 ≤ 6), ?_⟩
    rw [List.length_map, List.drop_length] at hc
    have e : chain ps lo = some x := hc.symm
    rw [e] at q
    rw [eqv_int]
    have e2 : decide (some x = some (hi + 1)) = decide (x = hi + 1) := by
      by_cases h : x = hi + 1
      · subst h; simp
      · simp [h]
    rw [← e2]
    exact q
end K51
set_option Elab.async false
set_option linter.all false
set_option maxRecDepth 100000
set_option maxHeartbeats 4000000
namespace K51
open PySem PySem.Spec PyProof.Rows L2 DL
variable {P : Program} {w : World} {K : Frg} {mg : Str → Option Value} {base : Heap}

def uStep (acc : List (Int × Int)) (p : Int × Int) : List (Int × Int) := match acc.getLast? with
  | some z => if z.2 + 1 = p.1 then acc.dropLast ++ [(z.1, p.2)] else acc ++ [p]
  | none => [p]
theorem uStep_nil (p : Int × Int) : uStep [] p = [p] := rfl
theorem uStep_snoc (acc : List (Int × Int)) (z p : Int × Int) : uStep (acc ++ [z]) p = if z.2 + 1 = p.1 then acc ++ [(z.1, p.2)] else acc ++ [z] ++ [p] := by
  unfold uStep
  rw [List.getLast?_concat]
  dsimp only
  rw [List.dropLast_concat]
theorem uStep_len (acc : List (Int × Int)) (p : Int × Int) : (uStep acc p).length ≤ acc.length + 1 := by
  rcases List.eq_nil_or_concat acc with e | ⟨a, z, e⟩
  · subst e; rw [uStep_nil]; exact Nat.le_refl _
  · rw [List.concat_eq_append] at e
    subst e
    rw [uStep_snoc]
    split <;> simp
theorem snoc_pr (l : List (Int × Int)) (p : Int × Int) : l.map pr ++ [pr p] = (l ++ [p]).map pr := by rw [List.map_append]; rfl
theorem fold_take {α β : Type} (f : β → α → β) (b : β) {l : List α} {i : Nat} {z : α} (h : l[i]? = some z) : (l.take (i + 1)).foldl f b = f ((l.take i).foldl f b) z := by
  rw [List.take_add_one, h, List.foldl_append]
  rfl
theorem at_last (l : List D) (z : D) : atI (l ++ [z]) (-1) = some z := by
  have e : ixN (l ++ [z]).length (-1) = some l.length := by
    rw [List.length_append, List.length_singleton]
    unfold ixN
    rw [if_neg (by omega), if_pos (by omega)]
    congr 1
    omega
  unfold atI
  rw [e]
  show (l ++ [z])[l.length]? = some z
  rw [List.getElem?_append_right (Nat.le_refl _), Nat.sub_self]
  rfl
def sd_united : SpD := fun args Q => ∃ ps : List (Int × Int), args = [.fr (.lst (ps.map pr))] ∧ ps.length ≤ 1000 ∧ Q (.ow (.lst ((ps.foldl uStep []).map pr))) [.un]
theorem ok_united (T : Tx K mg) : FnOk P w K mg base CX0 1 T.f_united T.fd_united ["intervals"] (spD K 1 sd_united) := by
  refine fn_D (k := 0) T.d_united.F sc_united (fun H0 Fm Z0 vs cdv A outer s H Ex hr =>
    have nd := sc_united.nd; have u64 := hr.units; have u65 := u65_of hr; have u70 := u70_of hr
    (dss_cons (ds_setn 1 nd (dn_lst da_nil))
    (dss_cons (ds_for PassesOwn.never (di_seq (de_v 0)) (dg_tup (n := 2) (dgs_cons (dg_n 2 nd) (dgs_cons (dg_n 3 nd) dgs_nil))) (dss_one (ds_if (dt_w (dw_and (dt_cmp (o_gt) (de_b1 b_len T.m_len (db_v 1)) de_int) (dw_and1 (dt_cmp (o_eq u64) (de_op o_add (de_ix (de_ixo 1 (de_neg de_int)) de_int) de_int) (de_v 2))))) (dss_one (ds_expr (de_append 1 (de_tup (da_cons (de_ix (de_pop 1) de_int) (da_cons (de_v 3) da_nil)))))) (dss_one (ds_expr (de_append 1 (de_tup (da_cons (de_v 2) (da_cons (de_v 3) da_nil)))))))))
    (dss_one (ds_retv 1))))) (fun args Qd hl h => ?_)
  obtain ⟨ps, rfl, hn, q⟩ := h
  conv => whnf
  refine ⟨rfl, ?_⟩
  conv => whnf
  refine ⟨fun i E => ∃ (x2 x3 : S), E = [.fr (.lst (ps.map pr)), .ow (.lst (((ps.take i).foldl uStep []).map pr)), x2, x3] ∧ (S.free (some x2) = true ∧ S.free (some x3) = true) ∧ ((ps.take i).foldl uStep []).length ≤ i,
    ⟨.un, .un, rfl, ⟨rfl, rfl⟩, Nat.le_refl _⟩, fun i d E' hd hi => ?_, fun E' hi => ?_⟩
  · obtain ⟨⟨f, l⟩, rfl, hz⟩ := map_at hd
    obtain ⟨x2, x3, rfl, ⟨f2, f3⟩, hl⟩ := hi
    have hi := (List.getElem?_eq_some_iff.mp hz).1
    have ef := fold_take uStep [] hz
    have hl2 : ((ps.take (i + 1)).foldl uStep []).length ≤ i + 1 := by
      rw [ef]
      have := uStep_len ((ps.take i).foldl uStep []) (f, l)
      omega
    generalize (ps.take i).foldl uStep [] = acc at *
    conv => whnf
    refine ⟨rfl, ?_⟩
    conv => whnf
    refine ⟨f2, ?_⟩
    conv => whnf
    refine ⟨f3, ?_⟩
    conv => whnf
    rcases List.eq_nil_or_concat acc with e | ⟨a, ⟨z1, z2⟩, e⟩
    · subst e
      refine brF rfl ?_
      conv => whnf
      refine brF rfl ?_
      conv => whnf
      refine ⟨by decide, ?_⟩
      exact ⟨_, _, by rw [ef]; rfl, ⟨rfl, rfl⟩, hl2⟩
    · rw [List.concat_eq_append] at e
      subst e
      rw [uStep_snoc] at ef
      have hlen : (List.map pr (a ++ [(z1, z2)])).length = a.length + 1 := by simp
      refine brT (by rw [hlen]; exact decide_eq_true (by omega)) ?_
      conv => whnf
      refine ⟨rfl, ?_⟩
      conv => whnf
      rw [← snoc_pr, at_last]
      conv => whnf
      refine ⟨⟨rfl, rfl⟩, ?_⟩
      conv => whnf
      rw [eqv_int]
      refine br (fun h => ?_) fun h => ?_
      · have h := of_decide_eq_true h
        rw [if_pos h] at ef
        conv => whnf
        refine popOw (init := a.map pr) (d := pr (z1, z2)) rfl ?_
        conv => whnf
        refine ⟨by rw [List.length_map, sizeLine_eq]; simp at hl; omega, ?_⟩
        exact ⟨_, _, by rw [ef, List.map_append]; rfl, ⟨rfl, rfl⟩, hl2⟩
      · have h := of_decide_eq_false h
        rw [if_neg h] at ef
        conv => whnf
        refine ⟨by rw [List.length_append, List.length_map, sizeLine_eq]; simp at hl ⊢; omega, ?_⟩
        exact ⟨_, _, by rw [ef, List.map_append, List.map_append]; rfl, ⟨rfl, rfl⟩, hl2⟩
  · obtain ⟨x2, x3, rfl, _, hl⟩ := hi
    rw [List.length_map, List.take_length]
    conv => whnf
    exact ⟨(by decide : 1 ≤ 4), q⟩

def dk (ns : List Int) (a b c : Int) : T := .lst [.lst (ns.map D.int), .int a, .int b, .int c]
def sd_l_deck : SpD := fun args Q => ∃ ns : List Int, args = [.fr (.scr (ns.map D.int))] ∧ Q (.ow (dk ns 0 0 7)) [.un]
theorem ok_l_deck (T : Tx K mg) : FnOk P w K mg base CX0 1 T.f_l_deck T.fd_l_deck ["_law_script"] (spD K 1 sd_l_deck) := by
  refine fn_D (k := 0) T.d_l_deck.F sc_l_deck (fun H0 Fm Z0 vs cdv A outer s H Ex hr =>
    have nd := sc_l_deck.nd; have u64 := hr.units; have u65 := u65_of hr; have u70 := u70_of hr
    (dss_one (ds_retn (dn_lst (da_cons (de_n (dn_list T.m_list (db_v 0))) (da_cons de_int (da_cons de_int (da_cons de_int da_nil)))))))) (fun args Qd hl h => ?_)
  obtain ⟨ns, rfl, q⟩ := h
  conv => whnf
  exact ⟨(by decide : 1 ≤ 1), q⟩

theorem wdiv {j : Int} (h : 0 < j) (hb : j < 1099511627776) : CDivW i j := wide_div (b := 41) h (by omega) (by decide) (by decide)
theorem at_int {ns : List Int} {i : Int} (h0 : 0 ≤ i) (h : i < ns.length) : ∃ z, atI (ns.map D.int) i = some (.int z) := by
  unfold atI ixN
  rw [if_pos h0, if_pos (by rw [List.length_map]; exact h)]
  refine ⟨ns[i.toNat]'(by omega), ?_⟩
  show (ns.map D.int)[i.toNat]? = _
  rw [List.getElem?_map, List.getElem?_eq_getElem (by omega)]
  rfl
def sd_l_draw : SpD := fun args Q => ∃ (ns : List Int) (a b c m : Int), args = [.mu (dk ns a b c), .fr (.int m)] ∧ 0 ≤ a ∧ 0 < m ∧ m < 1099511627776 ∧ ∀ (r a' b' c' : Int), 0 ≤ r → r < m → 0 ≤ a' → Q (.fr (.int r)) [.mu (dk ns a' b' c'), .un]
theorem ok_l_draw (T : Tx K mg) : FnOk P w K mg base CX0 1 T.f_l_draw T.fd_l_draw ["_law_deck_here", "_law_most"] (spD K 2 sd_l_draw) := by
  refine fn_D (k := 0) T.d_l_draw.F sc_l_draw (fun H0 Fm Z0 vs cdv A outer s H Ex hr =>
    have nd := sc_l_draw.nd; have u64 := hr.units; have u65 := u65_of hr; have u70 := u70_of hr
    (dss_cons (ds_if (dt_cmp (o_ge) (de_ixo 0 de_int) (de_v 1)) (dss_cons (ds_set 3 nd (de_op o_mod (de_t1 b_int T.m_int (db_e (de_ixo 0 de_int))) (de_v 1)))
    (dss_cons (ds_setix 0 de_int (de_op o_fdivW (de_ixo 0 de_int) (de_v 1)))
    (dss_one (ds_ret (de_v 3))))) dss_nil)
    (dss_cons (ds_set 2 nd de_int)
    (dss_join (ds_if (dt_cmp (o_lt) (de_ixo 0 de_int) (de_b1 b_len T.m_len (db_e (de_ixo 0 de_int)))) (dss_one (ds_set 2 nd (de_ix (de_ixo 0 de_int) (de_ixo 0 de_int)))) dss_nil)
    (dss_cons (ds_setix 0 de_int (de_op o_add (de_ixo 0 de_int) de_int))
    (dss_cons (ds_setix 0 de_int de_int)
    (dss_cons (ds_if (dt_cmp (o_ge) (de_v 2) (de_op o_pow de_int de_int)) (dss_cons (ds_setix 0 de_int (de_op o_fdivW (de_v 2) (de_v 1)))
    (dss_one (ds_ret (de_op o_mod (de_t1 b_int T.m_int (db_v 2)) (de_v 1))))) dss_nil)
    (dss_cons (ds_setix 0 de_int (de_op o_mod (de_t1 b_int T.m_int (db_e (de_op o_add (de_op o_add (de_op o_mul (de_ixo 0 de_int) de_int) (de_op o_mul (de_v 2) de_int)) (de_op o_mul (de_ixo 0 de_int) de_int)))) de_int))
    (dss_cons (ds_setix 0 de_int (de_op o_mod (de_t1 b_int T.m_int (db_e (de_op o_add (de_op o_mul (de_ixo 0 de_int) de_int) de_int))) de_int))
    (dss_one (ds_ret (de_op o_mod (de_t1 b_int T.m_int (db_e (de_op o_fdivW (de_ixo 0 de_int) de_int))) (de_v 1))))))))))))) (fun args Qd hl h => ?_)
  obtain ⟨ns, a, b, c, m, rfl, ha, hm, hm2, q⟩ := h
  have md : ∀ x : Int, 0 ≤ x % m ∧ x % m < m := fun x => ⟨Int.emod_nonneg _ (by omega), Int.emod_lt_of_pos _ hm⟩
  conv => whnf
  refine ⟨rfl, ?_⟩
  conv => whnf
  refine br (fun _ => ?_) fun _ => ?_
  · conv => whnf
    refine ⟨rfl, ?_⟩
    conv => whnf
    refine ⟨hm, ?_⟩
    conv => whnf
    refine ⟨rfl, ?_⟩
    conv => whnf
    refine ⟨rfl, ?_⟩
    conv => whnf
    refine ⟨wdiv hm hm2, ?_⟩
    conv => whnf
    exact ⟨(by decide : 2 ≤ 4), q _ _ _ _ (md _).1 (md _).2 ha⟩
  · conv => whnf
    refine ⟨rfl, ?_⟩
    refine ⟨fun E => ∃ z : Int, E = [.mu (dk ns a b c), .fr (.int m), .fr (.int z), .un], ?_, ?_⟩
    · conv => whnf
      refine ⟨rfl, ?_⟩
      conv => whnf
      refine ⟨rfl, ?_⟩
      conv => whnf
      refine br (fun h => ?_) fun _ => ?_
      · have h := of_decide_eq_true h
        conv => whnf
        refine ⟨rfl, ?_⟩
        conv => whnf
        refine ⟨rfl, ?_⟩
        conv => whnf
        obtain ⟨z, hz⟩ := at_int ha (by simpa using h)
        rw [hz]
        exact ⟨rfl, z, rfl⟩
      · exact ⟨0, rfl⟩
    · rintro E' ⟨z, rfl⟩
      conv => whnf
      refine ⟨rfl, ?_⟩
      conv => whnf
      refine ⟨⟨by decide, by decide, by decide⟩, ?_⟩
      conv => whnf
      refine br (fun _ => ?_) fun _ => ?_
      · conv => whnf
        refine ⟨wdiv hm hm2, ?_⟩
        conv => whnf
        refine ⟨hm, ?_⟩
        conv => whnf
        exact ⟨(by decide : 2 ≤ 4), q _ _ _ _ (md _).1 (md _).2 (by omega)⟩
      · conv => whnf
        refine ⟨rfl, ?_⟩
        conv => whnf
        refine ⟨.inr (by decide), ?_⟩
        conv => whnf
        refine ⟨.inr (by decide), ?_⟩
        conv => whnf
        refine ⟨rfl, ?_⟩
        conv => whnf
        refine ⟨.inr (by decide), ?_⟩
        conv => whnf
        refine ⟨(by decide : (0 : Int) < 2147483647), ?_⟩
        conv => whnf
        refine ⟨rfl, ?_⟩
        conv => whnf
        refine ⟨.inr (by decide), ?_⟩
        conv => whnf
        refine ⟨(by decide : (0 : Int) < 2147483647), ?_⟩
        conv => whnf
        refine ⟨rfl, ?_⟩
        conv => whnf
        refine ⟨wdiv (by decide) (by decide), ?_⟩
        conv => whnf
        refine ⟨hm, ?_⟩
        conv => whnf
        exact ⟨(by decide : 2 ≤ 4), q _ _ _ _ (md _).1 (md _).2 (by omega)⟩
end K51
set_option Elab.async false
set_option linter.all false
set_option maxRecDepth 100000
set_option maxHeartbeats 4000000
namespace K51
open PySem PySem.Spec PyProof.Rows L2 DL
variable {P : Program} {w : World} {K : Frg} {mg : Str → Option Value} {base : Heap}

def okD : Nat → D → Bool
  | _, .non => true
  | _, .bl _ => true
  | _, .int _ => true
  | _, .str x => (D.str x).shp
  | k + 1, .tup ds => ds.all (okD k) && decide (ds.length ≤ 100000)
  | k + 1, .lst ds => ds.all (okD k) && decide (ds.length ≤ 100000)
  | _, _ => false
def sdSame : Nat → SpD
  | 0 => fun _ _ => False
  | k + 1 => fun args Q => ∃ d, args = [.fr d, .fr d] ∧ okD k d = true ∧ Q (.fr (.bl true)) [.un, .un]
theorem atI_nat {ds : List D} {i : Nat} {d : D} (h : ds[i]? = some d) : atI ds (0 + (i : Int)) = some d := by
  have hi := (List.getElem?_eq_some_iff.mp h).1
  unfold atI ixN
  rw [if_pos (by omega), if_pos (by omega)]
  show ds[(0 + (i : Int)).toNat]? = _
  rw [show (0 + (i : Int)).toNat = i by omega]
  exact h
theorem all_at {ds : List D} {p : D → Bool} (h : ds.all p = true) {i : Nat} {d : D} (e : ds[i]? = some d) : p d = true := List.all_eq_true.mp h d (List.mem_of_getElem? e)
theorem eqv_str (x : Str) : (D.str x).eqv (.str x) = true := by
  show (x == x) = true
  simp
theorem st_l_same (T : Tx K mg) {k : Nat} (hk : 0 ≤ k) {sd0 : SpD} {n : Nat} (hs : sd0 = sdSame n) (G_l_same : FnOk P w K mg base CX0 k T.f_l_same T.fd_l_same ["_law_actual", "_law_due"] (spD K 2 sd0)) : FnOk P w K mg base CX0 (k + 1) T.f_l_same T.fd_l_same ["_law_actual", "_law_due"] (spD K 2 (sdSame (n + 1))) := by
  refine fn_D (k := k) T.d_l_same.F sc_l_same (fun H0 Fm Z0 vs cdv A outer s H Ex hr =>
    have nd := sc_l_same.nd; have u64 := hr.units; have u65 := u65_of hr; have u70 := u70_of hr
    (dss_cons (ds_if (dt_w (dw_or (dt_b (db_e (de_isi (T := "tuple") T.m_isinstance T.m_tuple (db_v 1)))) (dw_or1 (dt_b (db_e (de_isi (T := "list") T.m_isinstance T.m_list (db_v 1))))))) (dss_cons (ds_if (dt_w (dw_or (dt_cmp (o_ne u64) (de_isi (T := "tuple") T.m_isinstance T.m_tuple (db_v 1)) (de_isi (T := "tuple") T.m_isinstance T.m_tuple (db_v 0))) (dw_or1 (dt_cmp (o_ne u64) (de_isi (T := "list") T.m_isinstance T.m_list (db_v 1)) (de_isi (T := "list") T.m_isinstance T.m_list (db_v 0)))))) (dss_one (ds_ret de_bl)) dss_nil)
    (dss_cons (ds_if (dt_cmp (o_ne u64) (de_b1 b_len T.m_len (db_v 0)) (de_b1 b_len T.m_len (db_v 1))) (dss_one (ds_ret de_bl)) dss_nil)
    (dss_cons (ds_for PassesOwn.never (di_range1 rfl T.m_range (de_b1 b_len T.m_len (db_v 1))) (dg_n 2 nd) (dss_one (ds_if (dt_not (dt_b (db_e (dcall G_l_same T.d_l_same (hr.mono (Nat.le_refl _)) (dm_d (de_ixo 0 (de_v 2)) (dm_d (de_ixo 1 (de_v 2)) dm_nil)))))) (dss_one (ds_ret de_bl)) dss_nil)))
    (dss_one (ds_ret de_bl))))) dss_nil)
    (dss_cons (ds_if (dt_w (dw_or (dt_b (db_e (de_isi (T := "bool") T.m_isinstance T.m_bool (db_v 1)))) (dw_or1 (dt_b (db_e (de_isi (T := "bool") T.m_isinstance T.m_bool (db_v 0))))))) (dss_one (ds_ret (de_and (de_isi (T := "bool") T.m_isinstance T.m_bool (db_v 1)) (de_and (de_isi (T := "bool") T.m_isinstance T.m_bool (db_v 0)) (de_one (de_cmp (o_eq u64) (de_v 1) (de_v 0))))))) dss_nil)
    (dss_cons (ds_if (dt_b (db_e (de_isi (T := "int") T.m_isinstance T.m_int (db_v 1)))) (dss_one (ds_ret (de_and (de_isi (T := "int") T.m_isinstance T.m_int (db_v 0)) (de_one (de_cmp (o_eq u64) (de_v 0) (de_v 1)))))) dss_nil)
    (dss_cons (ds_if (dt_b (db_e (de_isi (T := "str") T.m_isinstance T.m_str (db_v 1)))) (dss_one (ds_ret (de_and (de_isi (T := "str") T.m_isinstance T.m_str (db_v 0)) (de_one (de_cmp (o_eq u64) (de_v 0) (de_v 1)))))) dss_nil)
    (dss_one (ds_ret (de_and (de_cmp (o_is) (de_v 1) de_non) (de_one (de_cmp (o_is) (de_v 0) de_non)))))))))) (fun args Qd hl h => ?_)
  subst hs
  obtain ⟨d, rfl, hd, q⟩ := h
  cases d with
  | non =>
    conv => whnf
    refine ⟨rfl, false, (by decide +kernel : kitB "NoneType" "tuple" = some false), ?_⟩
    conv => whnf
    refine brF rfl ?_
    conv => whnf
    refine ⟨rfl, false, (by decide +kernel : kitB "NoneType" "list" = some false), ?_⟩
    conv => whnf
    refine brF rfl ?_
    conv => whnf
    refine ⟨rfl, false, (by decide +kernel : kitB "NoneType" "bool" = some false), ?_⟩
    conv => whnf
    refine brF rfl ?_
    conv => whnf
    refine ⟨rfl, false, (by decide +kernel : kitB "NoneType" "bool" = some false), ?_⟩
    conv => whnf
    refine brF rfl ?_
    conv => whnf
    refine ⟨rfl, false, (by decide +kernel : kitB "NoneType" "int" = some false), ?_⟩
    conv => whnf
    refine brF rfl ?_
    conv => whnf
    refine ⟨rfl, false, (by decide +kernel : kitB "NoneType" "str" = some false), ?_⟩
    conv => whnf
    refine brF rfl ?_
    conv => whnf
    refine brT rfl ?_
    conv => whnf
    exact ⟨(by decide : 2 ≤ 3), q⟩
  | bl b =>
    conv => whnf
    refine ⟨rfl, false, (by decide +kernel : kitB "bool" "tuple" = some false), ?_⟩
    conv => whnf
    refine brF rfl ?_
    conv => whnf
    refine ⟨rfl, false, (by decide +kernel : kitB "bool" "list" = some false), ?_⟩
    conv => whnf
    refine brF rfl ?_
    conv => whnf
    refine ⟨rfl, true, (by decide +kernel : kitB "bool" "bool" = some true), ?_⟩
    conv => whnf
    refine brT rfl ?_
    conv => whnf
    refine brT rfl ?_
    conv => whnf
    refine ⟨rfl, true, (by decide +kernel : kitB "bool" "bool" = some true), ?_⟩
    conv => whnf
    refine brT rfl ?_
    conv => whnf
    refine ⟨rfl, true, (by decide +kernel : kitB "bool" "bool" = some true), ?_⟩
    conv => whnf
    refine brT rfl ?_
    conv => whnf
    refine ⟨⟨rfl, rfl⟩, (by decide : 2 ≤ 3), ?_⟩
    have e : (D.bl b).eqv (.bl b) = true := by cases b <;> rfl
    rw [e]
    exact q
  | int z =>
    conv => whnf
    refine ⟨rfl, false, (by decide +kernel : kitB "int" "tuple" = some false), ?_⟩
    conv => whnf
    refine brF rfl ?_
    conv => whnf
    refine ⟨rfl, false, (by decide +kernel : kitB "int" "list" = some false), ?_⟩
    conv => whnf
    refine brF rfl ?_
    conv => whnf
    refine ⟨rfl, false, (by decide +kernel : kitB "int" "bool" = some false), ?_⟩
    conv => whnf
    refine brF rfl ?_
    conv => whnf
    refine ⟨rfl, false, (by decide +kernel : kitB "int" "bool" = some false), ?_⟩
    conv => whnf
    refine brF rfl ?_
    conv => whnf
    refine ⟨rfl, true, (by decide +kernel : kitB "int" "int" = some true), ?_⟩
    conv => whnf
    refine brT rfl ?_
    conv => whnf
    refine ⟨rfl, true, (by decide +kernel : kitB "int" "int" = some true), ?_⟩
    conv => whnf
    refine brT rfl ?_
    conv => whnf
    refine ⟨⟨rfl, rfl⟩, (by decide : 2 ≤ 3), ?_⟩
    rw [eqv_int, decide_eq_true rfl]
    exact q
  | str z =>
    conv => whnf
    refine ⟨rfl, false, (by decide +kernel : kitB "str" "tuple" = some false), ?_⟩
    conv => whnf
    refine brF rfl ?_
    conv => whnf
    refine ⟨rfl, false, (by decide +kernel : kitB "str" "list" = some false), ?_⟩
    conv => whnf
    refine brF rfl ?_
    conv => whnf
    refine ⟨rfl, false, (by decide +kernel : kitB "str" "bool" = some false), ?_⟩
    conv => whnf
    refine brF rfl ?_
    conv => whnf
    refine ⟨rfl, false, (by decide +kernel : kitB "str" "bool" = some false), ?_⟩
    conv => whnf
    refine brF rfl ?_
    conv => whnf
    refine ⟨rfl, false, (by decide +kernel : kitB "str" "int" = some false), ?_⟩
    conv => whnf
    refine brF rfl ?_
    conv => whnf
    refine ⟨rfl, true, (by decide +kernel : kitB "str" "str" = some true), ?_⟩
    conv => whnf
    refine brT rfl ?_
    conv => whnf
    refine ⟨rfl, true, (by decide +kernel : kitB "str" "str" = some true), ?_⟩
    conv => whnf
    refine brT rfl ?_
    conv => whnf
    have hs : (D.str z).shp = true := by cases n <;> exact hd
    refine ⟨⟨hs, hs⟩, (by decide : 2 ≤ 3), ?_⟩
    rw [eqv_str]
    exact q
  | tup ds =>
    cases n with
    | zero => cases hd
    | succ n =>
      have hd := Bool.and_eq_true_iff.mp (show (ds.all (okD n) && decide (ds.length ≤ 100000)) = true from hd)
      have hl := of_decide_eq_true hd.2
      conv => whnf
      refine ⟨rfl, true, (by decide +kernel : kitB "tuple" "tuple" = some true), ?_⟩
      conv => whnf
      refine brT rfl ?_
      conv => whnf
      refine brT rfl ?_
      conv => whnf
      refine ⟨rfl, true, (by decide +kernel : kitB "tuple" "tuple" = some true), ?_⟩
      conv => whnf
      refine ⟨rfl, true, (by decide +kernel : kitB "tuple" "tuple" = some true), ?_⟩
      conv => whnf
      refine ⟨⟨rfl, rfl⟩, ?_⟩
      conv => whnf
      refine brF rfl ?_
      conv => whnf
      refine ⟨rfl, false, (by decide +kernel : kitB "tuple" "list" = some false), ?_⟩
      conv => whnf
      refine ⟨rfl, false, (by decide +kernel : kitB "tuple" "list" = some false), ?_⟩
      conv => whnf
      refine ⟨⟨rfl, rfl⟩, ?_⟩
      conv => whnf
      refine brF rfl ?_
      conv => whnf
      refine ⟨⟨rfl, rfl⟩, ?_⟩
      refine brF (by rw [eqv_int, decide_eq_true rfl]; rfl) ?_
      conv => whnf
      refine ⟨⟨by decide, by decide, by omega, by omega⟩, ?_⟩
      conv => whnf
      refine ⟨fun i E => ∃ x2, E = [.fr (.tup ds), .fr (.tup ds), x2] ∧ S.free (some x2) = true, ⟨_, rfl, rfl⟩, fun i d E' hd' hi => ?_, fun E' hi => ?_⟩
      · obtain ⟨hi', rfl⟩ := rng_get hd'
        obtain ⟨x2, rfl, f2⟩ := hi
        have hi' : i < ds.length := by omega
        have ei := atI_nat (List.getElem?_eq_getElem hi')
        refine ⟨f2, ?_⟩
        conv => whnf
        refine ⟨rfl, ?_⟩
        show (match atI ds (0 + (i : Int)) with | some d => _ | none => False)
        rw [ei]
        conv => whnf
        refine ⟨rfl, ?_⟩
        show (match atI ds (0 + (i : Int)) with | some d => _ | none => False)
        rw [ei]
        conv => whnf
        refine ⟨rfl, _, rfl, all_at hd.1 (List.getElem?_eq_getElem hi'), ?_⟩
        conv => whnf
        refine brF rfl ?_
        exact ⟨_, rfl, rfl⟩
      · obtain ⟨x2, rfl, f2⟩ := hi
        conv => whnf
        exact ⟨(by decide : 2 ≤ 3), q⟩
  | lst ds =>
    cases n with
    | zero => cases hd
    | succ n =>
      have hd := Bool.and_eq_true_iff.mp (show (ds.all (okD n) && decide (ds.length ≤ 100000)) = true from hd)
      have hl := of_decide_eq_true hd.2
      conv => whnf
      refine ⟨rfl, false, (by decide +kernel : kitB "list" "tuple" = some false), ?_⟩
      conv => whnf
      refine brF rfl ?_
      conv => whnf
      refine ⟨rfl, true, (by decide +kernel : kitB "list" "list" = some true), ?_⟩
      conv => whnf
      refine brT rfl ?_
      conv => whnf
      refine ⟨rfl, false, (by decide +kernel : kitB "list" "tuple" = some false), ?_⟩
      conv => whnf
      refine ⟨rfl, false, (by decide +kernel : kitB "list" "tuple" = some false), ?_⟩
      conv => whnf
      refine ⟨⟨rfl, rfl⟩, ?_⟩
      conv => whnf
      refine brF rfl ?_
      conv => whnf
      refine ⟨rfl, true, (by decide +kernel : kitB "list" "list" = some true), ?_⟩
      conv => whnf
      refine ⟨rfl, true, (by decide +kernel : kitB "list" "list" = some true), ?_⟩
      conv => whnf
      refine ⟨⟨rfl, rfl⟩, ?_⟩
      conv => whnf
      refine brF rfl ?_
      conv => whnf
      refine ⟨⟨rfl, rfl⟩, ?_⟩
      refine brF (by rw [eqv_int, decide_eq_true rfl]; rfl) ?_
      conv => whnf
      refine ⟨⟨by decide, by decide, by omega, by omega⟩, ?_⟩
      conv => whnf
      refine ⟨fun i E => ∃ x2, E = [.fr (.lst ds), .fr (.lst ds), x2] ∧ S.free (some x2) = true, ⟨_, rfl, rfl⟩, fun i d E' hd' hi => ?_, fun E' hi => ?_⟩
      · obtain ⟨hi', rfl⟩ := rng_get hd'
        obtain ⟨x2, rfl, f2⟩ := hi
        have hi' : i < ds.length := by omega
        have ei := atI_nat (List.getElem?_eq_getElem hi')
        refine ⟨f2, ?_⟩
        conv => whnf
        refine ⟨rfl, ?_⟩
        show (match atI ds (0 + (i : Int)) with | some d => _ | none => False)
        rw [ei]
        conv => whnf
        refine ⟨rfl, ?_⟩
        show (match atI ds (0 + (i : Int)) with | some d => _ | none => False)
        rw [ei]
        conv => whnf
        refine ⟨rfl, _, rfl, all_at hd.1 (List.getElem?_eq_getElem hi'), ?_⟩
        conv => whnf
        refine brF rfl ?_
        exact ⟨_, rfl, rfl⟩
      · obtain ⟨x2, rfl, f2⟩ := hi
        conv => whnf
        exact ⟨(by decide : 2 ≤ 3), q⟩
  | scr ds => cases n <;> cases hd
  | dic ks ds => cases n <;> cases hd
  | obj C ns ds => cases n <;> cases hd
end K51
set_option Elab.async false
set_option linter.all false
set_option maxRecDepth 100000
set_option maxHeartbeats 4000000
namespace K51
open PySem PySem.Spec PyProof.Rows L2 DL
variable {P : Program} {w : World} {K : Frg} {mg : Str → Option Value} {base : Heap}

abbrev sd_l_same : SpD := sdSame 3
theorem ok_l_same (T : Tx K mg) : FnOk P w K mg base CX0 3 T.f_l_same T.fd_l_same ["_law_actual", "_law_due"] (spD K 2 sd_l_same) :=
  st_l_same T (Nat.zero_le _) (n := 2) rfl (st_l_same T (Nat.zero_le _) (n := 1) rfl (st_l_same T (Nat.zero_le _) (n := 0) rfl (fn_never fun _ _ h => h)))
def sd_l_same_list : SpD := fun args Q => ∃ ds : List D, args = [.fr (.lst ds), .fr (.lst ds)] ∧ ds.all (okD 2) = true ∧ ds.length ≤ 100000 ∧ Q (.fr (.bl true)) [.un, .un]
theorem ok_l_same_list (T : Tx K mg) : FnOk P w K mg base CX0 4 T.f_l_same_list T.fd_l_same_list ["_law_actual", "_law_due"] (spD K 2 sd_l_same_list) := by
  have G_l_same := ok_l_same (P := P) (w := w) (base := base) T
  refine fn_D (k := 3) T.d_l_same_list.F sc_l_same_list (fun H0 Fm Z0 vs cdv A outer s H Ex hr =>
    have nd := sc_l_same_list.nd; have u64 := hr.units; have u65 := u65_of hr; have u70 := u70_of hr
    (dss_cons (ds_if (dt_w (dw_or (dt_not (dt_b (db_e (de_isi (T := "list") T.m_isinstance T.m_list (db_v 0))))) (dw_or1 (dt_cmp (o_ne u64) (de_b1 b_len T.m_len (db_v 0)) (de_b1 b_len T.m_len (db_v 1)))))) (dss_one (ds_ret de_bl)) dss_nil)
    (dss_cons (ds_for PassesOwn.never (di_range1 rfl T.m_range (de_b1 b_len T.m_len (db_v 1))) (dg_n 2 nd) (dss_one (ds_if (dt_not (dt_b (db_e (dcall G_l_same T.d_l_same (hr.mono (by decide)) (dm_d (de_ixo 0 (de_v 2)) (dm_d (de_ixo 1 (de_v 2)) dm_nil)))))) (dss_one (ds_ret de_bl)) dss_nil)))
    (dss_one (ds_ret de_bl))))) (fun args Qd hl h => ?_)
  obtain ⟨ds, rfl, hd, hl, q⟩ := h
  conv => whnf
  refine ⟨rfl, true, (by decide +kernel : kitB "list" "list" = some true), ?_⟩
  conv => whnf
  refine brF rfl ?_
  conv => whnf
  refine ⟨⟨rfl, rfl⟩, ?_⟩
  refine brF (by rw [eqv_int, decide_eq_true rfl]; rfl) ?_
  conv => whnf
  refine ⟨⟨by decide, by decide, by omega, by omega⟩, ?_⟩
  conv => whnf
  refine ⟨fun i E => ∃ x2, E = [.fr (.lst ds), .fr (.lst ds), x2] ∧ S.free (some x2) = true, ⟨_, rfl, rfl⟩, fun i d E' hd' hi => ?_, fun E' hi => ?_⟩
  · obtain ⟨hi', rfl⟩ := rng_get hd'
    obtain ⟨x2, rfl, f2⟩ := hi
    have hi' : i < ds.length := by omega
    have ei := atI_nat (List.getElem?_eq_getElem hi')
    refine ⟨f2, ?_⟩
    conv => whnf
    refine ⟨rfl, ?_⟩
    show (match atI ds (0 + (i : Int)) with | some d => _ | none => False)
    rw [ei]
    conv => whnf
    refine ⟨rfl, ?_⟩
    show (match atI ds (0 + (i : Int)) with | some d => _ | none => False)
    rw [ei]
    conv => whnf
    refine ⟨rfl, _, rfl, all_at hd (List.getElem?_eq_getElem hi'), ?_⟩
    conv => whnf
    refine brF rfl ?_
    exact ⟨_, rfl, rfl⟩
  · obtain ⟨x2, rfl, f2⟩ := hi
    conv => whnf
    exact ⟨(by decide : 2 ≤ 3), q⟩

/-- rows of a deck: ascending, in small bounds -/
structure RowsOk (rows : List (Int × Int)) : Prop where
  ne : rows ≠ []
  ln : rows.length ≤ 6
  bd : ∀ p ∈ rows, -10 ≤ p.1 ∧ p.1 ≤ p.2 ∧ p.2 ≤ 200
  hd : ∀ f l, rows.head? = some f → rows.getLast? = some l → f.1 ≤ l.2
def sd_l_intervals : SpD := fun args Q => ∃ (ns : List Int) (a b c : Int), args = [.mu (dk ns a b c)] ∧ 0 ≤ a ∧ ∀ (rows : List (Int × Int)) (a' b' c' : Int), RowsOk rows → 0 ≤ a' → Q (.ow (.lst (rows.map pr))) [.mu (dk ns a' b' c')]
theorem at_2 (x y : D) {k : Int} (h0 : 0 ≤ k) (h : k < 2) : atI [x, y] k = some (if k = 0 then x else y) := by
  have : k = 0 ∨ k = 1 := by omega
  rcases this with rfl | rfl <;> rfl
theorem at_0001 {k : Int} (h0 : 0 ≤ k) (h : k < 4) : atI [D.int 0, .int 0, .int 0, .int 1] k = some (.int (if k = 3 then 1 else 0)) := by
  have : k = 0 ∨ k = 1 ∨ k = 2 ∨ k = 3 := by omega
  rcases this with rfl | rfl | rfl | rfl <;> rfl
theorem pick_int {k x y : Int} : (if k = 0 then D.int x else .int y) = .int (if k = 0 then x else y) := by split <;> rfl
theorem ok_l_intervals (T : Tx K mg) : FnOk P w K mg base CX0 2 T.f_l_intervals T.fd_l_intervals ["_law_deck_here"] (spD K 1 sd_l_intervals) := by
  have G_l_draw := ok_l_draw (P := P) (w := w) (base := base) T
  refine fn_D (k := 1) T.d_l_intervals.F sc_l_intervals (fun H0 Fm Z0 vs cdv A outer s H Ex hr =>
    have nd := sc_l_intervals.nd; have u64 := hr.units; have u65 := u65_of hr; have u70 := u70_of hr
    (dss_cons (ds_setn 1 nd (dn_lst da_nil))
    (dss_cons (ds_set 2 nd (de_op o_sub (dcall G_l_draw T.d_l_draw (hr.mono (by decide)) (dm_m 0 (dm_d de_int dm_nil))) de_int))
    (dss_cons (ds_for PassesOwn.never (di_range1 rfl T.m_range (de_op o_add de_int (dcall G_l_draw T.d_l_draw (hr.mono (by decide)) (dm_m 0 (dm_d de_int dm_nil))))) (dg_n 3 nd) (dss_cons (ds_set 4 nd (de_op o_add (de_v 2) (de_ix (de_n (dn_lst (da_cons de_int (da_cons (dcall G_l_draw T.d_l_draw (hr.mono (by decide)) (dm_m 0 (dm_d de_int dm_nil))) da_nil)))) (dcall G_l_draw T.d_l_draw (hr.mono (by decide)) (dm_m 0 (dm_d de_int dm_nil))))))
    (dss_cons (ds_expr (de_append 1 (de_tup (da_cons (de_v 2) (da_cons (de_v 4) da_nil)))))
    (dss_one (ds_set 2 nd (de_op o_add (de_op o_add (de_v 4) de_int) (de_ix (de_n (dn_lst (da_cons de_int (da_cons de_int (da_cons de_int (da_cons de_int da_nil)))))) (dcall G_l_draw T.d_l_draw (hr.mono (by decide)) (dm_m 0 (dm_d de_int dm_nil))))))))))
    (dss_one (ds_retv 1)))))) (fun args Qd hl h => ?_)
  obtain ⟨ns, a, b, c, rfl, ha, q⟩ := h
  conv => whnf
  refine ⟨rfl, ?_⟩
  conv => whnf
  refine ⟨rfl, rfl, ns, a, b, c, 20, rfl, ha, by decide, by decide, fun r a1 b1 c1 r0 r1 ha1 => ?_⟩
  conv => whnf
  refine ⟨rfl, ?_⟩
  conv => whnf
  refine ⟨rfl, rfl, ns, a1, b1, c1, 5, rfl, ha1, by decide, by decide, fun k a2 b2 c2 k0 k1 ha2 => ?_⟩
  conv => whnf
  refine ⟨⟨by decide, by decide, by omega, by omega⟩, ?_⟩
  conv => whnf
  refine ⟨fun i E => ∃ (rows : List (Int × Int)) (at' a' b' c' c0 : Int) (x3 x4 : S), E = [.mu (dk ns a' b' c'), .ow (.lst (rows.map pr)), .fr (.int at'), x3, x4] ∧ (S.free (some x3) = true ∧ S.free (some x4) = true) ∧ 0 ≤ a' ∧
      rows.length = i ∧ (∀ p ∈ rows, c0 ≤ p.1 ∧ p.1 ≤ p.2 ∧ p.2 < at') ∧ -10 ≤ c0 ∧ c0 ≤ at' ∧ at' ≤ 10 + 7 * i ∧ (∀ f, rows.head? = some f → f.1 = c0) ∧ (rows = [] → at' = c0),
    ⟨[], r - 10, a2, b2, c2, r - 10, _, _, rfl, ⟨rfl, rfl⟩, ha2, rfl, fun p hp => (by cases hp), by omega, Int.le_refl _, by omega, fun f hf => (by cases hf), fun _ => rfl⟩, fun i d E' hd' hi => ?_, fun E' hi => ?_⟩
  · obtain ⟨hi', rfl⟩ := rng_get hd'
    obtain ⟨rows, at', a', b', c', c0, x3, x4, rfl, ⟨f3, f4⟩, ha', hl, hb, hc0, hc1, hat, hh, he⟩ := hi
    refine ⟨f3, ?_⟩
    conv => whnf
    refine ⟨rfl, rfl, ns, a', b', c', 6, rfl, ha', by decide, by decide, fun u a3 b3 c3 u0 u1 ha3 => ?_⟩
    conv => whnf
    refine ⟨rfl, rfl, ns, a3, b3, c3, 2, rfl, ha3, by decide, by decide, fun v a4 b4 c4 v0 v1 ha4 => ?_⟩
    show (match atI [D.int 0, D.int u] v with | some d => _ | none => False)
    rw [at_2 _ _ v0 v1, pick_int]
    conv => whnf
    refine ⟨f4, ?_⟩
    conv => whnf
    refine ⟨by rw [List.length_map, sizeLine_eq]; omega, ?_⟩
    conv => whnf
    refine ⟨rfl, rfl, ns, a4, b4, c4, 4, rfl, ha4, by decide, by decide, fun x a5 b5 c5 x0 x1 ha5 => ?_⟩
    show (match atI [D.int 0, D.int 0, D.int 0, D.int 1] x with | some d => _ | none => False)
    rw [at_0001 x0 x1]
    conv => whnf
    refine ⟨rfl, ?_⟩
    have e1 : 0 ≤ (if v = 0 then 0 else u) ∧ (if v = 0 then 0 else u) ≤ 5 := by split <;> omega
    have e2 : 0 ≤ (if x = 3 then (1 : Int) else 0) ∧ (if x = 3 then (1 : Int) else 0) ≤ 1 := by split <;> omega
    generalize (if v = 0 then 0 else u) = w1 at *
    generalize (if x = 3 then (1 : Int) else 0) = w2 at *
    refine ⟨rows ++ [(at', at' + w1)], at' + w1 + 1 + w2, a5, b5, c5, c0, ?x3, ?x4, ?eq, ⟨?h3, ?h4⟩, ha5, by rw [List.length_append, hl]; rfl, fun p hp => ?_, hc0, by omega, by omega, fun f hf => ?_, fun e => (by simp at e)⟩
    case eq => rw [← snoc_pr]; rfl
    case h3 => rfl
    case h4 => rfl
    · rcases List.mem_append.mp hp with hp | hp
      · have := hb p hp; omega
      · rw [List.mem_singleton.mp hp]; dsimp only; omega
    · cases rows with
      | nil =>
        cases hf
        exact he rfl
      | cons z rows => exact hh f (by simpa using hf)
  · obtain ⟨rows, at', a', b', c', c0, x3, x4, rfl, _, ha', hl, hb, hc0, hc1, hat, hh, _⟩ := hi
    have hn : (rng 0 (1 + k)).length = (1 + k).toNat := by rw [rng_len, Int.sub_zero]
    have hl : rows.length = (1 + k).toNat := hl.trans hn
    conv => whnf
    refine ⟨(by decide : 1 ≤ 5), q _ _ _ _ ⟨fun e => by rw [e] at hl; simp at hl; omega, by omega, fun p hp => ?_, fun f l hf hl' => ?_⟩ ha'⟩
    · have := hb p hp
      have e : at' ≤ 10 + 7 * ((rng 0 (1 + k)).length : Int) := hat
      rw [hn] at e
      omega
    · have h1 := hh f hf
      have h2 := hb l (List.mem_of_getLast? hl')
      omega
end K51
set_option Elab.async false
set_option linter.all false
set_option maxRecDepth 100000
set_option maxHeartbeats 4000000
/-! K51m: numbers of a form, intervals that part a range, united ones; no program in sight. -/
namespace K51
open PySem PySem.Spec PyProof.Rows L2 DL
def num (a b lo : Int) (k : Nat) : Int := a * (lo + k) + b
def nums (a b lo : Int) (n : Nat) : List Int := (List.range n).map (num a b lo)
theorem nums_succ (a b lo : Int) (n : Nat) : nums a b lo (n + 1) = nums a b lo n ++ [num a b lo n] := by
  unfold nums
  rw [List.range_succ, List.map_append]
  rfl
theorem nums_len (a b lo : Int) (n : Nat) : (nums a b lo n).length = n := by unfold nums; rw [List.length_map, List.length_range]
theorem mem_nums {a b lo : Int} {n : Nat} {y : Int} : y ∈ nums a b lo n ↔ ∃ k : Nat, k < n ∧ num a b lo k = y := by
  unfold nums
  rw [List.mem_map]
  exact ⟨fun ⟨k, h, e⟩ => ⟨k, List.mem_range.mp h, e⟩, fun ⟨k, h, e⟩ => ⟨k, List.mem_range.mpr h, e⟩⟩
theorem between {a b lo : Int} {n k : Nat} (h : k < n) : min (num a b lo 0) (num a b lo (n - 1)) ≤ num a b lo k ∧ num a b lo k ≤ max (num a b lo 0) (num a b lo (n - 1)) := by
  unfold num
  rcases Int.le_total 0 a with ha | ha
  · have h1 : a * (lo + (0 : Nat)) ≤ a * (lo + k) := Int.mul_le_mul_of_nonneg_left (by omega) ha
    have h2 : a * (lo + k) ≤ a * (lo + (n - 1 : Nat)) := Int.mul_le_mul_of_nonneg_left (by omega) ha
    omega
  · have h1 : a * (lo + k) ≤ a * (lo + (0 : Nat)) := Int.mul_le_mul_of_nonpos_left ha (by omega)
    have h2 : a * (lo + (n - 1 : Nat)) ≤ a * (lo + k) := Int.mul_le_mul_of_nonpos_left ha (by omega)
    omega
theorem least_nums {a b lo m : Int} {n : Nat} (hn : 0 < n) (h1 : m ∈ nums a b lo n) (h2 : ∀ y ∈ nums a b lo n, m ≤ y) : m = min (num a b lo 0) (num a b lo (n - 1)) := by
  obtain ⟨k, hk, e⟩ := mem_nums.mp h1
  have x1 := h2 _ (mem_nums.mpr ⟨0, hn, rfl⟩)
  have x2 := h2 _ (mem_nums.mpr ⟨n - 1, by omega, rfl⟩)
  have x3 := (between (a := a) (b := b) (lo := lo) hk).1
  omega
theorem most_nums {a b lo m : Int} {n : Nat} (hn : 0 < n) (h1 : m ∈ nums a b lo n) (h2 : ∀ y ∈ nums a b lo n, y ≤ m) : m = max (num a b lo 0) (num a b lo (n - 1)) := by
  obtain ⟨k, hk, e⟩ := mem_nums.mp h1
  have x1 := h2 _ (mem_nums.mpr ⟨0, hn, rfl⟩)
  have x2 := h2 _ (mem_nums.mpr ⟨n - 1, by omega, rfl⟩)
  have x3 := (between (a := a) (b := b) (lo := lo) hk).2
  omega
/-- the numbers at which the form is not below 0 -/
def fit (a b lo : Int) (n : Nat) : List Int := ((List.range n).filter fun k => decide (0 ≤ num a b lo k)).map fun k : Nat => lo + (k : Int)
theorem fit_succ (a b lo : Int) (n : Nat) : fit a b lo (n + 1) = fit a b lo n ++ if 0 ≤ num a b lo n then [lo + (n : Int)] else [] := by
  unfold fit
  rw [List.range_succ, List.filter_append, List.map_append]
  congr 1
  by_cases h : 0 ≤ num a b lo n
  · rw [if_pos h, List.filter_cons_of_pos (by simpa using h)]; rfl
  · rw [if_neg h, List.filter_cons_of_neg (by simpa using h)]; rfl
theorem fit_len (a b lo : Int) (n : Nat) : (fit a b lo n).length ≤ n := by
  unfold fit
  rw [List.length_map]
  exact Nat.le_trans (List.length_filter_le _ _) (by rw [List.length_range]; exact Nat.le_refl _)
theorem mem_fit {a b lo u : Int} {n : Nat} : u ∈ fit a b lo n ↔ lo ≤ u ∧ u < lo + n ∧ 0 ≤ a * u + b := by
  unfold fit
  rw [List.mem_map]
  constructor
  · rintro ⟨k, h, e⟩
    rw [List.mem_filter, List.mem_range] at h
    have h2 := of_decide_eq_true h.2
    unfold num at h2
    subst e
    exact ⟨by omega, by omega, h2⟩
  · rintro ⟨h1, h2, h3⟩
    refine ⟨(u - lo).toNat, List.mem_filter.mpr ⟨List.mem_range.mpr (by omega), decide_eq_true ?_⟩, by omega⟩
    unfold num
    rw [show lo + ((u - lo).toNat : Int) = u by omega]
    exact h3
theorem fit_sorted (a b lo : Int) (n : Nat) : (fit a b lo n).Pairwise (· < ·) := by
  unfold fit
  refine List.Pairwise.map _ (R := (· < ·)) (fun x y h => by omega) ?_
  exact (List.pairwise_lt_range).filter _
theorem ok_iff {a b lo hi u : Int} (h1 : lo ≤ u) (h2 : u ≤ hi) : 0 ≤ a * u + b ↔ (¬ (a = 0 ∧ b < 0) ∧ pLo a b lo ≤ u ∧ u ≤ pHi a b hi) := by
  unfold pLo pHi
  by_cases ha : a > 0
  · rw [if_pos ha, if_pos ha]
    have e : -u ≤ b / a ↔ -u * a ≤ b := Int.le_ediv_iff_mul_le ha
    have e2 : -u * a = -(a * u) := by rw [Int.neg_mul, Int.mul_comm]
    rw [e2] at e
    omega
  · rw [if_neg ha, if_neg ha]
    by_cases hb : a < 0
    · rw [if_pos hb]
      have e : u ≤ b / -a ↔ u * -a ≤ b := Int.le_ediv_iff_mul_le (by omega)
      have e2 : u * -a = -(a * u) := by rw [Int.mul_neg, Int.mul_comm]
      rw [e2] at e
      omega
    · rw [if_neg hb]
      have : a = 0 := by omega
      subst this
      rw [Int.zero_mul]
      omega
theorem pLo_le (a b lo : Int) : lo ≤ pLo a b lo := by unfold pLo; split <;> omega
theorem pHi_le (a b hi : Int) : pHi a b hi ≤ hi := by unfold pHi; split <;> (try split) <;> omega
theorem part_nil {a b lo : Int} {n : Nat} (hn : 0 < n) (h : fit a b lo n = []) : part a b lo (lo + n - 1) = .non := by
  unfold part
  by_cases h1 : a = 0 ∧ b < 0
  · rw [if_pos h1]
  · rw [if_neg h1]
    by_cases h2 : pLo a b lo > pHi a b (lo + n - 1)
    · rw [if_pos h2]
    · have z1 := pLo_le a b lo
      have z2 := pHi_le a b (lo + n - 1)
      have m : pLo a b lo ∈ fit a b lo n := mem_fit.mpr ⟨z1, by omega, (ok_iff (hi := lo + n - 1) z1 (by omega)).mpr ⟨h1, Int.le_refl _, by omega⟩⟩
      rw [h] at m
      cases m
theorem part_some {a b lo x y : Int} {n : Nat} (hn : 0 < n) (h : (fit a b lo n).head? = some x) (h' : (fit a b lo n).getLast? = some y) : part a b lo (lo + n - 1) = .tup [.int x, .int y] := by
  have mx : x ∈ fit a b lo n := List.mem_of_head? h
  have my : y ∈ fit a b lo n := List.mem_of_getLast? h'
  have sx := mem_fit.mp mx
  have sy := mem_fit.mp my
  have ox := (ok_iff (hi := lo + n - 1) sx.1 (by omega)).mp sx.2.2
  have oy := (ok_iff (hi := lo + n - 1) sy.1 (by omega)).mp sy.2.2
  have z1 := pLo_le a b lo
  have z2 := pHi_le a b (lo + n - 1)
  have ml : pLo a b lo ∈ fit a b lo n := mem_fit.mpr ⟨z1, by omega, (ok_iff (hi := lo + n - 1) z1 (by omega)).mpr ⟨ox.1, Int.le_refl _, by omega⟩⟩
  have mh : pHi a b (lo + n - 1) ∈ fit a b lo n := mem_fit.mpr ⟨by omega, by omega, (ok_iff (lo := lo) (hi := lo + n - 1) (by omega) z2).mpr ⟨ox.1, by omega, Int.le_refl _⟩⟩
  have srt := fit_sorted a b lo n
  have low : ∀ z ∈ fit a b lo n, x ≤ z := fun z hz => by
    cases e : fit a b lo n with
    | nil => rw [e] at h; cases h
    | cons c r =>
      rw [e] at h srt hz
      cases h
      rcases List.mem_cons.mp hz with q | q
      · omega
      · have := (List.pairwise_cons.mp srt).1 z q; omega
  have high : ∀ z ∈ fit a b lo n, z ≤ y := fun z hz => by
    rcases List.eq_nil_or_concat (fit a b lo n) with e | ⟨r, c, e⟩
    · rw [e] at h'; cases h'
    · rw [List.concat_eq_append] at e
      rw [e] at h' srt hz
      rw [List.getLast?_concat] at h'
      cases h'
      rcases List.mem_append.mp hz with q | q
      · have := (List.pairwise_append.mp srt).2.2 z q y (List.mem_singleton.mpr rfl); omega
      · have := List.mem_singleton.mp q; omega
  have e1 := low _ ml
  have e2 := high _ mh
  unfold part
  rw [if_neg ox.1, if_neg (show ¬ pLo a b lo > pHi a b (lo + n - 1) by omega), show pLo a b lo = x by omega, show pHi a b (lo + n - 1) = y by omega]

/-! ### intervals that part a range -/
def ri (i j : Int) : List Int := (List.range (j - i).toNat).map fun k : Nat => i + (k : Int)
theorem rng_ri (i j : Int) : rng i j = (ri i j).map D.int := by
  unfold rng ri
  rw [List.map_map]
  rfl
theorem ri_len (i j : Int) : (ri i j).length = (j - i).toNat := by unfold ri; rw [List.length_map, List.length_range]
theorem ri_nil {i j : Int} (h : j ≤ i) : ri i j = [] := by unfold ri; rw [show (j - i).toNat = 0 by omega]; rfl
theorem ri_cons {i j : Int} (h : i < j) : ri i j = i :: ri (i + 1) j := by
  unfold ri
  rw [show (j - i).toNat = (j - (i + 1)).toNat + 1 by omega, List.range_succ_eq_map, List.map_cons, List.map_map]
  congr 1
  · omega
  · refine List.map_congr_left fun k _ => ?_
    show i + ((k + 1 : Nat) : Int) = i + 1 + k
    omega
theorem ri_snoc {i j : Int} (h : i ≤ j) : ri i (j + 1) = ri i j ++ [j] := by
  unfold ri
  rw [show (j + 1 - i).toNat = (j - i).toNat + 1 by omega, List.range_succ, List.map_append]
  congr 1
  show [i + ((j - i).toNat : Int)] = [j]
  rw [show i + ((j - i).toNat : Int) = j by omega]
theorem ri_cut {i j k : Int} (h1 : i ≤ j) (h2 : j ≤ k) : ri i k = ri i j ++ ri j k := by
  have main : ∀ n : Nat, ∀ i, i ≤ j → (j - i).toNat = n → ri i k = ri i j ++ ri j k := by
    intro n
    induction n with
    | zero => intro i h e; rw [show i = j by omega, ri_nil (Int.le_refl j)]; rfl
    | succ n ih =>
      intro i h e
      rw [ri_cons (show i < k by omega), ri_cons (show i < j by omega), ih (i + 1) (by omega) (by omega)]
      rfl
  exact main _ i h1 rfl
def cov (ps : List (Int × Int)) : List Int := ps.flatMap fun p => ri p.1 (p.2 + 1)
def proper (ps : List (Int × Int)) : Bool := ps.all fun p => decide (p.1 ≤ p.2)
theorem chain_le : ∀ {ps : List (Int × Int)} {x y : Int}, chain ps x = some y → x ≤ y
  | [], x, y, h => by cases h; exact Int.le_refl _
  | (f, l) :: r, x, y, h => by
    unfold chain at h
    split at h
    · have := chain_le h; omega
    · cases h
theorem chain_law {G : Int} : ∀ (ps : List (Int × Int)) (L : Int), L ≤ G + 1 → (chain ps L = some (G + 1) ↔ proper ps = true ∧ cov ps = ri L (G + 1))
  | [], L, h => by
    show (some L = some (G + 1)) ↔ (true = true ∧ [] = ri L (G + 1))
    refine ⟨fun e => ⟨rfl, ?_⟩, fun e => ?_⟩
    · cases e; rw [ri_nil (Int.le_refl _)]
    · have := congrArg List.length e.2
      rw [ri_len] at this
      have : (G + 1 - L).toNat = 0 := this.symm
      rw [show L = G + 1 by omega]
  | (f, l) :: r, L, h => by
    have ep : proper ((f, l) :: r) = (decide (f ≤ l) && proper r) := rfl
    have ec : cov ((f, l) :: r) = ri f (l + 1) ++ cov r := by unfold cov; rw [List.flatMap_cons]
    have eh : chain ((f, l) :: r) L = if f = L ∧ f ≤ l then chain r (l + 1) else none := rfl
    rw [ep, ec, eh]
    by_cases h1 : f ≤ l
    · by_cases h2 : f = L
      · subst h2
        rw [if_pos ⟨rfl, h1⟩, decide_eq_true h1, Bool.true_and]
        by_cases h3 : l ≤ G
        · rw [chain_law r (l + 1) (by omega), ri_cut (show f ≤ l + 1 by omega) (show l + 1 ≤ G + 1 by omega), List.append_cancel_left_eq]
        · refine ⟨fun e => ?_, fun e => ?_⟩
          · have := chain_le e; omega
          · have := congrArg List.length e.2
            rw [List.length_append, ri_len, ri_len] at this
            omega
      · rw [if_neg (fun e => h2 e.1)]
        refine ⟨fun e => (by cases e), fun e => ?_⟩
        have q := e.2
        rw [ri_cons (show f < l + 1 by omega)] at q
        by_cases h3 : L < G + 1
        · rw [ri_cons h3] at q
          exact absurd (List.cons.inj q).1 h2
        · rw [ri_nil (show G + 1 ≤ L by omega)] at q
          cases q
    · rw [if_neg (fun e => h1 e.2)]
      refine ⟨fun e => (by cases e), fun e => ?_⟩
      rw [decide_eq_false h1] at e
      cases e.1

/-! ### united intervals -/
def one (acc : List (Int × Int)) (u : Int) : List (Int × Int) := uStep acc (u, u)
theorem uStep_form (acc : List (Int × Int)) (f : Int) : ∃ (X : List (Int × Int)) (z : Int), ∀ l, uStep acc (f, l) = X ++ [(z, l)] := by
  rcases List.eq_nil_or_concat acc with e | ⟨a, ⟨z1, z2⟩, e⟩
  · subst e; exact ⟨[], f, fun l => rfl⟩
  · rw [List.concat_eq_append] at e
    subst e
    by_cases h : z2 + 1 = f
    · exact ⟨a, z1, fun l => by rw [uStep_snoc, if_pos h]⟩
    · exact ⟨a ++ [(z1, z2)], f, fun l => by rw [uStep_snoc, if_neg h]⟩
theorem one_run {f l : Int} (acc : List (Int × Int)) (h : f ≤ l) : (ri f (l + 1)).foldl one acc = uStep acc (f, l) := by
  have main : ∀ n : Nat, ∀ l, f ≤ l → (l - f).toNat = n → (ri f (l + 1)).foldl one acc = uStep acc (f, l) := by
    intro n
    induction n with
    | zero => intro l h e; rw [show l = f by omega, ri_cons (show f < f + 1 by omega), ri_nil (Int.le_refl _)]; rfl
    | succ n ih =>
      intro l h e
      have q := ih (l - 1) (by omega) (by omega)
      rw [show l - 1 + 1 = l by omega] at q
      rw [ri_snoc h, List.foldl_append, q]
      obtain ⟨X, z, k⟩ := uStep_form acc f
      rw [k (l - 1), k l]
      show uStep (X ++ [(z, l - 1)]) (l, l) = _
      rw [uStep_snoc, if_pos (by show l - 1 + 1 = l; omega)]
  exact main _ l h rfl
theorem united_law : ∀ (ps : List (Int × Int)) (acc : List (Int × Int)), (∀ p ∈ ps, p.1 ≤ p.2) → (cov ps).foldl one acc = ps.foldl uStep acc
  | [], acc, _ => rfl
  | (f, l) :: r, acc, h => by
    have ec : cov ((f, l) :: r) = ri f (l + 1) ++ cov r := by unfold cov; rw [List.flatMap_cons]
    rw [ec, List.foldl_append, one_run acc (h (f, l) List.mem_cons_self), united_law r _ fun p hp => h p (List.mem_cons_of_mem _ hp)]
    rfl
theorem cov_snoc (ps : List (Int × Int)) (p : Int × Int) : cov (ps ++ [p]) = cov ps ++ ri p.1 (p.2 + 1) := by
  unfold cov
  rw [List.flatMap_append]
  simp
theorem proper_snoc (ps : List (Int × Int)) (p : Int × Int) : proper (ps ++ [p]) = (proper ps && decide (p.1 ≤ p.2)) := by
  unfold proper
  rw [List.all_append]
  simp
theorem eqvAll_ints : ∀ a b : List Int, PyData.eqvAll (D.pys (a.map D.int)) (D.pys (b.map D.int)) = decide (a = b)
  | [], [] => rfl
  | [], _ :: _ => rfl
  | _ :: _, [] => rfl
  | a :: l, b :: m => by
    show ((D.int a).eqv (.int b) && PyData.eqvAll (D.pys (l.map D.int)) (D.pys (m.map D.int))) = _
    rw [eqvAll_ints l m, eqv_int]
    by_cases h : a = b
    · subst h; simp
    · simp [h]
theorem eqv_ints (a b : List Int) : (D.lst (a.map D.int)).eqv (.lst (b.map D.int)) = decide (a = b) := eqvAll_ints a b
end K51
set_option Elab.async false
set_option linter.all false
set_option maxRecDepth 100000
set_option maxHeartbeats 4000000
namespace K51
open PySem PySem.Spec PyProof.Rows L2 DL
variable {P : Program} {w : World} {K : Frg} {mg : Str → Option Value} {base : Heap}

abbrev sd_law := DL.sdLaw
theorem shp_prs (l : List (Int × Int)) : (D.lst (l.map pr)).shp = true := shpL pr (fun _ => rfl) (fun _ => by show max 0 (max 0 0) + 1 ≤ 60; decide) l
theorem at_num {a b lo : Int} {n i : Nat} {k : Int} (hk : k = i) (h : i < n) : atI ((nums a b lo n).map D.int) k = some (.int (num a b lo i)) := by
  refine at_pos hk ?_
  unfold nums
  rw [List.map_map, List.getElem?_map, List.getElem?_range h]
  rfl
theorem part_ok (a b lo hi : Int) : okD 2 (part a b lo hi) = true := by
  unfold part
  split
  · rfl
  · split
    · rfl
    · rfl
theorem at_head {l : List (Int × Int)} {f : Int × Int} (h : l.head? = some f) : atI (l.map pr) 0 = some (pr f) := by
  refine at_pos (i := 0) rfl ?_
  cases l with
  | nil => cases h
  | cons a l => cases h; rfl
theorem at_end {l : List (Int × Int)} {f : Int × Int} (h : l.getLast? = some f) : atI (l.map pr) (((l.map pr).length : Int) - 1) = some (pr f) := by
  rcases List.eq_nil_or_concat l with e | ⟨r, c, e⟩
  · subst e; cases h
  · rw [List.concat_eq_append] at e
    subst e
    rw [List.getLast?_concat] at h
    cases h
    rw [← snoc_pr]
    exact at_len _ _
theorem at_ihead {l : List Int} {f : Int} (h : l.head? = some f) : atI (l.map D.int) 0 = some (.int f) := by
  refine at_pos (i := 0) rfl ?_
  cases l with
  | nil => cases h
  | cons a l => cases h; rfl
theorem at_iend {l : List Int} {f : Int} (h : l.getLast? = some f) : atI (l.map D.int) (((l.map D.int).length : Int) - 1) = some (.int f) := by
  rcases List.eq_nil_or_concat l with e | ⟨r, c, e⟩
  · subst e; cases h
  · rw [List.concat_eq_append] at e
    subst e
    rw [List.getLast?_concat] at h
    cases h
    rw [List.map_append]
    exact at_len _ _
def swp (p : Int × Int) : Int × Int := (p.2, p.1)
structure RowB (r : List (Int × Int)) : Prop where
  ln : r.length ≤ 7
  bd : ∀ p ∈ r, -10 ≤ p.1 ∧ p.1 ≤ 200 ∧ -10 ≤ p.2 ∧ p.2 ≤ 200
theorem cov_len {r : List (Int × Int)} (h : ∀ p ∈ r, -10 ≤ p.1 ∧ p.1 ≤ 200 ∧ -10 ≤ p.2 ∧ p.2 ≤ 200) : (cov r).length ≤ 1000 * r.length := by
  induction r with
  | nil => exact Nat.zero_le _
  | cons p r ih =>
    have := h p List.mem_cons_self
    have ih := ih fun q hq => h q (List.mem_cons_of_mem _ hq)
    have ec : cov (p :: r) = ri p.1 (p.2 + 1) ++ cov r := by unfold cov; rw [List.flatMap_cons]
    rw [ec, List.length_append, ri_len, List.length_cons]
    omega
theorem take_snoc {α : Type} {l : List α} {i : Nat} {z : α} (h : l[i]? = some z) : l.take (i + 1) = l.take i ++ [z] := by
  rw [List.take_add_one, h]; rfl
theorem ok_law (T : Tx K mg) : FnOk P w K mg base CX0 5 T.f_law T.fd_law ["_law_script"] (spD K 1 sd_law) := by
  have G_l_deck := ok_l_deck (P := P) (w := w) (base := base) T
  have G_l_intervals := ok_l_intervals (P := P) (w := w) (base := base) T
  have G_l_same_list := ok_l_same_list (P := P) (w := w) (base := base) T
  have G_l_draw := ok_l_draw (P := P) (w := w) (base := base) T
  have G_l_same := ok_l_same (P := P) (w := w) (base := base) T
  have G_united := ok_united (P := P) (w := w) (base := base) T
  have G_part_at_least := ok_part_at_least (P := P) (w := w) (base := base) T
  have G_value_at := ok_value_at (P := P) (w := w) (base := base) T
  have G_bounds := ok_bounds (P := P) (w := w) (base := base) T
  have G_parts_range := ok_parts_range (P := P) (w := w) (base := base) T
  refine fn_D (k := 4) T.d_law.F sc_law (fun H0 Fm Z0 vs cdv A outer s H Ex hr =>
    have nd := sc_law.nd; have u64 := hr.units; have u65 := u65_of hr; have u70 := u70_of hr
    (dss_cons (ds_setn 1 nd (dcalln G_l_deck T.d_l_deck (hr.mono (by decide)) (dm_d (de_v 0) dm_nil)))
    (dss_cons (ds_set 2 nd (de_ix (de_n (dn_lst (da_cons de_int (da_cons de_int (da_cons (de_op o_pow de_int de_int) da_nil))))) (dcall G_l_draw T.d_l_draw (hr.mono (by decide)) (dm_m 1 (dm_d de_int dm_nil)))))
    (dss_cons (ds_set 3 nd (de_tup (da_cons (de_op o_sub (dcall G_l_draw T.d_l_draw (hr.mono (by decide)) (dm_m 1 (dm_d (de_op o_add (de_op o_mul de_int (de_v 2)) de_int) dm_nil))) (de_v 2)) (da_cons (de_op o_sub (dcall G_l_draw T.d_l_draw (hr.mono (by decide)) (dm_m 1 (dm_d (de_op o_add (de_op o_mul de_int (de_v 2)) de_int) dm_nil))) (de_v 2)) da_nil))))
    (dss_join (ds_if (dt_cmp (o_eq u64) (dcall G_l_draw T.d_l_draw (hr.mono (by decide)) (dm_m 1 (dm_d de_int dm_nil))) de_int) (dss_one (ds_set 3 nd (de_tup (da_cons de_int (da_cons (de_ixo 3 de_int) da_nil))))) dss_nil)
    (dss_cons (ds_set 4 nd (de_op o_sub (dcall G_l_draw T.d_l_draw (hr.mono (by decide)) (dm_m 1 (dm_d de_int dm_nil))) de_int))
    (dss_join (ds_set 5 nd (de_tup (da_cons (de_v 4) (da_cons (de_op o_add (de_v 4) (de_ix (de_n (dn_lst (da_cons de_int (da_cons (dcall G_l_draw T.d_l_draw (hr.mono (by decide)) (dm_m 1 (dm_d de_int dm_nil))) (da_cons de_int da_nil))))) (dcall G_l_draw T.d_l_draw (hr.mono (by decide)) (dm_m 1 (dm_d de_int dm_nil))))) da_nil))))
    (dss_cons (ds_setn 6 nd (dn_lc nd (di_range2 rfl T.m_range (de_ixo 5 de_int) (de_op o_add (de_ixo 5 de_int) de_int)) (blkOk_by (own := [("_law_u", 15)]) (N := N_law) (sc := defScope s_law) (by decide +kernel)) (fun _ _ _ _ _ => (dg_n 15 nd)) (fun _ _ _ _ _ => dts_nil) (fun _ _ _ _ _ => (de_op o_add (de_op o_mul (de_ixo 3 de_int) (de_v 15)) (de_ixo 3 de_int)))))
    (dss_cons (ds_if (dt_w (dw_or (dt_not (dt_b (db_e (dcall G_l_same T.d_l_same (hr.mono (by decide)) (dm_d (dcall G_value_at T.d_value_at (hr.mono (by decide)) (dm_d (de_v 3) (dm_d (de_v 4) dm_nil))) (dm_d (de_ixo 6 de_int) dm_nil)))))) (dw_or1 (dt_not (dt_b (db_e (dcall G_l_same T.d_l_same (hr.mono (by decide)) (dm_d (dcall G_bounds T.d_bounds (hr.mono (by decide)) (dm_d (de_v 3) (dm_d (de_v 5) dm_nil))) (dm_d (de_tup (da_cons (de_b1 b_min T.m_min (db_v 6)) (da_cons (de_b1 b_max T.m_max (db_v 6)) da_nil))) dm_nil))))))))) (dss_one (ds_ret de_bl)) dss_nil)
    (dss_cons (ds_setlc 7 nd (di_range1 rfl T.m_range (de_b1 b_len T.m_len (db_v 6))) (blkOk_by (own := [("_law_k", 17)]) (N := N_law) (sc := defScope s_law) (by decide +kernel)) (fun _ _ _ _ _ => (dg_n 17 nd)) (fun _ _ _ _ _ => dts_one (dt_cmp (o_ge) (de_ixo 6 (de_v 17)) de_int)) (fun _ _ _ _ _ => (de_op o_add (de_ixo 5 de_int) (de_v 17))))
    (dss_cons (ds_set 8 nd de_non)
    (dss_join (ds_if (dt_cmp (o_ne u64) (de_v 7) (de_n (dn_lst da_nil))) (dss_one (ds_set 8 nd (de_tup (da_cons (de_ixo 7 de_int) (da_cons (de_ixo 7 (de_op o_sub (de_b1 b_len T.m_len (db_v 7)) de_int)) da_nil))))) dss_nil)
    (dss_cons (ds_if (dt_not (dt_b (db_e (dcall G_l_same T.d_l_same (hr.mono (by decide)) (dm_d (dcall G_part_at_least T.d_part_at_least (hr.mono (by decide)) (dm_d (de_v 3) (dm_d (de_v 5) dm_nil))) (dm_d (de_v 8) dm_nil)))))) (dss_one (ds_ret de_bl)) dss_nil)
    (dss_cons (ds_setn 9 nd (dcalln G_l_intervals T.d_l_intervals (hr.mono (by decide)) (dm_m 1 dm_nil)))
    (dss_cons (ds_set 10 nd (de_ix (de_ixo 9 de_int) de_int))
    (dss_cons (ds_set 11 nd (de_ix (de_ixo 9 (de_op o_sub (de_b1 b_len T.m_len (db_v 9)) de_int)) de_int))
    (dss_cons (ds_for PassesOwn.never (di_seq (de_n (dn_lst (da_cons (de_v 9) (da_cons (de_n (dn_listRev T.m_list T.m_reversed (db_v 9))) (da_cons (de_n (dn_cat (de_v 9) (db_e (de_n (dn_lst (da_cons (de_ixo 9 de_int) da_nil)))))) (da_cons (de_n (dn_sl (de_v 9) (do_s de_int) do_n)) (da_cons (de_n (dn_lc nd (di_seq (de_v 9)) (blkOk_by (own := [("_law_pair", 14)]) (N := N_law) (sc := defScope s_law) (by decide +kernel)) (fun _ _ _ _ _ => (dg_n 14 nd)) (fun _ _ _ _ _ => dts_nil) (fun _ _ _ _ _ => (de_tup (da_cons (de_ixo 14 de_int) (da_cons (de_ixo 14 de_int) da_nil)))))) (da_cons (de_n (dn_lst da_nil)) da_nil))))))))) (dg_n 12 nd) (dss_cons (ds_setn 13 nd (dn_lst da_nil))
    (dss_cons (ds_set 16 nd de_bl)
    (dss_cons (ds_for PassesOwn.never (di_seq (de_v 12)) (dg_n 14 nd) (dss_cons (ds_set 16 nd (de_and (de_v 16) (de_one (de_cmp (o_le) (de_ixo 14 de_int) (de_ixo 14 de_int)))))
    (dss_one (ds_setn 13 nd (dn_cat (de_v 13) (db_e (de_n (dn_rg2 T.m_list T.m_range (de_ixo 14 de_int) (de_op o_add (de_ixo 14 de_int) de_int)))))))))
    (dss_one (ds_if (dt_not (dt_b (db_e (dcall G_l_same T.d_l_same (hr.mono (by decide)) (dm_d (dcall G_parts_range T.d_parts_range (hr.mono (by decide)) (dm_d (de_v 12) (dm_d (de_v 10) (dm_d (de_v 11) dm_nil)))) (dm_d (de_and (de_v 16) (de_one (de_cmp (o_eq u64) (de_v 13) (de_n (dn_rg2 T.m_list T.m_range (de_v 10) (de_op o_add (de_v 11) de_int)))))) dm_nil)))))) (dss_one (ds_ret de_bl)) dss_nil))))))
    (dss_cons (ds_setn 13 nd (dn_lst da_nil))
    (dss_cons (ds_for PassesOwn.never (di_seq (de_v 9)) (dg_n 14 nd) (dss_one (ds_setn 13 nd (dn_cat (de_v 13) (db_e (de_n (dn_rg2 T.m_list T.m_range (de_ixo 14 de_int) (de_op o_add (de_ixo 14 de_int) de_int))))))))
    (dss_cons (ds_setn 8 nd (dn_lst da_nil))
    (dss_cons (ds_for PassesOwn.never (di_seq (de_v 13)) (dg_n 15 nd) (dss_one (ds_if (dt_w (dw_and (dt_cmpB 8 (ob_ne u64) (de_n (dn_lst da_nil))) (dw_and1 (dt_cmp (o_eq u64) (de_ix (de_ixo 8 (de_op o_sub (de_b1 b_len T.m_len (db_v 8)) de_int)) de_int) (de_op o_sub (de_v 15) de_int))))) (dss_one (ds_setn 8 nd (dn_cat (de_n (dn_sl (de_v 8) do_n (do_s (de_op o_sub (de_b1 b_len T.m_len (db_v 8)) de_int)))) (db_e (de_n (dn_lst (da_cons (de_tup (da_cons (de_ix (de_ixo 8 (de_op o_sub (de_b1 b_len T.m_len (db_v 8)) de_int)) de_int) (da_cons (de_v 15) da_nil))) da_nil))))))) (dss_one (ds_expr (de_append 8 (de_tup (da_cons (de_v 15) (da_cons (de_v 15) da_nil)))))))))
    (dss_one (ds_ret (dcall G_l_same_list T.d_l_same_list (hr.mono (by decide)) (dm_d (de_n (dcalln G_united T.d_united (hr.mono (by decide)) (dm_d (de_v 9) dm_nil))) (dm_d (de_v 8) dm_nil)))))))))))))))))))))))))) (fun args Qd hl h => ?_)
  obtain ⟨ns, rfl, hn, q⟩ := h
  conv => whnf
  refine ⟨rfl, ns, rfl, ?_⟩
  conv => whnf
  refine ⟨rfl, ?_⟩
  conv => whnf
  refine ⟨⟨by decide, by decide, by decide⟩, ?_⟩
  conv => whnf
  have ha0 : (0 : Int) ≤ 0 := Int.le_refl _
  refine ⟨rfl, rfl, _, _, _, _, 3, rfl, ha0, by decide, by decide, fun r1 a1 b1 c1 l1 h1 ha1 => ?_⟩
  show (match atI [D.int 4, D.int 50, D.int 1000000000] r1 with | some d => _ | none => False)
  rw [at_3 _ _ _ l1 h1]
  have hz : 4 ≤ pick3 r1 4 50 1000000000 ∧ pick3 r1 4 50 1000000000 ≤ 1000000000 := by unfold pick3; split <;> (try split) <;> omega
  generalize pick3 r1 4 50 1000000000 = sz at *
  conv => whnf
  refine ⟨rfl, ?_⟩
  conv => whnf
  refine ⟨rfl, ?_⟩
  conv => whnf
  refine ⟨.inl ⟨by decide, by decide⟩, ?_⟩
  conv => whnf
  refine ⟨rfl, _, _, _, _, (2 * sz + 1), rfl, ha1, by omega, by omega, fun r2 a2 b2 c2 l2 h2 ha2 => ?_⟩
  conv => whnf
  refine ⟨rfl, ?_⟩
  conv => whnf
  refine ⟨.inl ⟨by decide, by decide⟩, ?_⟩
  conv => whnf
  refine ⟨rfl, _, _, _, _, (2 * sz + 1), rfl, ha2, by omega, by omega, fun r3 a3 b3 c3 l3 h3 ha3 => ?_⟩
  conv => whnf
  refine ⟨rfl, ?_⟩
  refine ⟨fun E => ∃ A B a b c : Int, E = [.fr (.scr (ns.map D.int)), .ow (dk ns a b c), .fr (.int sz), .fr (.tup [.int A, .int B]), .un, .un, .un, .un, .un, .un, .un, .un, .un, .un, .un, .un, .un, .un] ∧ 0 ≤ a ∧ -1000000000 ≤ A ∧ A ≤ 1000000000, ?_, ?_⟩
  · conv => whnf
    refine ⟨rfl, rfl, _, _, _, _, 4, rfl, ha3, by decide, by decide, fun r4 a4 b4 c4 l4 h4 ha4 => ?_⟩
    conv => whnf
    refine ⟨⟨rfl, rfl⟩, ?_⟩
    refine br (fun _ => ?_) fun _ => ?_
    · conv => whnf
      refine ⟨rfl, ?_⟩
      conv => whnf
      refine ⟨rfl, ?_⟩
      exact ⟨0, r3 - sz, _, _, _, rfl, ha4, by decide, by decide⟩
    · exact ⟨r2 - sz, r3 - sz, _, _, _, rfl, ha4, by omega, by omega⟩
  rintro E' ⟨A, B, a4, b4, c4, rfl, ha4, hA1, hA2⟩
  conv => whnf
  refine ⟨rfl, rfl, _, _, _, _, 60, rfl, ha4, by decide, by decide, fun r5 a5 b5 c5 l5 h5 ha5 => ?_⟩
  conv => whnf
  refine ⟨rfl, ?_⟩
  refine ⟨fun E => ∃ (lo : Int) (n : Nat) (a b c : Int), E = [.fr (.scr (ns.map D.int)), .ow (dk ns a b c), .fr (.int sz), .fr (.tup [.int A, .int B]), .fr (.int lo), .fr (.tup [.int lo, .int (lo + n - 1)]), .un, .un, .un, .un, .un, .un, .un, .un, .un, .un, .un, .un] ∧ 0 ≤ a ∧ 0 < n ∧ n ≤ 41 ∧ -30 ≤ lo ∧ lo ≤ 30, ?_, ?_⟩
  · conv => whnf
    refine ⟨rfl, rfl, _, _, _, _, 12, rfl, ha5, by decide, by decide, fun r6 a6 b6 c6 l6 h6 ha6 => ?_⟩
    conv => whnf
    refine ⟨rfl, rfl, _, _, _, _, 3, rfl, ha6, by decide, by decide, fun r7 a7 b7 c7 l7 h7 ha7 => ?_⟩
    show (match atI [D.int 0, D.int r6, D.int 40] r7 with | some d => _ | none => False)
    rw [at_3 _ _ _ l7 h7]
    have hw : 0 ≤ pick3 r7 0 r6 40 ∧ pick3 r7 0 r6 40 ≤ 40 := by unfold pick3; split <;> (try split) <;> omega
    generalize pick3 r7 0 r6 40 = w0 at *
    conv => whnf
    refine ⟨rfl, ?_⟩
    obtain ⟨n, hnw⟩ : ∃ n : Nat, (n : Int) = w0 + 1 := ⟨(w0 + 1).toNat, by omega⟩
    have hhi : r5 - 30 + w0 = r5 - 30 + n - 1 := by omega
    refine ⟨r5 - 30, n, a7, b7, c7, ?_, ha7, by omega, by omega, by omega, by omega⟩
    rw [← hhi]
    rfl
  rintro E' ⟨lo, n, a7, b7, c7, rfl, ha7, n0, n41, lo1, lo2⟩
  have en : (rng lo (lo + n - 1 + 1)).length = n := by rw [rng_len]; omega
  conv => whnf
  refine ⟨rfl, ?_⟩
  conv => whnf
  refine ⟨rfl, ?_⟩
  conv => whnf
  refine ⟨⟨by omega, by omega, by show -(2 ^ 62) ≤ lo + n - 1 + 1; omega, by show lo + n - 1 + 1 < 2 ^ 62; omega⟩, ?_⟩
  conv => whnf
  refine ⟨fun i acc E => E = [.fr (.scr (ns.map D.int)), .ow (dk ns a7 b7 c7), .fr (.int sz), .fr (.tup [.int A, .int B]), .fr (.int lo), .fr (.tup [.int lo, .int (lo + n - 1)]), .un, .un, .un, .un, .un, .un, .un, .un, .un, .un, .un, .un] ∧ acc = (nums A B lo i).map D.int, ⟨rfl, rfl⟩, fun i d acc E hd h => ?_, fun acc E h _ => ?_⟩
  · obtain ⟨rfl, rfl⟩ := h
    obtain ⟨hi, rfl⟩ := rng_get hd
    refine ⟨rfl, ?_⟩
    conv => whnf
    refine brT rfl ?_
    conv => whnf
    refine ⟨rfl, ?_⟩
    conv => whnf
    refine ⟨.inl ⟨by omega, by omega⟩, ?_⟩
    conv => whnf
    refine ⟨rfl, ?_⟩
    conv => whnf
    refine ⟨by rw [List.length_map, nums_len, sizeLine_eq]; have : i < (lo + n - 1 + 1 - lo).toNat := hi; omega, rfl, ?_⟩
    rw [nums_succ, List.map_append]
    rfl
  obtain ⟨rfl, rfl⟩ := h
  rw [show List.length (rng lo (lo + n - 1 + 1)) = n from en]
  conv => whnf
  refine ⟨rfl, ?_⟩
  conv => whnf
  have e00 : num A B lo 0 = A * lo + B := by unfold num; rw [show lo + ((0 : Nat) : Int) = lo by omega]
  have e0n : num A B lo (n - 1) = A * (lo + n - 1) + B := by unfold num; rw [show lo + ((n - 1 : Nat) : Int) = lo + n - 1 by omega]
  refine ⟨rfl, A, B, lo, rfl, by omega, by omega, ?_⟩
  conv => whnf
  refine ⟨rfl, ?_⟩
  show (match atI ((nums A B lo n).map D.int) 0 with | some d => _ | none => False)
  rw [at_num (k := 0) (i := 0) rfl n0, e00]
  conv => whnf
  refine ⟨rfl, _, rfl, rfl, ?_⟩
  conv => whnf
  refine brF rfl ?_
  conv => whnf
  refine ⟨rfl, A, B, lo, lo + n - 1, rfl, by omega, by omega, ?_⟩
  conv => whnf
  refine ⟨nums A B lo n, rfl, by rw [nums_len]; exact n0, fun m m1 m2 => ?_⟩
  conv => whnf
  refine ⟨nums A B lo n, rfl, by rw [nums_len]; exact n0, fun M m3 m4 => ?_⟩
  have em := least_nums n0 m1 m2
  have eM := most_nums n0 m3 m4
  rw [e00, e0n] at em eM
  subst em eM
  conv => whnf
  refine ⟨rfl, _, rfl, rfl, ?_⟩
  conv => whnf
  refine brF rfl ?_
  conv => whnf
  refine ⟨⟨by decide, by decide, by rw [List.length_map, nums_len]; omega, by rw [List.length_map, nums_len]; omega⟩, ?_⟩
  conv => whnf
  refine ⟨fun i acc E => E = [.fr (.scr (ns.map D.int)), .ow (dk ns a7 b7 c7), .fr (.int sz), .fr (.tup [.int A, .int B]), .fr (.int lo), .fr (.tup [.int lo, .int (lo + n - 1)]), .ow (.lst ((nums A B lo n).map D.int)), .un, .un, .un, .un, .un, .un, .un, .un, .un, .un, .un] ∧ acc = (fit A B lo i).map D.int, ⟨rfl, rfl⟩, fun i d acc E hd h => ?_, fun acc E h _ => ?_⟩
  · obtain ⟨rfl, rfl⟩ := h
    obtain ⟨hi, rfl⟩ := rng_get hd
    rw [List.length_map, nums_len] at hi
    have hi : i < n := by omega
    refine ⟨rfl, ?_⟩
    conv => whnf
    refine ⟨rfl, ?_⟩
    show (match atI ((nums A B lo n).map D.int) (0 + (i : Int)) with | some d => _ | none => False)
    rw [at_num (k := 0 + (i : Int)) (i := i) (by omega) hi]
    conv => whnf
    have sn := fit_succ A B lo i
    have fl := fit_len A B lo i
    refine br (fun hc => ?_) fun hc => ?_
    · have hc : 0 ≤ num A B lo i := of_decide_eq_true hc
      rw [if_pos hc] at sn
      conv => whnf
      refine ⟨rfl, ?_⟩
      conv => whnf
      refine ⟨by rw [List.length_map, sizeLine_eq]; omega, rfl, ?_⟩
      rw [sn, List.map_append, Int.zero_add]
      rfl
    · have hc : ¬ 0 ≤ num A B lo i := of_decide_eq_false hc
      rw [if_neg hc, List.append_nil] at sn
      refine ⟨rfl, ?_⟩
      rw [sn]
  obtain ⟨rfl, rfl⟩ := h
  have ef : (rng 0 ((List.map D.int (nums A B lo n)).length : Int)).length = n := by rw [rng_len, List.length_map, nums_len]; omega
  rw [show List.length (rng 0 ((List.map D.int (nums A B lo n)).length : Int)) = n from ef]
  conv => whnf
  refine ⟨rfl, ?_⟩
  conv => whnf
  refine ⟨rfl, ?_⟩
  refine ⟨fun E => E = [.fr (.scr (ns.map D.int)), .ow (dk ns a7 b7 c7), .fr (.int sz), .fr (.tup [.int A, .int B]), .fr (.int lo), .fr (.tup [.int lo, .int (lo + n - 1)]), .ow (.lst ((nums A B lo n).map D.int)), .fr (.lst ((fit A B lo n).map D.int)), .fr (part A B lo (lo + n - 1)), .un, .un, .un, .un, .un, .un, .un, .un, .un], ?_, ?_⟩
  · conv => whnf
    refine ⟨⟨shp_ints _, rfl⟩, ?_⟩
    conv => whnf
    show brB (!((D.lst ((fit A B lo n).map D.int)).eqv (.lst []))) _ _
    rw [show (D.lst ((fit A B lo n).map D.int)).eqv (.lst []) = decide (fit A B lo n = []) from eqv_ints _ []]
    refine br (fun hc => ?_) fun hc => ?_
    · have ne : fit A B lo n ≠ [] := by simpa using hc
      obtain ⟨x, hx⟩ : ∃ x, (fit A B lo n).head? = some x := by cases e : fit A B lo n with | nil => exact absurd e ne | cons x r => exact ⟨x, rfl⟩
      obtain ⟨y, hy⟩ : ∃ y, (fit A B lo n).getLast? = some y := ⟨_, List.getLast?_eq_some_getLast ne⟩
      rw [part_some n0 hx hy]
      conv => whnf
      refine ⟨rfl, ?_⟩
      show (match atI ((fit A B lo n).map D.int) 0 with | some d => _ | none => False)
      rw [at_ihead hx]
      conv => whnf
      refine ⟨rfl, ?_⟩
      show (match atI ((fit A B lo n).map D.int) ((((fit A B lo n).map D.int).length : Int) - 1) with | some d => _ | none => False)
      rw [at_iend hy]
      conv => whnf
      exact ⟨rfl, rfl⟩
    · have ne : fit A B lo n = [] := by simpa using hc
      rw [part_nil n0 ne, ne]
      rfl
  rintro E' rfl
  conv => whnf
  refine ⟨rfl, A, B, lo, lo + n - 1, rfl, by omega, by omega, ?_⟩
  conv => whnf
  refine ⟨rfl, _, rfl, part_ok _ _ _ _, ?_⟩
  conv => whnf
  refine brF rfl ?_
  conv => whnf
  refine ⟨rfl, rfl, _, _, _, _, rfl, ha7, fun rows a8 b8 c8 hr ha8 => ?_⟩
  conv => whnf
  refine ⟨rfl, ?_⟩
  obtain ⟨f, hf⟩ : ∃ f, rows.head? = some f := by cases e : rows with | nil => exact absurd e hr.ne | cons x r => exact ⟨x, rfl⟩
  obtain ⟨l, hl'⟩ : ∃ l, rows.getLast? = some l := ⟨_, List.getLast?_eq_some_getLast hr.ne⟩
  conv => whnf
  refine ⟨rfl, ?_⟩
  show (match atI (rows.map pr) 0 with | some d => _ | none => False)
  rw [at_head hf]
  conv => whnf
  refine ⟨rfl, ?_⟩
  conv => whnf
  refine ⟨rfl, ?_⟩
  show (match atI (rows.map pr) (((rows.map pr).length : Int) - 1) with | some d => _ | none => False)
  rw [at_end hl']
  conv => whnf
  refine ⟨rfl, ?_⟩
  have hfl : f.1 ≤ l.2 := hr.hd f l hf hl'
  have rb : ∀ p ∈ rows, -10 ≤ p.1 ∧ p.1 ≤ 200 ∧ -10 ≤ p.2 ∧ p.2 ≤ 200 := fun p hp => by have := hr.bd p hp; omega
  have lf := rb f (List.mem_of_head? hf)
  have ll := rb l (List.mem_of_getLast? hl')
  have hrl := hr.ln
  let p8 : List S := [.fr (.scr (ns.map D.int)), .ow (dk ns a8 b8 c8), .fr (.int sz), .fr (.tup [.int A, .int B]), .fr (.int lo), .fr (.tup [.int lo, .int (lo + n - 1)]), .ow (.lst ((nums A B lo n).map D.int)), .fr (.lst ((fit A B lo n).map D.int))]
  let pre : List S := p8 ++ [.fr (part A B lo (lo + n - 1)), .fr (.lst (rows.map pr)), .fr (.int f.1), .fr (.int l.2)]
  conv => whnf
  refine ⟨rfl, ?_⟩
  show (match atI (rows.map pr) 0 with | some d => _ | none => False)
  rw [at_head hf]
  conv => whnf
  refine ⟨by show (rows.map pr).length + 1 ≤ sizeLine; rw [List.length_map, sizeLine_eq]; omega, ?_⟩
  conv => whnf
  refine ⟨fun i acc E => E = pre ++ [.un, .un, .un, .un, .un, .un] ∧ acc = ((rows.take i).map swp).map pr, ⟨rfl, rfl⟩, fun i d acc E hd h => ?_, fun acc E h _ => ?_⟩
  · obtain ⟨rfl, rfl⟩ := h
    obtain ⟨z, rfl, hz'⟩ := map_at hd
    have hi := (List.getElem?_eq_some_iff.mp hz').1
    refine ⟨rfl, ?_⟩
    conv => whnf
    refine brT rfl ?_
    conv => whnf
    refine ⟨rfl, ?_⟩
    conv => whnf
    refine ⟨rfl, ?_⟩
    conv => whnf
    refine ⟨by rw [List.length_map, List.length_map, List.length_take, sizeLine_eq]; omega, rfl, ?_⟩
    rw [take_snoc hz', List.map_append, List.map_append]
    rfl
  obtain ⟨rfl, rfl⟩ := h
  rw [List.length_map, List.take_length]
  conv => whnf
  refine ⟨fun i E => ∃ x12 x13 x14 x16 : S, E = pre ++ [x12, x13, x14, .un, x16, .un] ∧ S.free (some x12) = true ∧ S.free (some x13) = true ∧ S.free (some x14) = true ∧ S.free (some x16) = true, ⟨.un, .un, .un, .un, rfl, rfl, rfl, rfl, rfl⟩, fun i d E hd h => ?_, fun E h => ?_⟩
  · have el : [D.lst (rows.map pr), D.lst (rows.map pr).reverse, D.lst (rows.map pr ++ [pr f]), D.lst (cutD (rows.map pr) (some 1) none), D.lst ((rows.map swp).map pr), D.lst []] = [rows, rows.reverse, rows ++ [f], rows.drop 1, rows.map swp, []].map (fun r => D.lst (r.map pr)) := by
      rw [cut_tail, ← List.map_reverse, ← List.map_drop, snoc_pr]
      rfl
    have hd2 : ([rows, rows.reverse, rows ++ [f], rows.drop 1, rows.map swp, []].map (fun r => D.lst (r.map pr)))[i]? = some d := by rw [← el]; exact hd
    obtain ⟨r, rfl, hri⟩ := map_at (f := fun r : List (Int × Int) => D.lst (r.map pr)) hd2
    have hB : RowB r := by
      have m := List.mem_of_getElem? hri
      simp only [List.mem_cons, List.not_mem_nil, or_false] at m
      rcases m with rfl | rfl | rfl | rfl | rfl | rfl
      · exact ⟨by omega, rb⟩
      · exact ⟨by rw [List.length_reverse]; omega, fun p hp => rb p (List.mem_reverse.mp hp)⟩
      · exact ⟨by rw [List.length_append, List.length_singleton]; omega, fun p hp => (List.mem_append.mp hp).elim (rb p) fun h => by rw [List.mem_singleton.mp h]; exact lf⟩
      · exact ⟨by rw [List.length_drop]; omega, fun p hp => rb p (List.mem_of_mem_drop hp)⟩
      · refine ⟨by rw [List.length_map]; omega, fun p hp => ?_⟩
        obtain ⟨z, hz, e⟩ := List.mem_map.mp hp
        have := rb z hz
        subst e
        show -10 ≤ z.2 ∧ z.2 ≤ 200 ∧ -10 ≤ z.1 ∧ z.1 ≤ 200
        omega
      · exact ⟨by decide, fun p hp => by cases hp⟩
    obtain ⟨x12, x13, x14, x16, rfl, f12, f13, f14, f16⟩ := h
    clear hd hd2 hri
    refine ⟨f12, ?_⟩
    conv => whnf
    refine ⟨f13, ?_⟩
    conv => whnf
    refine ⟨f16, ?_⟩
    conv => whnf
    refine ⟨fun j E => ∃ x14 : S, E = pre ++ [.fr (.lst (r.map pr)), .ow (.lst ((cov (r.take j)).map D.int)), x14, .un, .fr (.bl (proper (r.take j))), .un] ∧ S.free (some x14) = true, ⟨x14, rfl, f14⟩, fun j d E hd h => ?_, fun E h => ?_⟩
    · obtain ⟨z, rfl, hz'⟩ := map_at hd
      obtain ⟨x14, rfl, f14⟩ := h
      have ec := cov_snoc (r.take j) z
      have ep := proper_snoc (r.take j) z
      rw [← take_snoc hz'] at ec ep
      refine ⟨f14, ?_⟩
      conv => whnf
      refine br (fun hp => ?_) fun hp => ?_
      · rw [hp, Bool.true_and] at ep
        conv => whnf
        refine ⟨rfl, ?_⟩
        conv => whnf
        refine ⟨rfl, ?_⟩
        conv => whnf
        refine ⟨rfl, ?_⟩
        conv => whnf
        refine ⟨rfl, ?_⟩
        conv => whnf
        refine ⟨rfl, ?_⟩
        conv => whnf
        have bz := hB.bd z (List.mem_of_getElem? hz')
        refine ⟨⟨by omega, by omega, by omega, by omega, by omega⟩, ?_⟩
        conv => whnf
        have cl1 := cov_len (r := r.take j) fun p hp => hB.bd p (List.mem_of_mem_take hp)
        have cl2 : (r.take j).length ≤ 7 := by rw [List.length_take]; have := hB.ln; omega
        refine ⟨by show ((cov (r.take j)).map D.int).length + (rng z.1 (z.2 + 1)).length ≤ sizeLine; rw [List.length_map, rng_len, sizeLine_eq]; omega, ?_⟩
        conv => whnf
        refine ⟨rfl, ?_⟩
        refine ⟨?x14, ?eq, ?fr⟩
        case eq =>
          rw [ec, ep, List.map_append, ← rng_ri]
          rfl
        case fr => rfl
      · rw [hp, Bool.false_and] at ep
        conv => whnf
        refine ⟨rfl, ?_⟩
        conv => whnf
        refine ⟨rfl, ?_⟩
        conv => whnf
        refine ⟨rfl, ?_⟩
        conv => whnf
        have bz := hB.bd z (List.mem_of_getElem? hz')
        refine ⟨⟨by omega, by omega, by omega, by omega, by omega⟩, ?_⟩
        conv => whnf
        have cl1 := cov_len (r := r.take j) fun p hp => hB.bd p (List.mem_of_mem_take hp)
        have cl2 : (r.take j).length ≤ 7 := by rw [List.length_take]; have := hB.ln; omega
        refine ⟨by show ((cov (r.take j)).map D.int).length + (rng z.1 (z.2 + 1)).length ≤ sizeLine; rw [List.length_map, rng_len, sizeLine_eq]; omega, ?_⟩
        conv => whnf
        refine ⟨rfl, ?_⟩
        refine ⟨?x14, ?eq, ?fr⟩
        case eq =>
          rw [ec, ep, List.map_append, ← rng_ri]
          rfl
        case fr => rfl
    · obtain ⟨x14, rfl, f14⟩ := h
      rw [List.length_map, List.take_length]
      have key := chain_law (G := l.2) r f.1 (by omega)
      conv => whnf
      refine ⟨rfl, r, f.1, l.2, rfl, ?_⟩
      conv => whnf
      refine br (fun hp => ?_) fun hp => ?_
      · conv => whnf
        refine ⟨⟨by omega, by omega, by show -(2 ^ 62) ≤ l.2 + 1; omega, by show l.2 + 1 < 2 ^ 62; omega, by show (l.2 + 1 - f.1).toNat ≤ 2 ^ 24; omega⟩, ?_⟩
        conv => whnf
        refine ⟨⟨shp_ints _, by show (D.lst (rng f.1 (l.2 + 1))).shp = true; rw [rng_ri]; exact shp_ints _⟩, ?_⟩
        conv => whnf
        refine ⟨rfl, .bl (decide (chain r f.1 = some (l.2 + 1))), ?_, rfl, ?_⟩
        · show [S.fr (D.bl (decide (chain r f.1 = some (l.2 + 1)))), S.fr (D.bl ((D.lst ((cov r).map D.int)).eqv (.lst (rng f.1 (l.2 + 1)))))] = _
          rw [rng_ri, eqv_ints]
          have e : decide (chain r f.1 = some (l.2 + 1)) = decide (cov r = ri f.1 (l.2 + 1)) := by
            by_cases hc : cov r = ri f.1 (l.2 + 1)
            · rw [decide_eq_true hc, decide_eq_true (key.mpr ⟨hp, hc⟩)]
            · rw [decide_eq_false hc, decide_eq_false fun q => hc (key.mp q).2]
          rw [e]
        · conv => whnf
          refine brF rfl ?_
          exact ⟨_, _, _, _, rfl, rfl, rfl, f14, rfl⟩
      · conv => whnf
        refine ⟨rfl, .bl (decide (chain r f.1 = some (l.2 + 1))), ?_, rfl, ?_⟩
        · rw [decide_eq_false fun q => by rw [(key.mp q).1] at hp; cases hp]
          rfl
        · conv => whnf
          refine brF rfl ?_
          exact ⟨_, _, _, _, rfl, rfl, rfl, f14, rfl⟩
  obtain ⟨x12, x13, x14, x16, rfl, f12, f13, f14, f16⟩ := h
  conv => whnf
  refine ⟨f13, ?_⟩
  conv => whnf
  refine ⟨fun j E => ∃ x14 : S, E = pre ++ [x12, .ow (.lst ((cov (rows.take j)).map D.int)), x14, .un, x16, .un] ∧ S.free (some x14) = true, ⟨x14, rfl, f14⟩, fun j d E hd h => ?_, fun E h => ?_⟩
  · obtain ⟨z, rfl, hz'⟩ := map_at hd
    obtain ⟨x14, rfl, f14⟩ := h
    have ec := cov_snoc (rows.take j) z
    rw [← take_snoc hz'] at ec
    refine ⟨f14, ?_⟩
    conv => whnf
    refine ⟨rfl, ?_⟩
    conv => whnf
    refine ⟨rfl, ?_⟩
    conv => whnf
    have bz := rb z (List.mem_of_getElem? hz')
    refine ⟨⟨by omega, by omega, by omega, by omega, by omega⟩, ?_⟩
    conv => whnf
    have cl1 := cov_len (r := rows.take j) fun p hp => rb p (List.mem_of_mem_take hp)
    have cl2 : (rows.take j).length ≤ 7 := by rw [List.length_take]; have := hrl; omega
    refine ⟨by show ((cov (rows.take j)).map D.int).length + (rng z.1 (z.2 + 1)).length ≤ sizeLine; rw [List.length_map, rng_len, sizeLine_eq]; omega, ?_⟩
    conv => whnf
    refine ⟨rfl, ?_⟩
    refine ⟨?y14, ?eq2, ?fr2⟩
    case eq2 =>
      rw [ec, List.map_append, ← rng_ri]
      rfl
    case fr2 => rfl
  obtain ⟨x14, rfl, f14⟩ := h
  rw [List.length_map, List.take_length]
  have cl := cov_len (r := rows) rb
  generalize hC : cov rows = U at *
  conv => whnf
  refine ⟨rfl, ?_⟩
  conv => whnf
  refine ⟨fun j E => ∃ x15 : S, E = p8 ++ [.ow (.lst (((U.take j).foldl one []).map pr)), .fr (.lst (rows.map pr)), .fr (.int f.1), .fr (.int l.2), x12, .fr (.lst (U.map D.int)), x14, x15, x16, .un] ∧ S.free (some x15) = true ∧ ((U.take j).foldl one []).length ≤ j,
    ⟨_, rfl, rfl, Nat.le_refl _⟩, fun j d E hd h => ?_, fun E h => ?_⟩
  · obtain ⟨u, rfl, hu⟩ := map_at hd
    obtain ⟨x15, rfl, f15, hlen⟩ := h
    have ju := (List.getElem?_eq_some_iff.mp hu).1
    have ef : (U.take (j + 1)).foldl one [] = uStep ((U.take j).foldl one []) (u, u) := fold_take one [] hu
    have hl2 : ((U.take (j + 1)).foldl one []).length ≤ j + 1 := by
      rw [ef]
      have := uStep_len ((U.take j).foldl one []) (u, u)
      omega
    generalize (U.take j).foldl one [] = acc at *
    refine ⟨f15, ?_⟩
    conv => whnf
    refine ⟨rfl, ?_⟩
    conv => whnf
    refine ⟨⟨shp_prs acc, rfl⟩, ?_⟩
    rcases List.eq_nil_or_concat acc with e | ⟨a, z, e⟩
    · subst e
      refine brF rfl ?_
      conv => whnf
      refine brF rfl ?_
      conv => whnf
      refine ⟨by decide, ?_⟩
      exact ⟨_, by rw [ef]; rfl, rfl, hl2⟩
    · rw [List.concat_eq_append] at e
      subst e
      rw [uStep_snoc] at ef
      refine brT (by show (!((D.lst ((a ++ [z]).map pr)).eqv (.lst []))) = true; rw [show (D.lst ((a ++ [z]).map pr)).eqv (.lst []) = false by cases a <;> rfl]; rfl) ?_
      rw [← snoc_pr]
      conv => whnf
      refine ⟨rfl, ?_⟩
      show (match atI (a.map pr ++ [pr z]) (((a.map pr ++ [pr z]).length : Int) - 1) with | some d => _ | none => False)
      rw [at_len]
      conv => whnf
      refine ⟨⟨rfl, rfl⟩, ?_⟩
      conv => whnf
      rw [eqv_int]
      refine br (fun hc => ?_) fun hc => ?_
      · have hc : z.2 = u - 1 := of_decide_eq_true hc
        rw [if_pos (show z.2 + 1 = u by omega)] at ef
        conv => whnf
        refine ⟨rfl, ?_⟩
        show (match atI (a.map pr ++ [pr z]) (((a.map pr ++ [pr z]).length : Int) - 1) with | some d => _ | none => False)
        rw [at_len]
        conv => whnf
        refine ⟨?_, rfl, ?_⟩
        · show (cutD (a.map pr ++ [pr z]) none (some (((a.map pr ++ [pr z]).length : Int) - 1))).length + 1 ≤ sizeLine
          rw [cut_init, List.length_map, sizeLine_eq]
          rw [List.length_append, List.length_singleton] at hlen
          omega
        · refine ⟨?x15, ?eq, ?fr, hl2⟩
          case eq =>
            rw [ef, ← snoc_pr]
            show p8 ++ [.ow (.lst (cutD (a.map pr ++ [pr z]) none (some (((a.map pr ++ [pr z]).length : Int) - 1)) ++ [pr (z.1, u)])), .fr (.lst (rows.map pr)), .fr (.int f.1), .fr (.int l.2), x12, .fr (.lst (U.map D.int)), x14, .fr (.int u), x16, .un] = _
            rw [cut_init]
          case fr => rfl
      · have hc : ¬ z.2 = u - 1 := of_decide_eq_false hc
        rw [if_neg (show ¬ z.2 + 1 = u by omega)] at ef
        conv => whnf
        refine ⟨by rw [List.length_append, List.length_singleton, List.length_map, sizeLine_eq]; rw [List.length_append, List.length_singleton] at hlen; omega, ?_⟩
        refine ⟨?x15, ?eq, ?fr, hl2⟩
        case eq =>
          rw [ef, ← snoc_pr, ← snoc_pr]
          rfl
        case fr => rfl
  obtain ⟨x15, rfl, f15, hlen⟩ := h
  rw [List.length_map, List.take_length] at hlen ⊢
  have hu := united_law rows [] fun p hp => (hr.bd p hp).2.1
  rw [hC] at hu
  rw [hu] at hlen ⊢
  conv => whnf
  refine ⟨rfl, rows, rfl, by omega, ?_⟩
  conv => whnf
  refine ⟨rfl, _, rfl, ?_, ?_, ?_⟩
  · rw [List.all_map]
    exact List.all_eq_true.mpr fun p _ => rfl
  · rw [List.length_map]
    omega
  · exact ⟨(by decide : 1 ≤ 18), q⟩
end K51
set_option Elab.async false
set_option linter.all false
set_option maxRecDepth 100000
set_option maxHeartbeats 4000000
namespace K51
open PySem PySem.Spec PyProof.Rows L2 DL
variable {P : Program} {w : World} {K : Frg} {mg : Str → Option Value} {base : Heap}
theorem all_mk {l : PySem.W.OpenLaw} {w : World} {K : PySem.W.Frag} {h : Heap} {mg : Str → Option Value} {fa f0 f1 f2 f3 f4 f5 f6 f7 f8 f9 f10 : Addr} (X : K.In h) (G : h.Ns mainGlobals mg) (hfa : mg "law" = some (.ref fa))
    {od0 an0 od1 an1 od2 an2 od3 an3 od4 an4 od5 an5 od6 an6 od7 an7 od8 an8 od9 an9 od10 an10 : Option Addr} {sl0 sl1 sl2 sl3 sl4 sl5 sl6 sl7 sl8 sl9 sl10 : Array (Option Value)} {oc0 kV0 dc0 pm0 cd0 ct0 oc1 kV1 dc1 pm1 cd1 ct1 oc2 kV2 dc2 pm2 cd2 ct2 oc3 kV3 dc3 pm3 cd3 ct3 oc4 kV4 dc4 pm4 cd4 ct4 oc5 kV5 dc5 pm5 cd5 ct5 oc6 kV6 dc6 pm6 cd6 ct6 oc7 kV7 dc7 pm7 cd7 ct7 oc8 kV8 dc8 pm8 cd8 ct8 oc9 kV9 dc9 pm9 cd9 ct9 oc10 kV10 dc10 pm10 cd10 ct10 : Value}
    (a0 : PySem.W.nsIn K mainGlobals "_law_deck" = some (some (.ref f0))) (l0 : K.lookup f0 = some ⟨oc0, od0, .func (PySem.W.fnOf "_law_deck" "_law_deck" (defArgs s_l_deck) (defBody s_l_deck) (defScope s_l_deck) .none kV0 dc0 pm0 an0 cd0 ct0), sl0⟩) (c0 : PySem.W.codeIn K cd0 "_law_deck" = true) (k0 : PySem.W.keepIn K (.ref f0) = true)
    (a1 : PySem.W.nsIn K mainGlobals "_law_draw" = some (some (.ref f1))) (l1 : K.lookup f1 = some ⟨oc1, od1, .func (PySem.W.fnOf "_law_draw" "_law_draw" (defArgs s_l_draw) (defBody s_l_draw) (defScope s_l_draw) .none kV1 dc1 pm1 an1 cd1 ct1), sl1⟩) (c1 : PySem.W.codeIn K cd1 "_law_draw" = true) (k1 : PySem.W.keepIn K (.ref f1) = true)
    (a2 : PySem.W.nsIn K mainGlobals "_law_intervals" = some (some (.ref f2))) (l2 : K.lookup f2 = some ⟨oc2, od2, .func (PySem.W.fnOf "_law_intervals" "_law_intervals" (defArgs s_l_intervals) (defBody s_l_intervals) (defScope s_l_intervals) .none kV2 dc2 pm2 an2 cd2 ct2), sl2⟩) (c2 : PySem.W.codeIn K cd2 "_law_intervals" = true) (k2 : PySem.W.keepIn K (.ref f2) = true)
    (a3 : PySem.W.nsIn K mainGlobals "_law_same" = some (some (.ref f3))) (l3 : K.lookup f3 = some ⟨oc3, od3, .func (PySem.W.fnOf "_law_same" "_law_same" (defArgs s_l_same) (defBody s_l_same) (defScope s_l_same) .none kV3 dc3 pm3 an3 cd3 ct3), sl3⟩) (c3 : PySem.W.codeIn K cd3 "_law_same" = true) (k3 : PySem.W.keepIn K (.ref f3) = true)
    (a4 : PySem.W.nsIn K mainGlobals "_law_same_list" = some (some (.ref f4))) (l4 : K.lookup f4 = some ⟨oc4, od4, .func (PySem.W.fnOf "_law_same_list" "_law_same_list" (defArgs s_l_same_list) (defBody s_l_same_list) (defScope s_l_same_list) .none kV4 dc4 pm4 an4 cd4 ct4), sl4⟩) (c4 : PySem.W.codeIn K cd4 "_law_same_list" = true) (k4 : PySem.W.keepIn K (.ref f4) = true)
    (a5 : PySem.W.nsIn K mainGlobals "united" = some (some (.ref f5))) (l5 : K.lookup f5 = some ⟨oc5, od5, .func (PySem.W.fnOf "united" "united" (defArgs s_united) (defBody s_united) (defScope s_united) .none kV5 dc5 pm5 an5 cd5 ct5), sl5⟩) (c5 : PySem.W.codeIn K cd5 "united" = true) (k5 : PySem.W.keepIn K (.ref f5) = true)
    (a6 : PySem.W.nsIn K mainGlobals "part_at_least" = some (some (.ref f6))) (l6 : K.lookup f6 = some ⟨oc6, od6, .func (PySem.W.fnOf "part_at_least" "part_at_least" (defArgs s_part_at_least) (defBody s_part_at_least) (defScope s_part_at_least) .none kV6 dc6 pm6 an6 cd6 ct6), sl6⟩) (c6 : PySem.W.codeIn K cd6 "part_at_least" = true) (k6 : PySem.W.keepIn K (.ref f6) = true)
    (a7 : PySem.W.nsIn K mainGlobals "value_at" = some (some (.ref f7))) (l7 : K.lookup f7 = some ⟨oc7, od7, .func (PySem.W.fnOf "value_at" "value_at" (defArgs s_value_at) (defBody s_value_at) (defScope s_value_at) .none kV7 dc7 pm7 an7 cd7 ct7), sl7⟩) (c7 : PySem.W.codeIn K cd7 "value_at" = true) (k7 : PySem.W.keepIn K (.ref f7) = true)
    (a8 : PySem.W.nsIn K mainGlobals "bounds" = some (some (.ref f8))) (l8 : K.lookup f8 = some ⟨oc8, od8, .func (PySem.W.fnOf "bounds" "bounds" (defArgs s_bounds) (defBody s_bounds) (defScope s_bounds) .none kV8 dc8 pm8 an8 cd8 ct8), sl8⟩) (c8 : PySem.W.codeIn K cd8 "bounds" = true) (k8 : PySem.W.keepIn K (.ref f8) = true)
    (a9 : PySem.W.nsIn K mainGlobals "parts_range" = some (some (.ref f9))) (l9 : K.lookup f9 = some ⟨oc9, od9, .func (PySem.W.fnOf "parts_range" "parts_range" (defArgs s_parts_range) (defBody s_parts_range) (defScope s_parts_range) .none kV9 dc9 pm9 an9 cd9 ct9), sl9⟩) (c9 : PySem.W.codeIn K cd9 "parts_range" = true) (k9 : PySem.W.keepIn K (.ref f9) = true)
    (a10 : PySem.W.nsIn K mainGlobals "law" = some (some (.ref f10))) (l10 : K.lookup f10 = some ⟨oc10, od10, .func (PySem.W.fnOf "law" "law" (defArgs s_law) (defBody s_law) (defScope s_law) .none kV10 dc10 pm10 an10 cd10 ct10), sl10⟩) (c10 : PySem.W.codeIn K cd10 "law" = true) (k10 : PySem.W.keepIn K (.ref f10) = true)
    (z0 : PySem.W.nsIn K mainGlobals "min" = some none)
    (z1 : PySem.W.nsIn K mainGlobals "max" = some none)
    (z2 : PySem.W.nsIn K mainGlobals "len" = some none)
    (z3 : PySem.W.nsIn K mainGlobals "list" = some none)
    (z4 : PySem.W.nsIn K mainGlobals "int" = some none)
    (z5 : PySem.W.nsIn K mainGlobals "isinstance" = some none)
    (z6 : PySem.W.nsIn K mainGlobals "str" = some none)
    (z7 : PySem.W.nsIn K mainGlobals "tuple" = some none)
    (z8 : PySem.W.nsIn K mainGlobals "range" = some none)
    (z9 : PySem.W.nsIn K mainGlobals "bool" = some none)
    (z10 : PySem.W.nsIn K mainGlobals "reversed" = some none)
    : ∃ fd : FuncData, (∀ (s : Shared) (v : Value), BindsTo s fd ⟨[v], []⟩ [("_law_script", v)]) ∧ ∀ base : Heap, K.In base → base.Ns mainGlobals mg → FnOk l.prog w K mg base CX0 5 fa fd ["_law_script"] (spD K 1 sdLaw) := by
  have e := hfa.symm.trans (PySem.W.mg_of X G a10)
  cases e
  have F0 := fun_mk (st := s_l_deck) l0 c0 k0
  have b0 := F0.binds (ps := ["_law_script"]) fun _ _ _ _ _ _ us hl => match us, hl with | [_], _ => rfl
  have F1 := fun_mk (st := s_l_draw) l1 c1 k1
  have b1 := F1.binds (ps := ["_law_deck_here", "_law_most"]) fun _ _ _ _ _ _ us hl => match us, hl with | [_, _], _ => rfl
  have F2 := fun_mk (st := s_l_intervals) l2 c2 k2
  have b2 := F2.binds (ps := ["_law_deck_here"]) fun _ _ _ _ _ _ us hl => match us, hl with | [_], _ => rfl
  have F3 := fun_mk (st := s_l_same) l3 c3 k3
  have b3 := F3.binds (ps := ["_law_actual", "_law_due"]) fun _ _ _ _ _ _ us hl => match us, hl with | [_, _], _ => rfl
  have F4 := fun_mk (st := s_l_same_list) l4 c4 k4
  have b4 := F4.binds (ps := ["_law_actual", "_law_due"]) fun _ _ _ _ _ _ us hl => match us, hl with | [_, _], _ => rfl
  have F5 := fun_mk (st := s_united) l5 c5 k5
  have b5 := F5.binds (ps := ["intervals"]) fun _ _ _ _ _ _ us hl => match us, hl with | [_], _ => rfl
  have F6 := fun_mk (st := s_part_at_least) l6 c6 k6
  have b6 := F6.binds (ps := ["form", "interval"]) fun _ _ _ _ _ _ us hl => match us, hl with | [_, _], _ => rfl
  have F7 := fun_mk (st := s_value_at) l7 c7 k7
  have b7 := F7.binds (ps := ["form", "u"]) fun _ _ _ _ _ _ us hl => match us, hl with | [_, _], _ => rfl
  have F8 := fun_mk (st := s_bounds) l8 c8 k8
  have b8 := F8.binds (ps := ["form", "interval"]) fun _ _ _ _ _ _ us hl => match us, hl with | [_, _], _ => rfl
  have F9 := fun_mk (st := s_parts_range) l9 c9 k9
  have b9 := F9.binds (ps := ["intervals", "least", "greatest"]) fun _ _ _ _ _ _ us hl => match us, hl with | [_, _, _], _ => rfl
  have F10 := fun_mk (st := s_law) l10 c10 k10
  have b10 := F10.binds (ps := ["_law_script"]) fun _ _ _ _ _ _ us hl => match us, hl with | [_], _ => rfl
  let T : Tx K mg := ⟨_, _, ⟨F0, PySem.W.mg_of X G a0, b0⟩, _, _, ⟨F1, PySem.W.mg_of X G a1, b1⟩, _, _, ⟨F2, PySem.W.mg_of X G a2, b2⟩, _, _, ⟨F3, PySem.W.mg_of X G a3, b3⟩, _, _, ⟨F4, PySem.W.mg_of X G a4, b4⟩, _, _, ⟨F5, PySem.W.mg_of X G a5, b5⟩, _, _, ⟨F6, PySem.W.mg_of X G a6, b6⟩, _, _, ⟨F7, PySem.W.mg_of X G a7, b7⟩, _, _, ⟨F8, PySem.W.mg_of X G a8, b8⟩, _, _, ⟨F9, PySem.W.mg_of X G a9, b9⟩, _, _, ⟨F10, PySem.W.mg_of X G a10, b10⟩, PySem.W.mg_none_of X G z0, PySem.W.mg_none_of X G z1, PySem.W.mg_none_of X G z2, PySem.W.mg_none_of X G z3, PySem.W.mg_none_of X G z4, PySem.W.mg_none_of X G z5, PySem.W.mg_none_of X G z6, PySem.W.mg_none_of X G z7, PySem.W.mg_none_of X G z8, PySem.W.mg_none_of X G z9, PySem.W.mg_none_of X G z10⟩
  exact ⟨_, fun s v => .of_eq rfl, fun base _ _ => ok_law T⟩
end K51
open PySem PySem.W PyProof.Rows
set_option maxHeartbeats 0 in
theorem PySem.Challenge.cw_retroact_k51_forms_and_intervals_holds : PySem.Challenge.rw_retroact_k51_forms_and_intervals.Holds := by
  w_on; o_law; k_head; (case hw => w_witness2)
  k_fill
  refine L2.walk_of (l := PySem.Challenge.rw_retroact_k51_forms_and_intervals) (n := 63) (k := 5) (x := "_law_script") (CX := fun _ => L2.CX0) (sp := fun w => DL.spD _ 1 DL.sdLaw) rfl (by decide) rfl ⟨rfl, by decide, by decide⟩ (fun w h Y => PySem.W.kIn_of Y) ?F (fun _ _ a ns hl _ hS => DL.law_sp hl hS) (fun _ _ _ _ _ h => h)
  case F =>
    intro w mg fa h KX G hmg
    refine' K51.all_mk KX G hmg ?a0 ?l0 ?c0 ?k0 ?a1 ?l1 ?c1 ?k1 ?a2 ?l2 ?c2 ?k2 ?a3 ?l3 ?c3 ?k3 ?a4 ?l4 ?c4 ?k4 ?a5 ?l5 ?c5 ?k5 ?a6 ?l6 ?c6 ?k6 ?a7 ?l7 ?c7 ?k7 ?a8 ?l8 ?c8 ?k8 ?a9 ?l9 ?c9 ?k9 ?a10 ?l10 ?c10 ?k10 ?z0 ?z1 ?z2 ?z3 ?z4 ?z5 ?z6 ?z7 ?z8 ?z9 ?z10
    (case a0 => k_is); (case l0 => k_is); (case c0 => k_is); (case k0 => k_is); (case a1 => k_is); (case l1 => k_is); (case c1 => k_is); (case k1 => k_is); (case a2 => k_is); (case l2 => k_is); (case c2 => k_is); (case k2 => k_is); (case a3 => k_is); (case l3 => k_is); (case c3 => k_is); (case k3 => k_is); (case a4 => k_is); (case l4 => k_is); (case c4 => k_is); (case k4 => k_is); (case a5 => k_is); (case l5 => k_is); (case c5 => k_is); (case k5 => k_is); (case a6 => k_is); (case l6 => k_is); (case c6 => k_is); (case k6 => k_is); (case a7 => k_is); (case l7 => k_is); (case c7 => k_is); (case k7 => k_is); (case a8 => k_is); (case l8 => k_is); (case c8 => k_is); (case k8 => k_is); (case a9 => k_is); (case l9 => k_is); (case c9 => k_is); (case k9 => k_is); (case a10 => k_is); (case l10 => k_is); (case c10 => k_is); (case k10 => k_is); (case z0 => k_is); (case z1 => k_is); (case z2 => k_is); (case z3 => k_is); (case z4 => k_is); (case z5 => k_is); (case z6 => k_is); (case z7 => k_is); (case z8 => k_is); (case z9 => k_is); (case z10 => k_is)
