import PyProof.Rows.All
import Wide.All
import OpenK.AllK
import Wide.FinOn
import HandS.ForMost
import HandS.Deep
import HandS.Conv
import HandS.Wide
import KE.SortData
import KE.SortLaws
import HandS.More
import PySem.Challenge.RW_retroact_k29_differences_of_calls
set_option Elab.async false
set_option linter.all false
set_option maxRecDepth 100000
set_option maxHeartbeats 4000000
/-! DL: readings over data, without the heap. Part a: data, what stands for it, worlds. -/
namespace DL
open PySem PySem.Spec PyProof.Rows L2

abbrev Frg := PySem.W.Frag
abbrev Sg := L2.St
/-- data -/
inductive D where
  | non | bl (b : Bool) | int (i : Int) | str (x : Str)
  | tup (ds : List D) | lst (ds : List D)
  | dic (ks : List Key) (ds : List D) | obj (C : Addr) (ns : List Str) (ds : List D)
  | scr (ds : List D)
  deriving Inhabited

/-- a list that stays as it is -/
def LsR (Z : Addr → Prop) (H : Hp) (a : Addr) (vs : List V) : Prop := (Z a ∧ H a = some (.lst vs)) ∨ ∃ o, H a = some (.frz o (.lst vs))
/-- .., it may be an object of the written part (the script) -/
def LsS (K : Frg) (Z : Addr → Prop) (H : Hp) (a : Addr) (vs : List V) : Prop := LsR Z H a vs ∨
    ∃ (o : Obj) (its : Array Value) (n : Nat), K.lookup a = some o ∧ o.cls = .type "list" ∧ o.dict = none ∧ o.data = .seq its n ∧ its.size ≤ sizeLine ∧ Vals vs its.toList
theorem LsR.rd {Z : Addr → Prop} {H : Hp} {a : Addr} {vs : List V} (h : LsR Z H a vs) : Rd H a (.lst vs) := by
  rcases h with ⟨_, h⟩ | ⟨o, h⟩
  · exact .inl h
  · exact .inr ⟨o, h⟩
theorem LsR.sq {K : Frg} {Z : Addr → Prop} {H : Hp} {a : Addr} {vs : List V} (h : LsR Z H a vs) : SqL K H a vs := .inl h.rd
theorem LsS.sq {K : Frg} {Z : Addr → Prop} {H : Hp} {a : Addr} {vs : List V} (h : LsS K Z H a vs) : SqL K H a vs := by
  rcases h with h | h
  · exact h.sq
  · exact .inr h

mutual
inductive Rep (K : Frg) (Z : Addr → Prop) (H : Hp) : V → D → Prop
  | non : Rep K Z H .non .non
  | bl (b : Bool) : Rep K Z H (.bl b) (.bl b)
  | int (i : Int) : Rep K Z H (.int i) (.int i)
  | str (x : Str) : Rep K Z H (.str x) (.str x)
  | tup {a : Addr} {vs : List V} {ds : List D} : SqT K H a vs → Reps K Z H vs ds → Rep K Z H (.ref a) (.tup ds)
  | lst {a : Addr} {vs : List V} {ds : List D} : LsR Z H a vs → Reps K Z H vs ds → Rep K Z H (.ref a) (.lst ds)
  | scr {a : Addr} {vs : List V} {ds : List D} : LsS K Z H a vs → Reps K Z H vs ds → Rep K Z H (.ref a) (.scr ds)
  | dic {a : Addr} {kvs : List (Key × V)} {ks : List Key} {ds : List D} : Z a → H a = some (.dK kvs) → kvs.map (·.1) = ks → Reps K Z H (kvs.map (·.2)) ds → Rep K Z H (.ref a) (.dic ks ds)
  | obj {a C dx : Addr} {fs : List (Str × V)} {ns : List Str} {ds : List D} : Z a → H a = some (.ins C dx fs) → fs.map (·.1) = ns → Reps K Z H (fs.map (·.2)) ds → Rep K Z H (.ref a) (.obj C ns ds)
inductive Reps (K : Frg) (Z : Addr → Prop) (H : Hp) : List V → List D → Prop
  | nil : Reps K Z H [] []
  | cons {v : V} {vs : List V} {d : D} {ds : List D} : Rep K Z H v d → Reps K Z H vs ds → Reps K Z H (v :: vs) (d :: ds)
end

/-- the world goes on: what is frozen stays, tuples stay -/
structure Stp (Z : Addr → Prop) (H : Hp) (Z' : Addr → Prop) (H' : Hp) : Prop where
  zz : ∀ a, Z a → Z' a
  ke : ∀ a, Z a → H' a = H a
  tu : ∀ a xs, H a = some (.tup xs) → H' a = some (.tup xs)
  fz : ∀ a o u, H a = some (.frz o u) → H' a = some (.frz o u)
theorem Stp.refl (Z : Addr → Prop) (H : Hp) : Stp Z H Z H := ⟨fun _ h => h, fun _ _ => rfl, fun _ _ h => h, fun _ _ _ h => h⟩
theorem Stp.trans {Z1 Z2 Z3 : Addr → Prop} {H1 H2 H3 : Hp} (a : Stp Z1 H1 Z2 H2) (b : Stp Z2 H2 Z3 H3) : Stp Z1 H1 Z3 H3 :=
  ⟨fun x h => b.zz x (a.zz x h), fun x h => (b.ke x (a.zz x h)).trans (a.ke x h), fun x xs h => b.tu x xs (a.tu x xs h), fun x o u h => b.fz x o u (a.fz x o u h)⟩

section
variable {K : Frg} {Z Z' : Addr → Prop} {H H' : Hp}
theorem LsR.mono (st : Stp Z H Z' H') {a : Addr} {vs : List V} (h : LsR Z H a vs) : LsR Z' H' a vs := by
  rcases h with ⟨z, h⟩ | ⟨o, h⟩
  · exact .inl ⟨st.zz a z, (st.ke a z).trans h⟩
  · exact .inr ⟨o, st.fz _ _ _ h⟩
theorem LsS.mono (st : Stp Z H Z' H') {a : Addr} {vs : List V} (h : LsS K Z H a vs) : LsS K Z' H' a vs := by
  rcases h with h | h
  · exact .inl (h.mono st)
  · exact .inr h
theorem sqT_mono (st : Stp Z H Z' H') {a : Addr} {vs : List V} (h : SqT K H a vs) : SqT K H' a vs := by
  rcases h with (h | ⟨o, h⟩) | h
  · exact .inl (.inl (st.tu _ _ h))
  · exact .inl (.inr ⟨o, st.fz _ _ _ h⟩)
  · exact .inr h
mutual
theorem Rep.mono (st : Stp Z H Z' H') : ∀ {v : V} {d : D}, Rep K Z H v d → Rep K Z' H' v d
  | _, _, .non => .non
  | _, _, .bl b => .bl b
  | _, _, .int i => .int i
  | _, _, .str x => .str x
  | _, _, .tup h hs => .tup (sqT_mono st h) (Reps.mono st hs)
  | _, _, .lst h hs => .lst (h.mono st) (Reps.mono st hs)
  | _, _, .scr h hs => .scr (h.mono st) (Reps.mono st hs)
  | _, _, .dic z h e hs => .dic (st.zz _ z) ((st.ke _ z).trans h) e (Reps.mono st hs)
  | _, _, .obj z h e hs => .obj (st.zz _ z) ((st.ke _ z).trans h) e (Reps.mono st hs)
theorem Reps.mono (st : Stp Z H Z' H') : ∀ {vs : List V} {ds : List D}, Reps K Z H vs ds → Reps K Z' H' vs ds
  | _, _, .nil => .nil
  | _, _, .cons h hs => .cons (Rep.mono st h) (Reps.mono st hs)
end
theorem Reps.length : ∀ {vs : List V} {ds : List D}, Reps K Z H vs ds → vs.length = ds.length
  | _, _, .nil => rfl
  | _, _, .cons _ hs => by rw [List.length_cons, List.length_cons, Reps.length hs]
theorem Reps.get : ∀ {vs : List V} {ds : List D} {i : Nat} {d : D}, Reps K Z H vs ds → ds[i]? = some d → ∃ v, vs[i]? = some v ∧ Rep K Z H v d
  | _, _, _, _, .nil, e => by simp at e
  | _, _, 0, _, .cons h _, e => by simp at e; subst e; exact ⟨_, rfl, h⟩
  | _, _, i + 1, _, .cons _ hs, e => by
    obtain ⟨v, e1, e2⟩ := Reps.get (i := i) hs (by simpa using e)
    exact ⟨v, by simpa using e1, e2⟩
theorem Reps.getv : ∀ {vs : List V} {ds : List D} {i : Nat} {v : V}, Reps K Z H vs ds → vs[i]? = some v → ∃ d, ds[i]? = some d ∧ Rep K Z H v d
  | _, _, _, _, .nil, e => by simp at e
  | _, _, 0, _, .cons h _, e => by simp at e; subst e; exact ⟨_, rfl, h⟩
  | _, _, i + 1, _, .cons _ hs, e => by
    obtain ⟨v, e1, e2⟩ := Reps.getv (i := i) hs (by simpa using e)
    exact ⟨v, by simpa using e1, e2⟩
theorem Reps.append : ∀ {vs ws : List V} {ds es : List D}, Reps K Z H vs ds → Reps K Z H ws es → Reps K Z H (vs ++ ws) (ds ++ es)
  | _, _, _, _, .nil, r => r
  | _, _, _, _, .cons h hs, r => .cons h (Reps.append hs r)
theorem Reps.one {v : V} {d : D} (h : Rep K Z H v d) : Reps K Z H [v] [d] := .cons h .nil
theorem Reps.take : ∀ {vs : List V} {ds : List D} (n : Nat), Reps K Z H vs ds → Reps K Z H (vs.take n) (ds.take n)
  | _, _, 0, _ => .nil
  | _, _, _ + 1, .nil => .nil
  | _, _, n + 1, .cons h hs => .cons h (Reps.take n hs)
theorem Reps.drop : ∀ {vs : List V} {ds : List D} (n : Nat), Reps K Z H vs ds → Reps K Z H (vs.drop n) (ds.drop n)
  | _, _, 0, r => r
  | _, _, _ + 1, .nil => .nil
  | _, _, n + 1, .cons _ hs => Reps.drop n hs
theorem Reps.set : ∀ {vs : List V} {ds : List D} (i : Nat) {v : V} {d : D}, Reps K Z H vs ds → Rep K Z H v d → Reps K Z H (vs.set i v) (ds.set i d)
  | _, _, _, _, _, .nil, _ => .nil
  | _, _, 0, _, _, .cons _ hs, r => .cons r hs
  | _, _, i + 1, _, _, .cons h hs, r => .cons h (Reps.set i hs r)
theorem Reps.dropLast {vs : List V} {ds : List D} (h : Reps K Z H vs ds) : Reps K Z H vs.dropLast ds.dropLast := by
  rw [List.dropLast_eq_take, List.dropLast_eq_take, h.length]
  exact h.take _
theorem Reps.reverse : ∀ {vs : List V} {ds : List D}, Reps K Z H vs ds → Reps K Z H vs.reverse ds.reverse
  | _, _, .nil => .nil
  | _, _, .cons h hs => by
    rw [List.reverse_cons, List.reverse_cons]
    exact (Reps.reverse hs).append (Reps.one h)
theorem Reps.eraseIdx : ∀ {vs : List V} {ds : List D} (i : Nat), Reps K Z H vs ds → Reps K Z H (vs.eraseIdx i) (ds.eraseIdx i)
  | _, _, _, .nil => .nil
  | _, _, 0, .cons _ hs => hs
  | _, _, i + 1, .cons h hs => .cons h (Reps.eraseIdx i hs)
theorem Reps.insertIdx {vs : List V} {ds : List D} (i : Nat) {v : V} {d : D} (h : Reps K Z H vs ds) (r : Rep K Z H v d) : Reps K Z H (vs.take i ++ v :: vs.drop i) (ds.take i ++ d :: ds.drop i) :=
  (h.take i).append (.cons r (h.drop i))
end

/-- what one owns: a tree of objects that nobody else reaches -/
inductive T where
  | fr (d : D) | lst (ds : List D) | dic (ks : List Key) (ds : List D) | obj (C : Addr) (ns : List Str) (ts : List T)
  deriving Inhabited
mutual
def T.fz : T → D
  | .fr d => d
  | .lst ds => .lst ds
  | .dic ks ds => .dic ks ds
  | .obj C ns ts => .obj C ns (T.fzs ts)
def T.fzs : List T → List D
  | [] => []
  | t :: ts => t.fz :: T.fzs ts
end
mutual
inductive TRep (K : Frg) (Z : Addr → Prop) (H : Hp) : V → T → List Addr → Prop
  | fr {v : V} {d : D} : Rep K Z H v d → TRep K Z H v (.fr d) []
  | lst {a : Addr} {vs : List V} {ds : List D} : H a = some (.lst vs) → Reps K Z H vs ds → TRep K Z H (.ref a) (.lst ds) [a]
  | dic {a : Addr} {kvs : List (Key × V)} {ks : List Key} {ds : List D} : H a = some (.dK kvs) → kvs.map (·.1) = ks → Reps K Z H (kvs.map (·.2)) ds → TRep K Z H (.ref a) (.dic ks ds) [a]
  | obj {a C dx : Addr} {fs : List (Str × V)} {ns : List Str} {ts : List T} {F : List Addr} : H a = some (.ins C dx fs) → fs.map (·.1) = ns → TReps K Z H (fs.map (·.2)) ts F → TRep K Z H (.ref a) (.obj C ns ts) (a :: F)
inductive TReps (K : Frg) (Z : Addr → Prop) (H : Hp) : List V → List T → List Addr → Prop
  | nil : TReps K Z H [] [] []
  | cons {v : V} {vs : List V} {t : T} {ts : List T} {F G : List Addr} : TRep K Z H v t F → TReps K Z H vs ts G → TReps K Z H (v :: vs) (t :: ts) (F ++ G)
end
/-- an object that may be owned -/
def MutK : HO → Prop
  | .lst _ => True
  | .dK _ => True
  | .ins _ _ _ => True
  | _ => False
section
variable {K : Frg} {Z Z' : Addr → Prop} {H H' : Hp}
mutual
theorem TRep.mono (st : Stp Z H Z' H') : ∀ {v : V} {t : T} {F : List Addr}, TRep K Z H v t F → (∀ a ∈ F, H' a = H a) → TRep K Z' H' v t F
  | _, _, _, .fr h, _ => .fr (h.mono st)
  | _, _, _, .lst h hs, k => .lst ((k _ (by simp)).trans h) (hs.mono st)
  | _, _, _, .dic h e hs, k => .dic ((k _ (by simp)).trans h) e (hs.mono st)
  | _, _, _, .obj h e hs, k => .obj ((k _ (by simp)).trans h) e (TReps.mono st hs fun a ha => k a (by simp [ha]))
theorem TReps.mono (st : Stp Z H Z' H') : ∀ {vs : List V} {ts : List T} {F : List Addr}, TReps K Z H vs ts F → (∀ a ∈ F, H' a = H a) → TReps K Z' H' vs ts F
  | _, _, _, .nil, _ => .nil
  | _, _, _, .cons h hs, k => .cons (TRep.mono st h fun a ha => k a (by simp [ha])) (TReps.mono st hs fun a ha => k a (by simp [ha]))
end
mutual
theorem TRep.kind : ∀ {v : V} {t : T} {F : List Addr}, TRep K Z H v t F → ∀ a ∈ F, ∃ o, H a = some o ∧ MutK o
  | _, _, _, .fr _, a, ha => by cases ha
  | _, _, _, .lst h _, a, ha => by
    have e := List.mem_singleton.mp ha
    subst e
    exact ⟨_, h, trivial⟩
  | _, _, _, .dic h _ _, a, ha => by
    have e := List.mem_singleton.mp ha
    subst e
    exact ⟨_, h, trivial⟩
  | _, _, _, .obj h _ hs, a, ha => by
    rcases List.mem_cons.mp ha with e | ha
    · subst e
      exact ⟨_, h, trivial⟩
    · exact TReps.kind hs a ha
theorem TReps.kind : ∀ {vs : List V} {ts : List T} {F : List Addr}, TReps K Z H vs ts F → ∀ a ∈ F, ∃ o, H a = some o ∧ MutK o
  | _, _, _, .nil, a, ha => by cases ha
  | _, _, _, .cons h hs, a, ha => by
    rcases List.mem_append.mp ha with ha | ha
    · exact TRep.kind h a ha
    · exact TReps.kind hs a ha
end
mutual
/-- what is owned is frozen -/
theorem TRep.froze : ∀ {v : V} {t : T} {F : List Addr}, TRep K Z H v t F → (∀ a, Z a → Z' a) → (∀ a ∈ F, Z' a) → Rep K Z' H v t.fz
  | _, _, _, .fr h, zz, _ => h.mono ⟨zz, fun _ _ => rfl, fun _ _ h => h, fun _ _ _ h => h⟩
  | _, _, _, .lst h hs, zz, zf => .lst (.inl ⟨zf _ (by simp), h⟩) (hs.mono ⟨zz, fun _ _ => rfl, fun _ _ h => h, fun _ _ _ h => h⟩)
  | _, _, _, .dic h e hs, zz, zf => .dic (zf _ (by simp)) h e (hs.mono ⟨zz, fun _ _ => rfl, fun _ _ h => h, fun _ _ _ h => h⟩)
  | _, _, _, .obj h e hs, zz, zf => .obj (zf _ (by simp)) h e (TReps.froze hs zz fun a ha => zf a (by simp [ha]))
theorem TReps.froze : ∀ {vs : List V} {ts : List T} {F : List Addr}, TReps K Z H vs ts F → (∀ a, Z a → Z' a) → (∀ a ∈ F, Z' a) → Reps K Z' H vs (T.fzs ts)
  | _, _, _, .nil, _, _ => .nil
  | _, _, _, .cons h hs, zz, zf => .cons (TRep.froze h zz fun a ha => zf a (by simp [ha])) (TReps.froze hs zz fun a ha => zf a (by simp [ha]))
end
theorem Stp.grow (zz : ∀ a, Z a → Z' a) : Stp Z H Z' H := ⟨zz, fun _ _ => rfl, fun _ _ h => h, fun _ _ _ h => h⟩
/-- a new object -/
theorem Stp.new {p : Addr} {o : HO} (zt : ∀ a, Z a → H a ≠ none) (hp : H p = none) : Stp Z H Z (upd H p o) :=
  ⟨fun _ h => h, fun a z => upd_ne fun e => zt a z (e ▸ hp), fun a xs h => by rw [upd_ne (ne_of_none h hp)]; exact h, fun a o u h => by rw [upd_ne (ne_of_none h hp)]; exact h⟩
/-- an owned object is written -/
theorem Stp.put {p : Addr} {o u : HO} (nz : ¬ Z p) (hp : H p = some u) (k : MutK u) : Stp Z H Z (upd H p o) :=
  ⟨fun _ h => h, fun a z => upd_ne fun e => nz (e ▸ z), fun a xs h => by
    rw [upd_ne fun e => by rw [e, hp] at h; cases h; exact k]
    exact h, fun a o u h => by
    rw [upd_ne fun e => by rw [e, hp] at h; cases h; exact k]
    exact h⟩
end

/-- a name's place: nothing known; data; an owned tree; a parameter's tree -/
inductive S where
  | un | fr (d : D) | ow (t : T) | mu (t : T)
  deriving Inhabited
def SRep (K : Frg) (Z : Addr → Prop) (H : Hp) (o : Option V) (s : S) (F : List Addr) : Prop :=
  match s with
  | .un => F = []
  | .fr d => F = [] ∧ ∃ v, o = some v ∧ Rep K Z H v d
  | .ow t => ∃ v, o = some v ∧ TRep K Z H v t F
  | .mu t => ∃ v, o = some v ∧ TRep K Z H v t F
theorem SRep.kind {K : Frg} {Z : Addr → Prop} {H : Hp} {o : Option V} {s : S} {F : List Addr} (h : SRep K Z H o s F) : ∀ a ∈ F, ∃ o, H a = some o ∧ MutK o := by
  cases s with
  | un => intro a ha; rw [show F = [] from h] at ha; cases ha
  | fr d => intro a ha; rw [h.1] at ha; cases ha
  | ow t => obtain ⟨v, _, h⟩ := h; exact h.kind
  | mu t => obtain ⟨v, _, h⟩ := h; exact h.kind
theorem SRep.mono {K : Frg} {Z Z' : Addr → Prop} {H H' : Hp} {o : Option V} {s : S} {F : List Addr} (st : Stp Z H Z' H') (h : SRep K Z H o s F) (k : ∀ a ∈ F, H' a = H a) : SRep K Z' H' o s F := by
  cases s with
  | un => exact h
  | fr d => obtain ⟨e, v, e1, r⟩ := h; exact ⟨e, v, e1, r.mono st⟩
  | ow t => obtain ⟨v, e, h⟩ := h; exact ⟨v, e, h.mono st k⟩
  | mu t => obtain ⟨v, e, h⟩ := h; exact ⟨v, e, h.mono st k⟩

abbrev Foot := Nat → List Addr
structure Slots (K : Frg) (Z : Addr → Prop) (H : Hp) (σ : Sg) (E : List S) (F : Foot) : Prop where
  len : σ.length = E.length
  rep : ∀ (i : Nat) s, E[i]? = some s → SRep K Z H (σ.getD i none) s (F i)
  out : ∀ (i : Nat), E.length ≤ i → F i = []
  nd : ∀ i, (F i).Nodup
  dj : ∀ i j a, a ∈ F i → a ∈ F j → i = j

/-- the entry of a def: what stood, the parameters' trees, what was frozen, the arguments -/
structure Ctx where
  K : Frg
  H0 : Hp
  Fm : Foot
  Z0 : Addr → Prop
  vs : List V
structure WdF (C : Ctx) (Z : Addr → Prop) (σ : Sg) (E : List S) (H : Hp) (F : Foot) : Prop where
  sl : Slots C.K Z H σ E F
  nz : ∀ i a, a ∈ F i → ¬ Z a
  own : ∀ (i : Nat) t a, E[i]? = some (S.ow t) → a ∈ F i → C.H0 a = none
  mum : ∀ (i : Nat) t a, E[i]? = some (S.mu t) → a ∈ F i → a ∈ C.Fm i ∨ C.H0 a = none
  mus : ∀ (i : Nat) t, E[i]? = some (S.mu t) → ∃ v, C.vs[i]? = some v ∧ σ[i]? = some (some v)
  fr : ∀ b o, C.H0 b = some o → (∀ i, b ∉ C.Fm i) → H b = some o
  z0 : ∀ a, C.Z0 a → Z a
  zn : ∀ a, Z a → C.Z0 a ∨ C.H0 a = none
  zt : ∀ a, Z a → H a ≠ none
  kt : ∀ b, C.H0 b ≠ none → H b ≠ none
def Wd (C : Ctx) (Z : Addr → Prop) (σ : Sg) (E : List S) (H : Hp) : Prop := ∃ F, WdF C Z σ E H F

section
variable {C : Ctx} {Z Z' : Addr → Prop} {σ : Sg} {E : List S} {H H' : Hp} {F : Foot}
theorem WdF.kind (w : WdF C Z σ E H F) {i : Nat} {a : Addr} (ha : a ∈ F i) : ∃ o, H a = some o ∧ MutK o := by
  by_cases h : i < E.length
  · exact (w.sl.rep i _ (List.getElem?_eq_getElem h)).kind a ha
  · rw [w.sl.out i (by omega)] at ha
    cases ha
/-- footprints are kept, the world goes on -/
theorem WdF.go (w : WdF C Z σ E H F) (st : Stp Z H Z' H') (k : ∀ i, ∀ a ∈ F i, H' a = H a) (nz : ∀ i a, a ∈ F i → ¬ Z' a) (fr : ∀ b o, C.H0 b = some o → (∀ i, b ∉ C.Fm i) → H b = some o → H' b = some o)
    (zn : ∀ a, Z' a → Z a ∨ C.H0 a = none) (zt : ∀ a, Z' a → H' a ≠ none) (kt : ∀ b, H b ≠ none → H' b ≠ none) : WdF C Z' σ E H' F :=
  ⟨⟨w.sl.len, fun i s e => (w.sl.rep i s e).mono st (k i), w.sl.out, w.sl.nd, w.sl.dj⟩, nz, w.own, w.mum, w.mus, fun b o e n => fr b o e n (w.fr b o e n), fun a h => st.zz a (w.z0 a h),
    fun a h => (zn a h).elim (w.zn a) .inr, zt, fun b h => kt b (w.kt b h)⟩
theorem upd_kt {p : Addr} {o : HO} : ∀ b, H b ≠ none → upd H p o b ≠ none := fun b h => by
  by_cases e : b = p
  · subst e; rw [upd_same]; intro q; cases q
  · rw [upd_ne e]; exact h
theorem WdF.new (w : WdF C Z σ E H F) {p : Addr} {o : HO} (hp : H p = none) : WdF C Z σ E (upd H p o) F :=
  w.go (Stp.new w.zt hp) (fun i a ha => by
      obtain ⟨u, e, _⟩ := w.kind ha
      exact upd_ne (ne_of_none e hp))
    w.nz (fun b u _ _ e => by rw [upd_ne (ne_of_none e hp)]; exact e) (fun a h => .inl h) (fun a z => by
      by_cases e : a = p
      · subst e; rw [upd_same]; intro q; cases q
      · rw [upd_ne e]; exact w.zt a z) upd_kt
theorem Wd.zt (w : Wd C Z σ E H) : ∀ a, Z a → H a ≠ none := let ⟨_, w⟩ := w; w.zt
theorem Wd.len (w : Wd C Z σ E H) : σ.length = E.length := let ⟨_, w⟩ := w; w.sl.len
theorem Wd.new (w : Wd C Z σ E H) {p : Addr} {o : HO} (hp : H p = none) : Wd C Z σ E (upd H p o) := let ⟨F, w⟩ := w; ⟨F, w.new hp⟩
/-- data at a name -/
theorem Wd.get (w : Wd C Z σ E H) {i : Nat} {d : D} (e : E[i]? = some (.fr d)) : ∃ v, σ[i]? = some (some v) ∧ Rep C.K Z H v d := by
  obtain ⟨F, w⟩ := w
  obtain ⟨_, v, e1, r⟩ := w.sl.rep i _ e
  refine ⟨v, ?_, r⟩
  rw [List.getD_eq_getElem?_getD] at e1
  cases q : σ[i]? with
  | none => rw [q] at e1; cases e1
  | some x => rw [q] at e1; exact congrArg some e1
theorem getD_some {i : Nat} {v : V} (e : σ.getD i none = some v) : σ[i]? = some (some v) := by
  rw [List.getD_eq_getElem?_getD] at e
  cases q : σ[i]? with
  | none => rw [q] at e; cases e
  | some x => rw [q] at e; exact congrArg some e
theorem of_getD {i : Nat} {v : V} (e : σ[i]? = some (some v)) : σ.getD i none = some v := by
  rw [List.getD_eq_getElem?_getD, e]
  rfl
/-- an owned tree at a name is frozen -/
theorem Wd.freeze (w : Wd C Z σ E H) {i : Nat} {t : T} (e : E[i]? = some (.ow t)) : ∃ v Z', σ[i]? = some (some v) ∧ Stp Z H Z' H ∧ Wd C Z' σ (E.set i (.fr t.fz)) H ∧ Rep C.K Z' H v t.fz := by
  obtain ⟨F, w⟩ := w
  obtain ⟨v, e1, r⟩ := w.sl.rep i _ e
  have hi : i < E.length := (List.getElem?_eq_some_iff.mp e).1
  have zz : ∀ a, Z a → Z a ∨ a ∈ F i := fun a h => .inl h
  have rz := r.froze (Z' := fun a => Z a ∨ a ∈ F i) zz fun a h => .inr h
  refine ⟨v, fun a => Z a ∨ a ∈ F i, getD_some e1, Stp.grow zz, ⟨fun j => if j = i then [] else F j, ⟨⟨?_, fun j s ej => ?_, fun j hj => ?_, fun j => ?_, fun j k a h1 h2 => ?_⟩, fun j a h => ?_, fun j u a ej ha => ?_, fun j u a ej ha => ?_, fun j u ej => ?_, w.fr, fun a h => .inl (w.z0 a h), fun a h => ?_, fun a h => ?_, w.kt⟩⟩, rz⟩
  · rw [List.length_set]; exact w.sl.len
  · by_cases q : j = i
    · subst q
      rw [List.getElem?_set_self hi] at ej
      cases ej
      rw [if_pos rfl]
      exact ⟨rfl, v, e1, rz⟩
    · rw [List.getElem?_set_ne (Ne.symm q)] at ej
      rw [if_neg q]
      exact (w.sl.rep j s ej).mono (Stp.grow zz) fun _ _ => rfl
  · rw [List.length_set] at hj
    rw [if_neg (by omega)]
    exact w.sl.out j hj
  · by_cases q : j = i
    · rw [if_pos q]; exact List.nodup_nil
    · rw [if_neg q]; exact w.sl.nd j
  · by_cases q : j = i
    · rw [if_pos q] at h1; cases h1
    · by_cases q2 : k = i
      · rw [if_pos q2] at h2; cases h2
      · rw [if_neg q] at h1
        rw [if_neg q2] at h2
        exact w.sl.dj j k a h1 h2
  · by_cases q : j = i
    · rw [if_pos q] at h; cases h
    · rw [if_neg q] at h
      rintro (z | z)
      · exact w.nz j a h z
      · exact q (w.sl.dj j i a h z)
  · by_cases q : j = i
    · rw [if_pos q] at ha; cases ha
    · rw [if_neg q] at ha
      rw [List.getElem?_set_ne (Ne.symm q)] at ej
      exact w.own j u a ej ha
  · by_cases q : j = i
    · rw [if_pos q] at ha; cases ha
    · rw [if_neg q] at ha
      rw [List.getElem?_set_ne (Ne.symm q)] at ej
      exact w.mum j u a ej ha
  · by_cases q : j = i
    · subst q; rw [List.getElem?_set_self hi] at ej; cases ej
    · rw [List.getElem?_set_ne (Ne.symm q)] at ej
      exact w.mus j u ej
  · rcases h with z | z
    · exact w.zn a z
    · exact .inr (w.own i t a e z)
  · rcases h with z | z
    · exact w.zt a z
    · obtain ⟨o, q, _⟩ := w.kind z
      rw [q]; intro q; cases q
end
end DL
set_option Elab.async false
set_option linter.all false
set_option maxRecDepth 100000
set_option maxHeartbeats 4000000
/-! DL, part b: worlds that go on; judgements; the first rules. -/
namespace DL
open PySem PySem.Spec PyProof.Rows L2

def S.tree? : S → Option T
  | .ow t => some t
  | .mu t => some t
  | _ => none
def S.put (s : S) (t : T) : S := match s with
  | .mu _ => .mu t
  | _ => .ow t
def S.isMu : S → Bool
  | .mu _ => true
  | _ => false

section
variable {C : Ctx} {Z Z' : Addr → Prop} {σ : Sg} {E : List S} {H H' : Hp} {F : Foot}
theorem SRep.tree {K : Frg} {o : Option V} {s : S} {t : T} {G : List Addr} (h : SRep K Z H o s G) (e : s.tree? = some t) : ∃ v, o = some v ∧ TRep K Z H v t G := by
  cases s with
  | un => cases e
  | fr d => cases e
  | ow u => cases e; exact h
  | mu u => cases e; exact h
/-- a new tree at a place, footprints F' (others as they were, or less) -/
theorem WdF.put (w : WdF C Z σ E H F) {i : Nat} {s : S} {t t' : T} {v : V} {G : List Addr} (e : E[i]? = some s) (et : s.tree? = some t) (st : Stp Z H Z H') (hv : σ[i]? = some (some v)) (hr : TRep C.K Z H' v t' G)
    (sub : ∀ a ∈ G, a ∈ F i ∨ (H a = none ∧ C.H0 a = none)) (nd : G.Nodup) (k : ∀ j, j ≠ i → ∀ a ∈ F j, H' a = H a) (fr : ∀ b o, C.H0 b = some o → (∀ i, b ∉ C.Fm i) → H b = some o → H' b = some o) (zt : ∀ a, Z a → H' a ≠ none) (kt : ∀ b, H b ≠ none → H' b ≠ none) :
    Wd C Z σ (E.set i (s.put t')) H' := by
  have hi : i < E.length := (List.getElem?_eq_some_iff.mp e).1
  refine ⟨fun j => if j = i then G else F j, ⟨⟨?_, fun j u ej => ?_, fun j hj => ?_, fun j => ?_, fun j l a h1 h2 => ?_⟩, fun j a h => ?_, fun j u a ej ha => ?_, fun j u a ej ha => ?_, fun j u ej => ?_, fun b o e n => fr b o e n (w.fr b o e n), w.z0, w.zn, zt, fun b h => kt b (w.kt b h)⟩⟩
  · rw [List.length_set]; exact w.sl.len
  · by_cases q : j = i
    · subst q
      rw [List.getElem?_set_self hi] at ej
      cases ej
      rw [if_pos rfl]
      have z : ∃ v', σ.getD j none = some v' ∧ TRep C.K Z H' v' t' G := ⟨v, of_getD hv, hr⟩
      cases s <;> exact z
    · rw [List.getElem?_set_ne (Ne.symm q)] at ej
      rw [if_neg q]
      exact (w.sl.rep j u ej).mono st (k j q)
  · rw [List.length_set] at hj
    rw [if_neg (by omega)]
    exact w.sl.out j hj
  · by_cases q : j = i
    · rw [if_pos q]; exact nd
    · rw [if_neg q]; exact w.sl.nd j
  · have no : ∀ l, l ≠ i → a ∈ G → a ∈ F l → False := fun l hl g f => by
      rcases sub a g with z | z
      · exact hl (w.sl.dj l i a f z)
      · obtain ⟨o, q, _⟩ := w.kind f
        rw [z.1] at q; cases q
    by_cases q : j = i
    · by_cases q2 : l = i
      · rw [q, q2]
      · rw [if_pos q] at h1
        rw [if_neg q2] at h2
        exact (no l q2 h1 h2).elim
    · by_cases q2 : l = i
      · rw [if_neg q] at h1
        rw [if_pos q2] at h2
        exact (no j q h2 h1).elim
      · rw [if_neg q] at h1
        rw [if_neg q2] at h2
        exact w.sl.dj j l a h1 h2
  · by_cases q : j = i
    · rw [if_pos q] at h
      rcases sub a h with z | z
      · exact w.nz i a z
      · intro hz; exact w.zt a hz z.1
    · rw [if_neg q] at h
      exact w.nz j a h
  · by_cases q : j = i
    · subst q
      rw [List.getElem?_set_self hi] at ej
      rw [if_pos rfl] at ha
      rcases sub a ha with z | z
      · cases s with
        | un => cases et
        | fr d => cases et
        | ow x => exact w.own j x a e z
        | mu x => cases ej
      · exact z.2
    · rw [if_neg q] at ha
      rw [List.getElem?_set_ne (Ne.symm q)] at ej
      exact w.own j u a ej ha
  · by_cases q : j = i
    · subst q
      rw [List.getElem?_set_self hi] at ej
      rw [if_pos rfl] at ha
      rcases sub a ha with z | z
      · cases s with
        | un => cases et
        | fr d => cases et
        | ow x => cases ej
        | mu x => exact w.mum j x a e z
      · exact .inr z.2
    · rw [if_neg q] at ha
      rw [List.getElem?_set_ne (Ne.symm q)] at ej
      exact w.mum j u a ej ha
  · by_cases q : j = i
    · subst q
      rw [List.getElem?_set_self hi] at ej
      cases s with
      | un => cases et
      | fr d => cases et
      | ow x => cases ej
      | mu x => exact w.mus j x e
    · rw [List.getElem?_set_ne (Ne.symm q)] at ej
      exact w.mus j u ej
/-- the last place is dropped -/
theorem WdF.drop {x : Option V} {s : S} (w : WdF C Z (σ ++ [x]) (E ++ [s]) H F) : Wd C Z σ E H := by
  have hl : σ.length = E.length := by
    have q := w.sl.len
    simp at q
    exact q
  have up : ∀ (j : Nat) u, E[j]? = some u → (E ++ [s])[j]? = some u := fun j u e => by
    rw [List.getElem?_append_left (List.getElem?_eq_some_iff.mp e).1]
    exact e
  refine ⟨fun j => if j < E.length then F j else [], ⟨⟨hl, fun j u ej => ?_, fun j hj => ?_, fun j => ?_, fun j l a h1 h2 => ?_⟩, fun j a h => ?_, fun j u a ej ha => ?_, fun j u a ej ha => ?_, fun j u ej => ?_, w.fr, w.z0, w.zn, w.zt, w.kt⟩⟩
  · have hj := (List.getElem?_eq_some_iff.mp ej).1
    rw [if_pos hj]
    have q := w.sl.rep j u (up j u ej)
    rw [List.getD_eq_getElem?_getD, List.getElem?_append_left (by omega), ← List.getD_eq_getElem?_getD] at q
    exact q
  · rw [if_neg (by omega)]
  · split
    · exact w.sl.nd j
    · exact List.nodup_nil
  · split at h1
    · split at h2
      · exact w.sl.dj j l a h1 h2
      · cases h2
    · cases h1
  · split at h
    · exact w.nz j a h
    · cases h
  · split at ha
    · exact w.own j u a (up j _ ej) ha
    · cases ha
  · split at ha
    · exact w.mum j u a (up j _ ej) ha
    · cases ha
  · obtain ⟨v, e1, e2⟩ := w.mus j u (up j _ ej)
    refine ⟨v, e1, ?_⟩
    have hj := (List.getElem?_eq_some_iff.mp ej).1
    rw [List.getElem?_append_left (by omega)] at e2
    exact e2
/-- the last place moves to place i -/
theorem WdF.move {v : V} {t : T} {i : Nat} (w : WdF C Z (σ ++ [some v]) (E ++ [.ow t]) H F) (hi : i < E.length) (nm : ∀ t, E[i]? ≠ some (.mu t)) : Wd C Z (σ.set i (some v)) (E.set i (.ow t)) H := by
  have hl : σ.length = E.length := by
    have q := w.sl.len
    simp at q
    exact q
  have up : ∀ (j : Nat) u, E[j]? = some u → (E ++ [S.ow t])[j]? = some u := fun j u e => by
    rw [List.getElem?_append_left (List.getElem?_eq_some_iff.mp e).1]
    exact e
  have lastE : (E ++ [S.ow t])[E.length]? = some (.ow t) := by rw [List.getElem?_append_right (Nat.le_refl _), Nat.sub_self]; rfl
  have lastR := w.sl.rep E.length _ lastE
  have gl : (σ ++ [some v]).getD E.length none = some v := by
    rw [List.getD_eq_getElem?_getD, List.getElem?_append_right (by omega), hl, Nat.sub_self]
    rfl
  rw [gl] at lastR
  refine ⟨fun j => if j = i then F E.length else if j < E.length then F j else [], ⟨⟨?_, fun j u ej => ?_, fun j hj => ?_, fun j => ?_, fun j l a h1 h2 => ?_⟩, fun j a h => ?_, fun j u a ej ha => ?_, fun j u a ej ha => ?_, fun j u ej => ?_, w.fr, w.z0, w.zn, w.zt, w.kt⟩⟩
  · rw [List.length_set, List.length_set]; exact hl
  · by_cases q : j = i
    · subst q
      rw [List.getElem?_set_self hi] at ej
      cases ej
      rw [if_pos rfl, List.getD_eq_getElem?_getD, List.getElem?_set_self (by omega)]
      exact lastR
    · rw [List.getElem?_set_ne (Ne.symm q)] at ej
      have hj := (List.getElem?_eq_some_iff.mp ej).1
      rw [if_neg q, if_pos hj]
      have z := w.sl.rep j u (up j u ej)
      rw [List.getD_eq_getElem?_getD, List.getElem?_append_left (by omega)] at z
      rw [List.getD_eq_getElem?_getD, List.getElem?_set_ne (Ne.symm q)]
      exact z
  · rw [List.length_set] at hj
    rw [if_neg (by omega), if_neg (by omega)]
  · split
    · exact w.sl.nd _
    · split
      · exact w.sl.nd j
      · exact List.nodup_nil
  · split at h1
    · split at h2
      · omega
      · split at h2
        · have := w.sl.dj _ _ a h1 h2; omega
        · cases h2
    · split at h1
      · split at h2
        · have := w.sl.dj _ _ a h1 h2; omega
        · split at h2
          · exact w.sl.dj _ _ a h1 h2
          · cases h2
      · cases h1
  · split at h
    · exact w.nz _ a h
    · split at h
      · exact w.nz j a h
      · cases h
  · by_cases q : j = i
    · rw [if_pos q] at ha
      exact w.own E.length t a lastE ha
    · rw [List.getElem?_set_ne (Ne.symm q)] at ej
      rw [if_neg q] at ha
      split at ha
      · exact w.own j u a (up j _ ej) ha
      · cases ha
  · by_cases q : j = i
    · subst q
      rw [List.getElem?_set_self hi] at ej
      cases ej
    · rw [List.getElem?_set_ne (Ne.symm q)] at ej
      rw [if_neg q] at ha
      split at ha
      · exact w.mum j u a (up j _ ej) ha
      · cases ha
  · by_cases q : j = i
    · subst q
      rw [List.getElem?_set_self hi] at ej
      cases ej
    · rw [List.getElem?_set_ne (Ne.symm q)] at ej
      obtain ⟨x, e1, e2⟩ := w.mus j u (up j _ ej)
      have hj := (List.getElem?_eq_some_iff.mp ej).1
      rw [List.getElem?_append_left (by omega)] at e2
      exact ⟨x, e1, by rw [List.getElem?_set_ne (Ne.symm q)]; exact e2⟩
/-- data is stored at place i -/
theorem WdF.setD {v : V} {d : D} {i : Nat} (w : WdF C Z σ E H F) (r : Rep C.K Z H v d) (hi : i < E.length) (nm : ∀ t, E[i]? ≠ some (.mu t)) : Wd C Z (σ.set i (some v)) (E.set i (.fr d)) H := by
  have hl := w.sl.len
  refine ⟨fun j => if j = i then [] else F j, ⟨⟨?_, fun j u ej => ?_, fun j hj => ?_, fun j => ?_, fun j l a h1 h2 => ?_⟩, fun j a h => ?_, fun j u a ej ha => ?_, fun j u a ej ha => ?_, fun j u ej => ?_, w.fr, w.z0, w.zn, w.zt, w.kt⟩⟩
  · rw [List.length_set, List.length_set]; exact hl
  · by_cases q : j = i
    · subst q
      rw [List.getElem?_set_self hi] at ej
      cases ej
      rw [if_pos rfl]
      refine ⟨rfl, v, ?_, r⟩
      rw [List.getD_eq_getElem?_getD, List.getElem?_set_self (by omega)]
      rfl
    · rw [List.getElem?_set_ne (Ne.symm q)] at ej
      rw [if_neg q, List.getD_eq_getElem?_getD, List.getElem?_set_ne (Ne.symm q), ← List.getD_eq_getElem?_getD]
      exact w.sl.rep j u ej
  · rw [List.length_set] at hj
    rw [if_neg (by omega)]
    exact w.sl.out j hj
  · split
    · exact List.nodup_nil
    · exact w.sl.nd j
  · split at h1
    · cases h1
    · split at h2
      · cases h2
      · exact w.sl.dj j l a h1 h2
  · split at h
    · cases h
    · exact w.nz j a h
  · by_cases q : j = i
    · rw [if_pos q] at ha; cases ha
    · rw [List.getElem?_set_ne (Ne.symm q)] at ej
      rw [if_neg q] at ha
      exact w.own j u a ej ha
  · by_cases q : j = i
    · rw [if_pos q] at ha; cases ha
    · rw [List.getElem?_set_ne (Ne.symm q)] at ej
      rw [if_neg q] at ha
      exact w.mum j u a ej ha
  · by_cases q : j = i
    · subst q
      rw [List.getElem?_set_self hi] at ej
      cases ej
    · rw [List.getElem?_set_ne (Ne.symm q)] at ej
      obtain ⟨x, e1, e2⟩ := w.mus j u ej
      exact ⟨x, e1, by rw [List.getElem?_set_ne (Ne.symm q)]; exact e2⟩
/-- a place is forgotten -/
theorem WdF.forget {i : Nat} {x : Option V} (w : WdF C Z σ E H F) : Wd C Z (σ.set i x) (E.set i .un) H := by
  have hl := w.sl.len
  by_cases hi : i < E.length
  · refine ⟨fun j => if j = i then [] else F j, ⟨⟨?_, fun j u ej => ?_, fun j hj => ?_, fun j => ?_, fun j l a h1 h2 => ?_⟩, fun j a h => ?_, fun j u a ej ha => ?_, fun j u a ej ha => ?_, fun j u ej => ?_, w.fr, w.z0, w.zn, w.zt, w.kt⟩⟩
    · rw [List.length_set, List.length_set]; exact hl
    · by_cases q : j = i
      · subst q
        rw [List.getElem?_set_self hi] at ej
        cases ej
        rw [if_pos rfl]
        exact rfl
      · rw [List.getElem?_set_ne (Ne.symm q)] at ej
        rw [if_neg q, List.getD_eq_getElem?_getD, List.getElem?_set_ne (Ne.symm q), ← List.getD_eq_getElem?_getD]
        exact w.sl.rep j u ej
    · rw [List.length_set] at hj
      rw [if_neg (by omega)]
      exact w.sl.out j hj
    · split
      · exact List.nodup_nil
      · exact w.sl.nd j
    · split at h1
      · cases h1
      · split at h2
        · cases h2
        · exact w.sl.dj j l a h1 h2
    · split at h
      · cases h
      · exact w.nz j a h
    · by_cases q : j = i
      · rw [if_pos q] at ha; cases ha
      · rw [List.getElem?_set_ne (Ne.symm q)] at ej
        rw [if_neg q] at ha
        exact w.own j u a ej ha
    · by_cases q : j = i
      · rw [if_pos q] at ha; cases ha
      · rw [List.getElem?_set_ne (Ne.symm q)] at ej
        rw [if_neg q] at ha
        exact w.mum j u a ej ha
    · by_cases q : j = i
      · subst q
        rw [List.getElem?_set_self hi] at ej
        cases ej
      · rw [List.getElem?_set_ne (Ne.symm q)] at ej
        obtain ⟨x, e1, e2⟩ := w.mus j u ej
        exact ⟨x, e1, by rw [List.getElem?_set_ne (Ne.symm q)]; exact e2⟩
  · rw [List.set_eq_of_length_le (by omega), List.set_eq_of_length_le (by omega)]
    exact ⟨F, w⟩
/-- a new list of one's own, as the last place -/
theorem WdF.push (w : WdF C Z σ E H F) {p : Addr} {o : HO} {t : T} (hp : H p = none) (r : TRep C.K Z (upd H p o) (.ref p) t [p]) : Wd C Z (σ ++ [some (.ref p)]) (E ++ [.ow t]) (upd H p o) := by
  have w' := w.new (o := o) hp
  have hl := w.sl.len
  have pF : ∀ i, p ∉ F i := fun i h => by
    obtain ⟨o, e, _⟩ := w.kind h
    rw [hp] at e; cases e
  have pz : ¬ Z p := fun h => w.zt p h hp
  have p0 : C.H0 p = none := Classical.byContradiction fun n => w.kt p n hp
  have lastE : (E ++ [S.ow t])[E.length]? = some (.ow t) := by rw [List.getElem?_append_right (Nat.le_refl _), Nat.sub_self]; rfl
  have low : ∀ (j : Nat) u, (E ++ [S.ow t])[j]? = some u → j ≠ E.length → E[j]? = some u ∧ j < E.length := fun j u e q => by
    have h := (List.getElem?_eq_some_iff.mp e).1
    rw [List.length_append] at h
    have h : j < E.length := by
      have : ([S.ow t]).length = 1 := rfl
      omega
    rw [List.getElem?_append_left h] at e
    exact ⟨e, h⟩
  refine ⟨fun j => if j = E.length then [p] else F j, ⟨⟨?_, fun j u ej => ?_, fun j hj => ?_, fun j => ?_, fun j l a h1 h2 => ?_⟩, fun j a h => ?_, fun j u a ej ha => ?_, fun j u a ej ha => ?_, fun j u ej => ?_, w'.fr, w.z0, w.zn, w'.zt, w'.kt⟩⟩
  · rw [List.length_append, List.length_append, hl]; rfl
  · by_cases q : j = E.length
    · subst q
      rw [lastE] at ej
      cases ej
      rw [if_pos rfl, List.getD_eq_getElem?_getD, List.getElem?_append_right (by omega), hl, Nat.sub_self]
      exact ⟨_, rfl, r⟩
    · obtain ⟨e, h⟩ := low j u ej q
      rw [if_neg q, List.getD_eq_getElem?_getD, List.getElem?_append_left (by omega), ← List.getD_eq_getElem?_getD]
      exact w'.sl.rep j u e
  · rw [List.length_append] at hj
    have : ([S.ow t]).length = 1 := rfl
    rw [if_neg (by omega)]
    exact w.sl.out j (by omega)
  · split
    · simp
    · exact w.sl.nd j
  · split at h1
    · split at h2
      · omega
      · have e := List.mem_singleton.mp h1
        subst e
        exact absurd h2 (pF l)
    · split at h2
      · have e := List.mem_singleton.mp h2
        subst e
        exact absurd h1 (pF j)
      · exact w.sl.dj j l a h1 h2
  · split at h
    · have e := List.mem_singleton.mp h
      subst e
      exact pz
    · exact w.nz j a h
  · by_cases q : j = E.length
    · rw [if_pos q] at ha
      have e := List.mem_singleton.mp ha
      subst e
      exact p0
    · rw [if_neg q] at ha
      exact w.own j u a (low j _ ej q).1 ha
  · by_cases q : j = E.length
    · subst q; rw [lastE] at ej; cases ej
    · rw [if_neg q] at ha
      exact w.mum j u a (low j _ ej q).1 ha
  · by_cases q : j = E.length
    · subst q; rw [lastE] at ej; cases ej
    · obtain ⟨e, h⟩ := low j _ ej q
      obtain ⟨v, e1, e2⟩ := w.mus j u e
      exact ⟨v, e1, by rw [List.getElem?_append_left (by omega)]; exact e2⟩
end

/-! ### at a place of the proof: the names, and what is pending -/
def At (C : Ctx) (ps : Sg) (Ep : List S) (Z : Addr → Prop) (σ : Sg) (E : List S) (H : Hp) : Prop := σ.length = E.length ∧ Wd C Z (σ ++ ps) (E ++ Ep) H
section
variable {C : Ctx} {ps : Sg} {Ep : List S} {Z Z' : Addr → Prop} {σ : Sg} {E : List S} {H H' : Hp}
theorem up_get {s : S} {i : Nat} (e : E[i]? = some s) : (E ++ Ep)[i]? = some s := by
  rw [List.getElem?_append_left (List.getElem?_eq_some_iff.mp e).1]
  exact e
theorem At.low {x : V} {i : Nat} (hl : σ.length = E.length) (hi : i < E.length) (e : (σ ++ ps)[i]? = some (some x)) : σ[i]? = some (some x) := by
  rw [List.getElem?_append_left (by omega)] at e
  exact e
theorem At.high {x : V} {i : Nat} (e : σ[i]? = some (some x)) : (σ ++ ps)[i]? = some (some x) := by
  rw [List.getElem?_append_left (List.getElem?_eq_some_iff.mp e).1]
  exact e
theorem At.get (w : At C ps Ep Z σ E H) {i : Nat} {d : D} (e : E[i]? = some (.fr d)) : ∃ v, σ[i]? = some (some v) ∧ Rep C.K Z H v d := by
  obtain ⟨v, e1, r⟩ := w.2.get (up_get e)
  exact ⟨v, At.low w.1 (List.getElem?_eq_some_iff.mp e).1 e1, r⟩
theorem At.freeze (w : At C ps Ep Z σ E H) {i : Nat} {t : T} (e : E[i]? = some (.ow t)) : ∃ v Z', σ[i]? = some (some v) ∧ Stp Z H Z' H ∧ At C ps Ep Z' σ (E.set i (.fr t.fz)) H ∧ Rep C.K Z' H v t.fz := by
  obtain ⟨v, Z', e1, st, w', r⟩ := w.2.freeze (up_get e)
  have hi := (List.getElem?_eq_some_iff.mp e).1
  rw [List.set_append_left _ _ hi] at w'
  exact ⟨v, Z', At.low w.1 hi e1, st, ⟨by rw [List.length_set]; exact w.1, w'⟩, r⟩
theorem At.new (w : At C ps Ep Z σ E H) {p : Addr} {o : HO} (hp : H p = none) : At C ps Ep Z σ E (upd H p o) := ⟨w.1, w.2.new hp⟩
theorem At.zt (w : At C ps Ep Z σ E H) : ∀ a, Z a → H a ≠ none := w.2.zt
theorem At.tree (w : At C ps Ep Z σ E H) {i : Nat} {s : S} {t : T} (e : E[i]? = some s) (et : s.tree? = some t) : ∃ v F, σ[i]? = some (some v) ∧ TRep C.K Z H v t F := by
  obtain ⟨F, f⟩ := w.2
  obtain ⟨v, e1, r⟩ := (f.sl.rep i s (up_get e)).tree et
  exact ⟨v, F i, At.low w.1 (List.getElem?_eq_some_iff.mp e).1 (getD_some e1), r⟩
/-- an owned list at a name: read, and written -/
theorem At.list (w : At C ps Ep Z σ E H) {i : Nat} {s : S} {ds : List D} (e : E[i]? = some s) (et : s.tree? = some (.lst ds)) :
    ∃ a vs, σ[i]? = some (some (.ref a)) ∧ H a = some (.lst vs) ∧ Reps C.K Z H vs ds ∧ ∀ vs' ds', Reps C.K Z H vs' ds' → Stp Z H Z (upd H a (.lst vs')) ∧ At C ps Ep Z σ (E.set i (s.put (.lst ds'))) (upd H a (.lst vs')) := by
  obtain ⟨F, f⟩ := w.2
  obtain ⟨v, e1, r⟩ := (f.sl.rep i s (up_get e)).tree et
  have hi := (List.getElem?_eq_some_iff.mp e).1
  generalize hF : F i = G at r
  cases r with
  | lst h hs =>
    rename_i a vs
    have ha : a ∈ F i := by rw [hF]; simp
    refine ⟨a, vs, At.low w.1 hi (getD_some e1), h, hs, fun vs' ds' r' => ?_⟩
    have st : Stp Z H Z (upd H a (.lst vs')) := Stp.put (f.nz i a ha) h trivial
    refine ⟨st, by rw [List.length_set]; exact w.1, ?_⟩
    have q := f.put (up_get e) et st (getD_some e1) (TRep.lst upd_same (r'.mono st)) (fun b hb => .inl (by rw [hF]; exact hb)) (by simp) (fun j hj b hb => ?_) (fun b o e0 n q => ?_) (fun b z => ?_) upd_kt
    · rw [List.set_append_left _ _ hi] at q
      exact q
    · exact upd_ne fun q => hj (f.sl.dj j i b hb (by rw [q]; exact ha))
    · rw [upd_ne]
      · exact q
      · rintro rfl
        have ei := up_get (Ep := Ep) e
        cases s with
        | un => cases et
        | fr d => cases et
        | ow x =>
          have := f.own i x b ei ha
          rw [e0] at this; cases this
        | mu x =>
          rcases f.mum i x b ei ha with z | z
          · exact n i z
          · rw [e0] at z; cases z
    · by_cases q : b = a
      · rw [q, upd_same]; intro q; cases q
      · rw [upd_ne q]; exact f.zt b z
theorem At.setD (w : At C ps Ep Z σ E H) {v : V} {d : D} {i : Nat} (r : Rep C.K Z H v d) (hi : i < E.length) (nm : ∀ t, E[i]? ≠ some (.mu t)) : At C ps Ep Z (σ.set i (some v)) (E.set i (.fr d)) H := by
  obtain ⟨F, f⟩ := w.2
  refine ⟨by rw [List.length_set, List.length_set]; exact w.1, ?_⟩
  have q := f.setD (i := i) r (by rw [List.length_append]; omega) fun t => by rw [List.getElem?_append_left hi]; exact nm t
  rw [List.set_append_left _ _ hi, List.set_append_left _ _ (by have := w.1; omega)] at q
  exact q
theorem At.forget (w : At C ps Ep Z σ E H) {x : Option V} {i : Nat} (hi : i < E.length) : At C ps Ep Z (σ.set i x) (E.set i .un) H := by
  obtain ⟨F, f⟩ := w.2
  refine ⟨by rw [List.length_set, List.length_set]; exact w.1, ?_⟩
  have q := f.forget (i := i) (x := x)
  rw [List.set_append_left _ _ hi, List.set_append_left _ _ (by have := w.1; omega)] at q
  exact q
/-- what is pending is stored -/
theorem At.setP {v : V} {t : T} (w : At C (ps ++ [some v]) (Ep ++ [.ow t]) Z σ E H) {i : Nat} (hi : i < E.length) (nm : ∀ t, E[i]? ≠ some (.mu t)) : At C ps Ep Z (σ.set i (some v)) (E.set i (.ow t)) H := by
  obtain ⟨F, f⟩ := w.2
  refine ⟨by rw [List.length_set, List.length_set]; exact w.1, ?_⟩
  rw [← List.append_assoc, ← List.append_assoc] at f
  have q := f.move (i := i) (by rw [List.length_append]; omega) fun t => by rw [List.getElem?_append_left hi]; exact nm t
  rw [List.set_append_left _ _ hi, List.set_append_left _ _ (by have := w.1; omega)] at q
  exact q
/-- .. or frozen -/
theorem At.frP {v : V} {t : T} (w : At C (ps ++ [some v]) (Ep ++ [.ow t]) Z σ E H) : ∃ Z', Stp Z H Z' H ∧ At C ps Ep Z' σ E H ∧ Rep C.K Z' H v t.fz := by
  have w2 := w.2
  rw [← List.append_assoc, ← List.append_assoc] at w2
  have hl : (σ ++ ps).length = (E ++ Ep).length := by
    have q := w2.len
    simp only [List.length_append, List.length_singleton] at q ⊢
    omega
  have le : ((E ++ Ep) ++ [S.ow t])[(E ++ Ep).length]? = some (.ow t) := by rw [List.getElem?_append_right (Nat.le_refl _), Nat.sub_self]; rfl
  obtain ⟨v', Z', e, st, w', r⟩ := w2.freeze le
  rw [List.getElem?_append_right (by omega), hl, Nat.sub_self] at e
  have ev : v = v' := by
    have q : some (some v) = some (some v') := e
    exact Option.some.inj (Option.some.inj q)
  subst ev
  rw [List.set_append_right _ _ (Nat.le_refl _), Nat.sub_self] at w'
  obtain ⟨F, f⟩ := w'
  exact ⟨Z', st, ⟨w.1, WdF.drop (s := .fr t.fz) f⟩, r⟩
theorem At.push (w : At C ps Ep Z σ E H) {p : Addr} {vs : List V} {ds : List D} (hp : H p = none) (r : Reps C.K Z H vs ds) :
    Stp Z H Z (upd H p (.lst vs)) ∧ At C (ps ++ [some (.ref p)]) (Ep ++ [.ow (.lst ds)]) Z σ E (upd H p (.lst vs)) := by
  obtain ⟨F, f⟩ := w.2
  have st : Stp Z H Z (upd H p (.lst vs)) := Stp.new f.zt hp
  refine ⟨st, w.1, ?_⟩
  rw [← List.append_assoc, ← List.append_assoc]
  exact f.push hp (.lst upd_same (r.mono st))
end
end DL
set_option Elab.async false
set_option linter.all false
set_option maxRecDepth 100000
set_option maxHeartbeats 4000000
/-! DL, part c: judgements; names, constants, displays, operators, tests, subscripts. -/
namespace DL
open PySem PySem.Spec PyProof.Rows L2

/-- by a truth value; never unfolded by itself -/
@[irreducible] def brB (b : Bool) (A B : Prop) : Prop := (b = true → A) ∧ (b = false → B)
theorem brB.t {A B : Prop} (h : brB true A B) : A := by unfold brB at h; exact h.1 rfl
theorem brB.f {A B : Prop} (h : brB false A B) : B := by unfold brB at h; exact h.2 rfl
theorem br {b : Bool} {A B : Prop} (h1 : b = true → A) (h2 : b = false → B) : brB b A B := by unfold brB; exact ⟨h1, h2⟩
theorem brT {b : Bool} {A B : Prop} (e : b = true) (h : A) : brB b A B := br (fun _ => h) fun q => by rw [e] at q; cases q
theorem brF {b : Bool} {A B : Prop} (e : b = false) (h : B) : brB b A B := br (fun q => by rw [e] at q; cases q) fun _ => h
abbrev TD := List S → (D → List S → Prop) → Prop
abbrev TN := List S → (T → List S → Prop) → Prop
abbrev TB := List S → (Bool → List S → Prop) → Prop
abbrev TL := List S → (List D → List S → Prop) → Prop

/-- read now: data, or an owned tree -/
def BRep (K : Frg) (Z : Addr → Prop) (H : Hp) (v : V) (d : D) : Prop := Rep K Z H v d ∨ ∃ t F, TRep K Z H v t F ∧ t.fz = d

def teOf (C : Ctx) (t : TD) : TE := fun σ H Q => ∃ ps Ep E Z Qd, At C ps Ep Z σ E H ∧ t E Qd ∧ ∀ d E' Z' H' v, At C ps Ep Z' σ E' H' → Stp Z H Z' H' → Rep C.K Z' H' v d → Qd d E' → Q v H'
def tbOf (C : Ctx) (t : TD) : TE := fun σ H Q => ∃ ps Ep E Z Qd, At C ps Ep Z σ E H ∧ t E Qd ∧ ∀ d E' Z' H' v, At C ps Ep Z' σ E' H' → Stp Z H Z' H' → BRep C.K Z' H' v d → Qd d E' → Q v H'
def neOf (C : Ctx) (t : TN) : TE := fun σ H Q => ∃ ps Ep E Z Qd, At C ps Ep Z σ E H ∧ t E Qd ∧ ∀ tr E' Z' H' v, At C (ps ++ [some v]) (Ep ++ [.ow tr]) Z' σ E' H' → Stp Z H Z' H' → Qd tr E' → Q v H'
def ttOf (C : Ctx) (t : TB) : TT := fun σ H Q => ∃ ps Ep E Z Qd, At C ps Ep Z σ E H ∧ t E Qd ∧ ∀ b E' Z' H', At C ps Ep Z' σ E' H' → Stp Z H Z' H' → Qd b E' → Q b H'
def tlOf (C : Ctx) (n : Nat) (t : TL) : TA := fun σ H Q => ∃ ps Ep E Z Qd, At C ps Ep Z σ E H ∧ t E Qd ∧ ∀ ds E' Z' H' vs, At C ps Ep Z' σ E' H' → Stp Z H Z' H' → Reps C.K Z' H' vs ds → ds.length = n → Qd ds E' → Q vs H'

abbrev DE (C : Ctx) (X : Cx) (e : Expr) (t : TD) : Prop := PE X e (teOf C t)
abbrev DB (C : Ctx) (X : Cx) (e : Expr) (t : TD) : Prop := PE X e (tbOf C t)
abbrev DN (C : Ctx) (X : Cx) (e : Expr) (t : TN) : Prop := PE X e (neOf C t)
abbrev DT (C : Ctx) (X : Cx) (e : Expr) (t : TB) : Prop := PT X e (ttOf C t)
abbrev DW (C : Ctx) (X : Cx) (e : Expr) (t : TB) : Prop := PW X e (ttOf C t)
abbrev DA (C : Ctx) (X : Cx) (es : List Expr) (t : TL) : Prop := PA X es (tlOf C es.length t)

theorem _root_.L2.PE.imp {X : Cx} {e : Expr} {t t' : TE} (h : PE X e t) (k : ∀ σ H Q, t' σ H Q → t σ H Q) : PE X e t' := ⟨fun pins s σ H Q I q => h.run pins s σ H Q I (k σ H Q q)⟩
theorem _root_.L2.PT.imp {X : Cx} {e : Expr} {t t' : TT} (h : PT X e t) (k : ∀ σ H Q, t' σ H Q → t σ H Q) : PT X e t' := ⟨fun pins s σ H Q I q => h.run pins s σ H Q I (k σ H Q q)⟩
theorem _root_.L2.PW.imp {X : Cx} {e : Expr} {t t' : TT} (h : PW X e t) (k : ∀ σ H Q, t' σ H Q → t σ H Q) : PW X e t' := ⟨fun wh pins s σ H Q I q => h.run wh pins s σ H Q I (k σ H Q q)⟩
theorem _root_.L2.PA.imp {X : Cx} {es : List Expr} {t t' : TA} (h : PA X es t) (k : ∀ σ H Q, t' σ H Q → t σ H Q) : PA X es t' := ⟨fun pos pins s σ H Q I q => h.run pos pins s σ H Q I (k σ H Q q)⟩
theorem _root_.L2.PS.imp {X : Cx} {st : Stmt} {t t' : TS} (h : PS X st t) (k : ∀ D σ H, t' D σ H → t D σ H) : PS X st t' := ⟨fun pins s σ H D I q => h.run pins s σ H D I (k D σ H q)⟩
theorem _root_.L2.PSs.imp {X : Cx} {st : List Stmt} {t t' : TS} (h : PSs X st t) (k : ∀ D σ H, t' D σ H → t D σ H) : PSs X st t' := ⟨fun pins s σ H D I q => h.run pins s σ H D I (k D σ H q)⟩
theorem _root_.L2.PG.imp {X : Cx} {e : Expr} {t t' : TG} (h : PG X e t) (k : ∀ v σ H Q, t' v σ H Q → t v σ H Q) : PG X e t' := ⟨fun pins s σ H v u Q I r q => h.run pins s σ H v u Q I r (k v σ H Q q)⟩
theorem _root_.L2.PI.imp {X : Cx} {tg e : Expr} {t t' : TI} (h : PI X tg e t) (k : ∀ σ H R, t' σ H R → t σ H R) : PI X tg e t' := ⟨fun pins s σ H R I q => h.run pins s σ H R I (k σ H R q)⟩

/-! ### data as the library's data -/
mutual
def D.py : D → PyData
  | .non => .none
  | .bl b => .bool b
  | .int i => .int i
  | .str x => .str x
  | .tup ds => .tuple (D.pys ds)
  | .lst ds => .list (D.pys ds)
  | .scr ds => .list (D.pys ds)
  | .dic _ _ => .dict []
  | .obj _ _ _ => .dict []
def D.pys : List D → List PyData
  | [] => []
  | d :: ds => d.py :: D.pys ds
end
theorem pys_map : ∀ ds : List D, D.pys ds = ds.map D.py
  | [] => rfl
  | d :: ds => by rw [D.pys, pys_map ds]; rfl
def D.shp (d : D) : Bool := SeqAt.shaped d.py
def D.eqv (d e : D) : Bool := PyData.eqv d.py e.py
mutual
theorem Rep.dp {K : Frg} {Z : Addr → Prop} {H : Hp} : ∀ {v : V} {d : D}, Rep K Z H v d → d.py.canLay0 = true → Dp K H v d.py
  | _, _, .non, _ => .non
  | _, _, .bl b, _ => .bl b
  | _, _, .int i, _ => .int i
  | _, _, .str x, _ => .str x
  | _, _, .tup h hs, c => .tup h (Reps.dp hs c)
  | _, _, .lst h hs, c => .lst h.sq (Reps.dp hs c)
  | _, _, .scr h hs, c => .lst h.sq (Reps.dp hs c)
  | _, _, .dic _ _ _ _, c => by simp [D.py, PyData.canLay0] at c
  | _, _, .obj _ _ _ _, c => by simp [D.py, PyData.canLay0] at c
theorem Reps.dp {K : Frg} {Z : Addr → Prop} {H : Hp} : ∀ {vs : List V} {ds : List D}, Reps K Z H vs ds → PyData.canLayAll0 (D.pys ds) = true → DpAll K H vs (D.pys ds)
  | _, _, .nil, _ => .nil
  | _, _, .cons h hs, c => by
    have c' := Bool.and_eq_true_iff.mp (show (PyData.canLay0 _ && PyData.canLayAll0 _) = true from c)
    exact .cons (Rep.dp h c'.1) (Reps.dp hs c'.2)
end
theorem BRep.dp {K : Frg} {Z : Addr → Prop} {H : Hp} {v : V} {d : D} (h : BRep K Z H v d) (c : d.py.canLay0 = true) : Dp K H v d.py := by
  rcases h with h | ⟨t, F, h, e⟩
  · exact h.dp c
  · cases h with
    | fr h => rw [← e] at c ⊢; exact h.dp c
    | lst h hs => rw [← e] at c ⊢; exact .lst (.of h) (Reps.dp hs c)
    | dic h e1 hs => rw [← e] at c; simp [T.fz, D.py, PyData.canLay0] at c
    | obj h e1 hs => rw [← e] at c; simp [T.fz, D.py, PyData.canLay0] at c
theorem BRep.lst {K : Frg} {Z : Addr → Prop} {H : Hp} {v : V} {ds : List D} (h : BRep K Z H v (.lst ds)) : ∃ a vs, v = .ref a ∧ SqL K H a vs ∧ Reps K Z H vs ds := by
  rcases h with h | ⟨t, F, h, e⟩
  · cases h with
    | lst h hs => exact ⟨_, _, rfl, h.sq, hs⟩
  · cases h with
    | fr h =>
      rw [show (T.fr _).fz = _ from rfl] at e
      subst e
      cases h with
      | lst h hs => exact ⟨_, _, rfl, h.sq, hs⟩
    | lst h hs => cases e; exact ⟨_, _, rfl, .of h, hs⟩
    | dic h e1 hs => cases e
    | obj h e1 hs => cases e
theorem BRep.tup {K : Frg} {Z : Addr → Prop} {H : Hp} {v : V} {ds : List D} (h : BRep K Z H v (.tup ds)) : ∃ a vs, v = .ref a ∧ SqT K H a vs ∧ Reps K Z H vs ds := by
  rcases h with h | ⟨t, F, h, e⟩
  · cases h with
    | tup h hs => exact ⟨_, _, rfl, h, hs⟩
  · cases h with
    | fr h =>
      rw [show (T.fr _).fz = _ from rfl] at e
      subst e
      cases h with
      | tup h hs => exact ⟨_, _, rfl, h, hs⟩
    | lst h hs => cases e
    | dic h e1 hs => cases e
    | obj h e1 hs => cases e
theorem BRep.str {K : Frg} {Z : Addr → Prop} {H : Hp} {v : V} {x : Str} (h : BRep K Z H v (.str x)) : v = .str x := by
  rcases h with h | ⟨t, F, h, e⟩
  · cases h; rfl
  · cases h with
    | fr h =>
      rw [show (T.fr _).fz = _ from rfl] at e
      subst e
      cases h; rfl
    | lst h hs => cases e
    | dic h e1 hs => cases e
    | obj h e1 hs => cases e

section
variable {C : Ctx} {X : Cx}
/-! ### names -/
def tv (i : Nat) : TD := fun E Q => match E[i]? with
  | some (.fr d) => Q d E
  | some (.ow t) => Q t.fz (E.set i (.fr t.fz))
  | _ => False
theorem de_v (i : Nat) {x : Str} {pos : Pos} (hN : X.N[i]? = some x := by rfl) (hv : Vis X.env.scope x := by first | exact Or.inl rfl | exact Or.inr (Or.inl rfl) | exact Or.inr (Or.inr rfl)) (hd : (x == ("__debug__" : Str)) = false := by decide)
    (hcd : (x == ("__classdict__" : Str)) = false := by decide) : DE C X (.Name x pos) (tv i) := (pe_var hN hv hd hcd).imp fun σ H Q ⟨ps, Ep, E, Z, Qd, w, h, post⟩ => by
  unfold tv at h
  split at h
  · rename_i d e
    obtain ⟨v, e1, r⟩ := w.get e
    exact ⟨v, e1, post d E Z H v w (Stp.refl _ _) r h⟩
  · rename_i t e
    obtain ⟨v, Z', e1, st, w', r⟩ := w.freeze e
    exact ⟨v, e1, post _ _ Z' H v w' st r h⟩
  · cases h
/-- a name that is only looked at -/
def tbv (i : Nat) : TD := fun E Q => match E[i]? with
  | some (.fr d) => Q d E
  | some (.ow t) => Q t.fz E
  | some (.mu t) => Q t.fz E
  | _ => False
theorem db_v (i : Nat) {x : Str} {pos : Pos} (hN : X.N[i]? = some x := by rfl) (hv : Vis X.env.scope x := by first | exact Or.inl rfl | exact Or.inr (Or.inl rfl) | exact Or.inr (Or.inr rfl)) (hd : (x == ("__debug__" : Str)) = false := by decide)
    (hcd : (x == ("__classdict__" : Str)) = false := by decide) : DB C X (.Name x pos) (tbv i) := (pe_var hN hv hd hcd).imp fun σ H Q ⟨ps, Ep, E, Z, Qd, w, h, post⟩ => by
  unfold tbv at h
  split at h
  · rename_i d e
    obtain ⟨v, e1, r⟩ := w.get e
    exact ⟨v, e1, post d E Z H v w (Stp.refl _ _) (.inl r) h⟩
  · rename_i t e
    obtain ⟨v, F, e1, r⟩ := w.tree e (t := t) rfl
    exact ⟨v, e1, post _ _ Z H v w (Stp.refl _ _) (.inr ⟨t, F, r, rfl⟩) h⟩
  · rename_i t e
    obtain ⟨v, F, e1, r⟩ := w.tree e (t := t) rfl
    exact ⟨v, e1, post _ _ Z H v w (Stp.refl _ _) (.inr ⟨t, F, r, rfl⟩) h⟩
  · cases h
theorem db_e {e : Expr} {t : TD} (h : DE C X e t) : DB C X e t := h.imp fun σ H Q ⟨ps, Ep, E, Z, Qd, w, ht, post⟩ => ⟨ps, Ep, E, Z, Qd, w, ht, fun d E' Z' H' v w' st r q => post d E' Z' H' v w' st (.inl r) q⟩

/-! ### constants -/
def tc (d : D) : TD := fun E Q => Q d E
theorem de_of {e : Expr} {v : V} {d : D} (h : PE X e (tC v)) (r : ∀ Z H, Rep C.K Z H v d) : DE C X e (tc d) := h.imp fun σ H Q ⟨ps, Ep, E, Z, Qd, w, h, post⟩ => post d E Z H v w (Stp.refl _ _) (r _ _) h
theorem de_int {i : Int} {j pos} : DE C X (.Constant (.int i) j pos) (tc (.int i)) := de_of pe_int fun _ _ => .int i
theorem de_bl {b : Bool} {j pos} : DE C X (.Constant (.bool b) j pos) (tc (.bl b)) := de_of pe_bl fun _ _ => .bl b
theorem de_non {j pos} : DE C X (.Constant .none j pos) (tc .non) := de_of pe_non fun _ _ => .non
theorem de_str {x : Str} {j pos} : DE C X (.Constant (.str x) j pos) (tc (.str x)) := de_of pe_str fun _ _ => .str x
theorem de_glob {x : Str} {v : V} {d : D} {u : Value} {pos : Pos} (hg : Gl X x) (hm : X.mg x = some u) (rv : RelV v u) (r : ∀ Z H, Rep C.K Z H v d) (hd : (x == ("__debug__" : Str)) = false := by decide) : DE C X (.Name x pos) (tc d) := de_of (pe_glob hg hm rv hd) r

/-! ### argument lists, displays -/
def tlNil : TL := fun E Q => Q [] E
def tlCons (t : TD) (u : TL) : TL := fun E Q => t E fun d E1 => u E1 fun ds E2 => Q (d :: ds) E2
theorem da_nil : DA C X [] tlNil := pa_nil.imp fun σ H Q ⟨ps, Ep, E, Z, Qd, w, h, post⟩ => post [] E Z H [] w (Stp.refl _ _) .nil rfl h
theorem da_cons {e : Expr} {es : List Expr} {t : TD} {u : TL} (ha : DE C X e t) (hr : DA C X es u) (hs : starEach (e :: es) X.env = (false, eval e X.env) :: starEach es X.env := by rfl) : DA C X (e :: es) (tlCons t u) :=
  (pa_cons ha hr hs).imp fun σ H Q ⟨ps, Ep, E, Z, Qd, w, h, post⟩ => ⟨ps, Ep, E, Z, _, w, h, fun d E1 Z1 H1 v w1 st1 r1 h1 => ⟨ps, Ep, E1, Z1, _, w1, h1, fun ds E2 Z2 H2 vs w2 st2 r2 n h2 =>
    post _ E2 Z2 H2 _ w2 (st1.trans st2) (.cons (r1.mono st2) r2) (by rw [List.length_cons, List.length_cons, n]) h2⟩⟩
def tTupD (t : TL) : TD := fun E Q => t E fun ds E1 => Q (.tup ds) E1
theorem de_tup {es : List Expr} {t : TL} {x1} {pos : Pos} (h : DA C X es t) (hn : es.length ≤ 16777216 := by decide) : DE C X (.Tuple es x1 pos) (tTupD t) :=
  (pe_tup h).imp fun σ H Q ⟨ps, Ep, E, Z, Qd, w, h, post⟩ => ⟨ps, Ep, E, Z, _, w, h, fun ds E1 Z1 H1 vs w1 st1 r1 n h1 => ⟨by rw [r1.length, n, sizeLine_eq]; exact hn, fun p hp =>
    have st2 := Stp.new (o := .tup vs) w1.zt hp
    post _ E1 Z1 _ _ (w1.new hp) (st1.trans st2) (.tup (.of upd_same) (r1.mono st2)) h1⟩⟩
def tLstD (t : TL) : TN := fun E Q => t E fun ds E1 => Q (.lst ds) E1
theorem dn_lst {es : List Expr} {t : TL} {pos : Pos} (h : DA C X es t) (hn : es.length ≤ 16777216 := by decide) : DN C X (.List es pos) (tLstD t) :=
  (pe_lst h).imp fun σ H Q ⟨ps, Ep, E, Z, Qd, w, h, post⟩ => ⟨ps, Ep, E, Z, _, w, h, fun ds E1 Z1 H1 vs w1 st1 r1 n h1 => ⟨by rw [r1.length, n, sizeLine_eq]; exact hn, fun p hp => by
    obtain ⟨st2, w2⟩ := w1.push hp r1
    exact post _ E1 Z1 _ _ w2 (st1.trans st2) h1⟩⟩
/-- what is new is frozen -/
def tFz (t : TN) : TD := fun E Q => t E fun tr E1 => Q tr.fz E1
theorem de_n {e : Expr} {t : TN} (h : DN C X e t) : DE C X e (tFz t) := h.imp fun σ H Q ⟨ps, Ep, E, Z, Qd, w, h, post⟩ => ⟨ps, Ep, E, Z, _, w, h, fun tr E1 Z1 H1 v w1 st1 h1 => by
  obtain ⟨Z2, st2, w2, r2⟩ := w1.frP
  exact post _ E1 Z2 H1 v w2 (st1.trans st2) r2 h1⟩

/-! ### operators -/
abbrev O2 := D → D → (D → Prop) → Prop
def tOp2 (o : O2) (ta tb : TD) : TD := fun E Q => ta E fun x E1 => tb E1 fun y E2 => o x y fun z => Q z E2
/-- what a library's rule asks is met by o, the heap stays -/
def Meets (C : Ctx) (o : O2) (r : R2) : Prop := ∀ (Z : Addr → Prop) (H : Hp) (v w : V) (x y : D) (q : D → Prop) (Q : VK), Rep C.K Z H v x → Rep C.K Z H w y → o x y q → (∀ z d, Rep C.K Z H z d → q d → Q z H) → r v w H Q
theorem op2_imp {o : O2} {r : R2} (m : Meets C o r) {ta tb : TD} (σ : Sg) (H : Hp) (Q : VK) (h : teOf C (tOp2 o ta tb) σ H Q) : tOp r (teOf C ta) (teOf C tb) σ H Q := by
  obtain ⟨ps, Ep, E, Z, Qd, w, h, post⟩ := h
  exact ⟨ps, Ep, E, Z, _, w, h, fun x E1 Z1 H1 v w1 st1 r1 h1 => ⟨ps, Ep, E1, Z1, _, w1, h1, fun y E2 Z2 H2 u w2 st2 r2 h2 => m Z2 H2 v u x y _ Q (r1.mono st2) r2 h2 fun z d rz q => post d E2 Z2 H2 z w2 (st1.trans st2) rz q⟩⟩
theorem de_op {op : Operator} {o : O2} {r : R2} {a b : Expr} {ta tb : TD} {pos : Pos} (ho : OpR X (binaryOp op) r ∧ Meets C o r) (ha : DE C X a ta) (hb : DE C X b tb) : DE C X (.BinOp a op b pos) (tOp2 o ta tb) :=
  (pe_op ho.1 ha hb).imp (op2_imp ho.2)
theorem de_cmp {op : CmpOp} {o : O2} {r : R2} {a b : Expr} {ta tb : TD} {pos : Pos} (ho : OpR X (compareOp op) r ∧ Meets C o r) (ha : DE C X a ta) (hb : DE C X b tb) (hm : behindInMarks op b = false := by first | exact nomark _ | rfl) : DE C X (.Compare a [op] [b] pos) (tOp2 o ta tb) :=
  (pe_cmpR ho.1 ha hb hm).imp (op2_imp ho.2)
def tOp2B (o : O2) (ta tb : TD) : TB := fun E Q => ta E fun x E1 => tb E1 fun y E2 => o x y fun z => match z with
  | .bl k => Q k E2
  | _ => False
theorem dt_cmp {op : CmpOp} {o : O2} {r : R2} {a b : Expr} {ta tb : TD} {pos : Pos} (ho : OpR X (compareOp op) r ∧ Meets C o r) (ha : DE C X a ta) (hb : DE C X b tb) (hm : behindInMarks op b = false := by first | exact nomark _ | rfl) : DT C X (.Compare a [op] [b] pos) (tOp2B o ta tb) :=
  (pt_cmpR ho.1 ha hb hm).imp fun σ H Q ⟨ps, Ep, E, Z, Qd, w, h, post⟩ => ⟨ps, Ep, E, Z, _, w, h, fun x E1 Z1 H1 v w1 st1 r1 h1 => ⟨ps, Ep, E1, Z1, _, w1, h1, fun y E2 Z2 H2 u w2 st2 r2 h2 => ho.2 Z2 H2 v u x y _ _ (r1.mono st2) r2 h2 fun z d rz q => by
    cases rz with
    | bl k => exact ⟨k, rfl, post k E2 Z2 H2 w2 (st1.trans st2) q⟩
    | _ => cases q⟩⟩

def oI (f : Int → Int → D) : O2 := fun x y q => match x, y with
  | .int i, .int j => q (f i j)
  | _, _ => False
def oIc (c : Int → Int → Prop) (f : Int → Int → D) : O2 := fun x y q => match x, y with
  | .int i, .int j => c i j ∧ q (f i j)
  | _, _ => False
theorem meets_I {f : Int → Int → D} {g : Int → Int → V} (hr : ∀ K Z H i j, Rep K Z H (g i j) (f i j)) : Meets C (oI f) (rI0 g) := fun Z H v w x y q Q rx ry h k => by
  unfold oI at h
  split at h
  · cases rx; cases ry
    exact ⟨_, _, rfl, rfl, k _ _ (hr _ _ _ _ _) h⟩
  · cases h
theorem meets_Ic {c c' : Int → Int → Prop} {f : Int → Int → D} {g : Int → Int → V} (hr : ∀ K Z H i j, Rep K Z H (g i j) (f i j)) (hc : ∀ i j, c i j → c' i j) : Meets C (oIc c f) (rI c' g) := fun Z H v w x y q Q rx ry h k => by
  unfold oIc at h
  split at h
  · cases rx; cases ry
    exact ⟨_, _, rfl, rfl, hc _ _ h.1, k _ _ (hr _ _ _ _ _) h.2⟩
  · cases h
abbrev iInt (f : Int → Int → Int) : Int → Int → D := fun i j => .int (f i j)
abbrev iBl (f : Int → Int → Bool) : Int → Int → D := fun i j => .bl (f i j)
theorem o_sub : OpR X (binaryOp .Sub) (rI0 fun i j => .int (i - j)) ∧ Meets C (oI (iInt fun i j => i - j)) (rI0 fun i j => .int (i - j)) := ⟨op_sub, meets_I fun _ _ _ _ _ => .int _⟩
theorem o_mul : OpR X (binaryOp .Mult) (rI CMul fun i j => .int (i * j)) ∧ Meets C (oIc CMul (iInt fun i j => i * j)) (rI CMul fun i j => .int (i * j)) := ⟨op_mul, meets_Ic (fun _ _ _ _ _ => .int _) fun _ _ h => h⟩
theorem o_fdiv : OpR X (binaryOp .FloorDiv) (rI CDiv fun i j => .int (i / j)) ∧ Meets C (oIc CDiv (iInt fun i j => i / j)) (rI CDiv fun i j => .int (i / j)) := ⟨op_fdiv, meets_Ic (fun _ _ _ _ _ => .int _) fun _ _ h => h⟩
theorem o_mod : OpR X (binaryOp .Mod) (rI (fun _ j => 0 < j) fun i j => .int (i % j)) ∧ Meets C (oIc (fun _ j => 0 < j) (iInt fun i j => i % j)) (rI (fun _ j => 0 < j) fun i j => .int (i % j)) := ⟨op_mod, meets_Ic (fun _ _ _ _ _ => .int _) fun _ _ h => h⟩
theorem o_pow : OpR X (binaryOp .Pow) (rI CPow fun i j => .int (i ^ j.toNat)) ∧ Meets C (oIc CPow (iInt fun i j => i ^ j.toNat)) (rI CPow fun i j => .int (i ^ j.toNat)) := ⟨op_pow, meets_Ic (fun _ _ _ _ _ => .int _) fun _ _ h => h⟩
theorem o_lt : OpR X (compareOp .Lt) (rI0 fun i j => .bl (decide (i < j))) ∧ Meets C (oI (iBl fun i j => decide (i < j))) (rI0 fun i j => .bl (decide (i < j))) := ⟨op_lt, meets_I fun _ _ _ _ _ => .bl _⟩
theorem o_le : OpR X (compareOp .LtE) (rI0 fun i j => .bl (decide (i ≤ j))) ∧ Meets C (oI (iBl fun i j => decide (i ≤ j))) (rI0 fun i j => .bl (decide (i ≤ j))) := ⟨op_le, meets_I fun _ _ _ _ _ => .bl _⟩
theorem o_gt : OpR X (compareOp .Gt) (rI0 fun i j => .bl (decide (j < i))) ∧ Meets C (oI (iBl fun i j => decide (j < i))) (rI0 fun i j => .bl (decide (j < i))) := ⟨op_gt, meets_I fun _ _ _ _ _ => .bl _⟩
theorem o_ge : OpR X (compareOp .GtE) (rI0 fun i j => .bl (decide (j ≤ i))) ∧ Meets C (oI (iBl fun i j => decide (j ≤ i))) (rI0 fun i j => .bl (decide (j ≤ i))) := ⟨op_ge, meets_I fun _ _ _ _ _ => .bl _⟩
/-- + of ints, of texts -/
def oAdd : O2 := fun x y q => match x, y with
  | .int i, .int j => q (.int (i + j))
  | .str a, .str b => a.length + b.length ≤ sizeLine ∧ q (.str (a ++ b))
  | _, _ => False
def rAddA : R2 := fun x y H Q => (∃ i j, x = .int i ∧ y = .int j ∧ Q (.int (i + j)) H) ∨ ∃ i j, x = .str i ∧ y = .str j ∧ i.length + j.length ≤ sizeLine ∧ Q (.str (i ++ j)) H
theorem o_add : OpR X (binaryOp .Add) rAddA ∧ Meets C oAdd rAddA := ⟨op_add.or op_add_str, fun Z H v w x y q Q rx ry h k => by
  unfold oAdd at h
  split at h
  · cases rx; cases ry
    exact .inl ⟨_, _, rfl, rfl, k _ _ (.int _) h⟩
  · cases rx; cases ry
    exact .inr ⟨_, _, rfl, rfl, h.1, k _ _ (.str _) h.2⟩
  · cases h⟩
/-- == and != of data -/
def oEq : O2 := fun x y q => (x.shp = true ∧ y.shp = true) ∧ q (.bl (x.eqv y))
def oNe : O2 := fun x y q => (x.shp = true ∧ y.shp = true) ∧ q (.bl (!x.eqv y))
theorem shp_lay {d : D} (h : d.shp = true) : d.py.canLay0 = true := SeqAt.canLay_of_shaped h
theorem o_eq (hu : X.A.units + 64 < cLine) (hK : X.K = C.K := by rfl) : OpR X (compareOp .Eq) (rEqD X.K) ∧ Meets C oEq (rEqD X.K) := ⟨op_eqD hu, fun Z H v w x y q Q rx ry h k => by
  rw [hK]
  exact ⟨_, _, rx.dp (shp_lay h.1.1), ry.dp (shp_lay h.1.2), h.1.1, h.1.2, k _ _ (.bl _) h.2⟩⟩
theorem o_ne (hu : X.A.units + 64 < cLine) (hK : X.K = C.K := by rfl) : OpR X (compareOp .NotEq) (rNeD X.K) ∧ Meets C oNe (rNeD X.K) := ⟨op_neD hu, fun Z H v w x y q Q rx ry h k => by
  rw [hK]
  exact ⟨_, _, rx.dp (shp_lay h.1.1), ry.dp (shp_lay h.1.2), h.1.1, h.1.2, k _ _ (.bl _) h.2⟩⟩
/-- is None -/
def D.isN : D → Bool
  | .non => true
  | _ => false
theorem Rep.isN {K : Frg} {Z : Addr → Prop} {H : Hp} {v : V} {d : D} (h : Rep K Z H v d) : decide (v = .non) = d.isN := by cases h <;> rfl
def oIs : O2 := fun x y q => match y with
  | .non => q (.bl x.isN)
  | _ => False
def oIsnt : O2 := fun x y q => match y with
  | .non => q (.bl (!x.isN))
  | _ => False
theorem o_is : OpR X (compareOp .Is) (fun x y H Q => y = .non ∧ Q (.bl (decide (x = .non))) H) ∧ Meets C oIs (fun x y H Q => y = .non ∧ Q (.bl (decide (x = .non))) H) := ⟨op_isN, fun Z H v w x y q Q rx ry h k => by
  unfold oIs at h
  split at h
  · cases ry
    exact ⟨rfl, by rw [rx.isN]; exact k _ _ (.bl _) h⟩
  · cases h⟩
theorem o_isnt : OpR X (compareOp .IsNot) (fun x y H Q => y = .non ∧ Q (.bl (!decide (x = .non))) H) ∧ Meets C oIsnt (fun x y H Q => y = .non ∧ Q (.bl (!decide (x = .non))) H) := ⟨op_notN, fun Z H v w x y q Q rx ry h k => by
  unfold oIsnt at h
  split at h
  · cases ry
    exact ⟨rfl, by rw [rx.isN]; exact k _ _ (.bl _) h⟩
  · cases h⟩

/-! ### one operand -/
def tUn1 (o : D → (D → Prop) → Prop) (t : TD) : TD := fun E Q => t E fun x E1 => o x fun z => Q z E1
def oNeg : D → (D → Prop) → Prop := fun x q => match x with
  | .int i => q (.int (-i))
  | _ => False
theorem de_neg {a : Expr} {t : TD} {pos : Pos} (ha : DE C X a t) : DE C X (.UnaryOp .USub a pos) (tUn1 oNeg t) := (pe_un un_neg ha).imp fun σ H Q ⟨ps, Ep, E, Z, Qd, w, h, post⟩ => ⟨ps, Ep, E, Z, _, w, h, fun x E1 Z1 H1 v w1 st1 r1 h1 => by
  unfold oNeg at h1
  split at h1
  · cases r1
    exact ⟨_, rfl, post _ E1 Z1 H1 _ w1 st1 (.int _) h1⟩
  · cases h1⟩

/-! ### tests -/
/-- the truth of data -/
def truD (d : D) (q : Bool → Prop) : Prop := match d with
  | .non => q false
  | .bl b => q b
  | .int i => q (i != 0)
  | .str x => x.length ≤ sizeLine ∧ q ((x.length : Int) != 0)
  | .tup ds => q (!ds.isEmpty)
  | .lst ds => q (!ds.isEmpty)
  | .scr ds => q (!ds.isEmpty)
  | .dic ks _ => q (!ks.isEmpty)
  | .obj _ _ _ => False
theorem isEmpty_reps {K : Frg} {Z : Addr → Prop} {H : Hp} {vs : List V} {ds : List D} (h : Reps K Z H vs ds) : vs.isEmpty = ds.isEmpty := by cases h <;> rfl
theorem BRep.tru {K : Frg} {Z : Addr → Prop} {H : Hp} {v : V} {d : D} {q : Bool → Prop} (r : BRep K Z H v d) (h : truD d q) : ∃ k, TruV K v H k ∧ q k := by
  have main : ∀ {v : V} {d : D}, Rep K Z H v d → truD d q → ∃ k, TruV K v H k ∧ q k := by
    intro v d r h
    cases r with
    | non => exact ⟨_, rfl, h⟩
    | bl b => exact ⟨_, rfl, h⟩
    | int i => exact ⟨_, rfl, h⟩
    | str x => exact ⟨_, ⟨h.1, rfl⟩, h.2⟩
    | tup hs rs =>
      refine ⟨_, .inr (.inl ⟨_, hs, rfl⟩), ?_⟩
      rw [isEmpty_reps rs]; exact h
    | lst hs rs =>
      refine ⟨_, .inl ⟨_, hs.sq, rfl⟩, ?_⟩
      rw [isEmpty_reps rs]; exact h
    | scr hs rs =>
      refine ⟨_, .inl ⟨_, hs.sq, rfl⟩, ?_⟩
      rw [isEmpty_reps rs]; exact h
    | dic z hs e rs =>
      refine ⟨_, .inr (.inr ⟨_, hs, rfl⟩), ?_⟩
      subst e
      have q2 : q (!(List.map (fun x : Key × V => x.1) _).isEmpty) := h
      rw [List.isEmpty_map] at q2
      exact q2
    | obj z hs e rs => cases h
  rcases r with r | ⟨t, F, r, e⟩
  · exact main r h
  · cases r with
    | fr r => subst e; exact main r h
    | lst hs rs =>
      subst e
      refine ⟨_, .inl ⟨_, .of hs, rfl⟩, ?_⟩
      rw [isEmpty_reps rs]; exact h
    | dic hs e1 rs =>
      subst e
      refine ⟨_, .inr (.inr ⟨_, hs, rfl⟩), ?_⟩
      subst e1
      have q2 : q (!(List.map (fun x : Key × V => x.1) _).isEmpty) := h
      rw [List.isEmpty_map] at q2
      exact q2
    | obj hs e1 rs => subst e; cases h
def tTru (t : TD) : TB := fun E Q => t E fun d E1 => truD d fun k => Q k E1
theorem dt_b {e : Expr} {t : TD} (ha : DB C X e t) (he : ∀ whole, isTrue e X.env whole = (do let v ← whole; standAt e.pos; holding [v] (truthy v)) := by intro _; rfl) (hK : X.K = C.K := by rfl) : DT C X e (tTru t) :=
  (pt_truth ha he).imp fun σ H Q ⟨ps, Ep, E, Z, Qd, w, h, post⟩ => ⟨ps, Ep, E, Z, _, w, h, fun d E1 Z1 H1 v w1 st1 r1 h1 => by
    obtain ⟨k, tk, q⟩ := r1.tru h1
    rw [hK]
    exact ⟨k, tk, post k E1 Z1 H1 w1 st1 q⟩⟩
theorem dt_e {e : Expr} {t : TD} (ha : DE C X e t) (he : ∀ whole, isTrue e X.env whole = (do let v ← whole; standAt e.pos; holding [v] (truthy v)) := by intro _; rfl) (hK : X.K = C.K := by rfl) : DT C X e (tTru t) := dt_b (db_e ha) he hK
def tAndD (t u : TB) : TB := fun E Q => t E fun c E1 => brB c (u E1 Q) (Q false E1)
def tOrD (t u : TB) : TB := fun E Q => t E fun c E1 => brB c (Q true E1) (u E1 Q)
def tNotD (t : TB) : TB := fun E Q => t E fun c E1 => Q (!c) E1
theorem dw_and1 {a : Expr} {t : TB} {pos : Pos} (ha : DT C X a t) : DW C X (.BoolOp .And [a] pos) t := pw_and1 ha
theorem dw_or1 {a : Expr} {t : TB} {pos : Pos} (ha : DT C X a t) : DW C X (.BoolOp .Or [a] pos) t := pw_or1 ha
theorem dw_and {a b : Expr} {rest : List Expr} {t u : TB} {pos : Pos} (ha : DT C X a t) (hb : DW C X (.BoolOp .And (b :: rest) pos) u) : DW C X (.BoolOp .And (a :: b :: rest) pos) (tAndD t u) :=
  (pw_and ha hb).imp fun σ H Q ⟨ps, Ep, E, Z, Qd, w, h, post⟩ => ⟨ps, Ep, E, Z, _, w, h, fun c E1 Z1 H1 w1 st1 h1 => by
    cases c with
    | true =>
      have h1 : u E1 Qd := (by first | exact h1.t | exact h1.f)
      exact ⟨ps, Ep, E1, Z1, Qd, w1, h1, fun b E2 Z2 H2 w2 st2 h2 => post b E2 Z2 H2 w2 (st1.trans st2) h2⟩
    | false => exact post false E1 Z1 H1 w1 st1 h1.f⟩
theorem dw_or {a b : Expr} {rest : List Expr} {t u : TB} {pos : Pos} (ha : DT C X a t) (hb : DW C X (.BoolOp .Or (b :: rest) pos) u) : DW C X (.BoolOp .Or (a :: b :: rest) pos) (tOrD t u) :=
  (pw_or ha hb).imp fun σ H Q ⟨ps, Ep, E, Z, Qd, w, h, post⟩ => ⟨ps, Ep, E, Z, _, w, h, fun c E1 Z1 H1 w1 st1 h1 => by
    cases c with
    | false =>
      have h1 : u E1 Qd := (by first | exact h1.t | exact h1.f)
      exact ⟨ps, Ep, E1, Z1, Qd, w1, h1, fun b E2 Z2 H2 w2 st2 h2 => post b E2 Z2 H2 w2 (st1.trans st2) h2⟩
    | true => exact post true E1 Z1 H1 w1 st1 h1.t⟩
theorem dt_w {e : Expr} {t : TB} (h : DW C X e t) : DT C X e t := PW.pt h
theorem dt_not {a : Expr} {t : TB} {pos : Pos} (ha : DT C X a t) : DT C X (.UnaryOp .Not a pos) (tNotD t) :=
  (pt_not ha).imp fun σ H Q ⟨ps, Ep, E, Z, Qd, w, h, post⟩ => ⟨ps, Ep, E, Z, _, w, h, fun c E1 Z1 H1 w1 st1 h1 => post _ E1 Z1 H1 w1 st1 h1⟩
/-- as values, of bools -/
def tAndV' (t u : TD) : TD := fun E Q => t E fun d E1 => match d with
  | .bl c => brB c (u E1 Q) (Q (.bl false) E1)
  | _ => False
def tOrV' (t u : TD) : TD := fun E Q => t E fun d E1 => match d with
  | .bl c => brB c (Q (.bl true) E1) (u E1 Q)
  | _ => False
theorem de_one {op} {a : Expr} {t : TD} {pos : Pos} (h : DE C X a t) : DE C X (.BoolOp op [a] pos) t := pe_one h
theorem de_and {a b : Expr} {rest : List Expr} {t u : TD} {pos : Pos} (ha : DE C X a t) (hb : DE C X (.BoolOp .And (b :: rest) pos) u) : DE C X (.BoolOp .And (a :: b :: rest) pos) (tAndV' t u) :=
  (pe_and ha hb).imp fun σ H Q ⟨ps, Ep, E, Z, Qd, w, h, post⟩ => ⟨ps, Ep, E, Z, _, w, h, fun d E1 Z1 H1 v w1 st1 r1 h1 => by
    cases r1 with
    | bl c =>
      refine ⟨c, rfl, ?_⟩
      cases c with
      | true =>
        have h1 : u E1 Qd := (by first | exact h1.t | exact h1.f)
        exact ⟨ps, Ep, E1, Z1, Qd, w1, h1, fun b E2 Z2 H2 v2 w2 st2 r2 h2 => post b E2 Z2 H2 v2 w2 (st1.trans st2) r2 h2⟩
      | false => exact post _ E1 Z1 H1 _ w1 st1 (.bl _) h1.f
    | _ => cases h1⟩
theorem de_or {a b : Expr} {rest : List Expr} {t u : TD} {pos : Pos} (ha : DE C X a t) (hb : DE C X (.BoolOp .Or (b :: rest) pos) u) : DE C X (.BoolOp .Or (a :: b :: rest) pos) (tOrV' t u) :=
  (pe_or ha hb).imp fun σ H Q ⟨ps, Ep, E, Z, Qd, w, h, post⟩ => ⟨ps, Ep, E, Z, _, w, h, fun d E1 Z1 H1 v w1 st1 r1 h1 => by
    cases r1 with
    | bl c =>
      refine ⟨c, rfl, ?_⟩
      cases c with
      | false =>
        have h1 : u E1 Qd := (by first | exact h1.t | exact h1.f)
        exact ⟨ps, Ep, E1, Z1, Qd, w1, h1, fun b E2 Z2 H2 v2 w2 st2 r2 h2 => post b E2 Z2 H2 v2 w2 (st1.trans st2) r2 h2⟩
      | true => exact post _ E1 Z1 H1 _ w1 st1 (.bl _) h1.t
    | _ => cases h1⟩
def oNotV : D → (D → Prop) → Prop := fun x q => match x with
  | .bl c => q (.bl (!c))
  | _ => False
theorem de_not {a : Expr} {t : TD} {pos : Pos} (ha : DE C X a t) : DE C X (.UnaryOp .Not a pos) (tUn1 oNotV t) := (pe_not ha).imp fun σ H Q ⟨ps, Ep, E, Z, Qd, w, h, post⟩ => ⟨ps, Ep, E, Z, _, w, h, fun d E1 Z1 H1 v w1 st1 r1 h1 => by
    cases r1 with
    | bl c => exact ⟨c, rfl, post _ E1 Z1 H1 _ w1 st1 (.bl _) h1⟩
    | _ => cases h1⟩
def tIfE (c : TB) (t u : TD) : TD := fun E Q => c E fun b E1 => brB b (t E1 Q) (u E1 Q)
theorem de_if {c a b : Expr} {tc : TB} {t u : TD} {pos : Pos} (hc : DT C X c tc) (ha : DE C X a t) (hb : DE C X b u) : DE C X (.IfExp c a b pos) (tIfE tc t u) :=
  (pe_ifExp hc ha hb).imp fun σ H Q ⟨ps, Ep, E, Z, Qd, w, h, post⟩ => ⟨ps, Ep, E, Z, _, w, h, fun c E1 Z1 H1 w1 st1 h1 => by
    cases c with
    | true => exact ⟨ps, Ep, E1, Z1, Qd, w1, h1.t, fun b E2 Z2 H2 v2 w2 st2 r2 h2 => post b E2 Z2 H2 v2 w2 (st1.trans st2) r2 h2⟩
    | false => exact ⟨ps, Ep, E1, Z1, Qd, w1, h1.f, fun b E2 Z2 H2 v2 w2 st2 r2 h2 => post b E2 Z2 H2 v2 w2 (st1.trans st2) r2 h2⟩⟩

/-! ### subscripts -/
def oIx : O2 := fun x y q => match x, y with
  | .tup ds, .int i => (match atI ds i with | some d => q d | none => False)
  | .lst ds, .int i => (match atI ds i with | some d => q d | none => False)
  | .str z, .int i => z.length ≤ sizeLine ∧ (match atI z.cps.toList i with | some c => q (.str ⟨#[c]⟩) | none => False)
  | _, _ => False
theorem Reps.atI {K : Frg} {Z : Addr → Prop} {H : Hp} {vs : List V} {ds : List D} {i : Int} {d : D} (r : Reps K Z H vs ds) (h : atI ds i = some d) : ∃ v, L2.atI vs i = some v ∧ Rep K Z H v d := by
  unfold L2.atI at h ⊢
  rw [r.length]
  cases q : ixN ds.length i with
  | none => rw [q] at h; cases h
  | some j =>
    rw [q] at h
    exact r.get (i := j) h
theorem meets_ix : Meets C oIx (rIx C.K) := fun Z H v w x y q Q rx ry h k => by
  unfold oIx at h
  split at h
  · split at h
    · rename_i e
      cases ry
      cases rx with
      | tup hs rs =>
        obtain ⟨v, e1, r⟩ := rs.atI e
        exact .inr (.inl ⟨_, _, _, v, rfl, rfl, hs, e1, k _ _ r h⟩)
    · cases h
  · split at h
    · rename_i e
      cases ry
      cases rx with
      | lst hs rs =>
        obtain ⟨v, e1, r⟩ := rs.atI e
        exact .inl ⟨_, _, _, v, rfl, rfl, hs.sq, e1, k _ _ r h⟩
    · cases h
  · obtain ⟨hz, h⟩ := h
    split at h
    · rename_i e
      cases ry
      cases rx
      exact .inr (.inr ⟨_, _, _, rfl, rfl, hz, e, k _ _ (.str _) h⟩)
    · cases h
  · cases h
theorem de_ix {a b : Expr} {ta tb : TD} {pos : Pos} (ha : DE C X a ta) (hb : DE C X b tb) (hs : PlainIx b := by exact fun _ _ => rfl) (hK : X.K = C.K := by rfl) : DE C X (.Subscript a b pos) (tOp2 oIx ta tb) :=
  (pe_ix ix_seq ha hb hs).imp fun σ H Q h => by
    rw [hK]
    exact op2_imp meets_ix σ H Q h
def S.knownB : S → Bool
  | .un => false
  | _ => true
/-- an item of what stands at a name, not taken over -/
def tIxO (i : Nat) (ti : TD) : TD := fun E Q => (match E[i]? with | some s => s.knownB = true | none => False) ∧ ti E fun k E1 => match E1[i]? with
  | some (.fr x) => oIx x k fun d => Q d E1
  | some (.ow t) => oIx t.fz k fun d => Q d E1
  | some (.mu t) => oIx t.fz k fun d => Q d E1
  | _ => False
theorem At.known {ps : Sg} {Ep : List S} {Z : Addr → Prop} {σ : Sg} {E : List S} {H : Hp} (w : At C ps Ep Z σ E H) {i : Nat} {s : S} (e : E[i]? = some s) (h : s.knownB = true) : ∃ v, σ[i]? = some (some v) := by
  cases s with
  | un => cases h
  | fr d => obtain ⟨v, e1, _⟩ := w.get e; exact ⟨v, e1⟩
  | ow t => obtain ⟨v, _, e1, _⟩ := w.tree e (t := t) rfl; exact ⟨v, e1⟩
  | mu t => obtain ⟨v, _, e1, _⟩ := w.tree e (t := t) rfl; exact ⟨v, e1⟩
theorem BRep.ix {Z : Addr → Prop} {H : Hp} {K : Frg} {v w : V} {x y : D} {q : D → Prop} {Q : VK} (rx : BRep K Z H v x) (ry : Rep K Z H w y) (h : oIx x y q) (k : ∀ z d, Rep K Z H z d → q d → Q z H) : rIx K v w H Q := by
  unfold oIx at h
  split at h
  · split at h
    · rename_i e
      cases ry
      obtain ⟨a, vs, rfl, hs, rs⟩ := rx.tup
      obtain ⟨v, e1, r⟩ := rs.atI e
      exact .inr (.inl ⟨_, _, _, v, rfl, rfl, hs, e1, k _ _ r h⟩)
    · cases h
  · split at h
    · rename_i e
      cases ry
      obtain ⟨a, vs, rfl, hs, rs⟩ := rx.lst
      obtain ⟨v, e1, r⟩ := rs.atI e
      exact .inl ⟨_, _, _, v, rfl, rfl, hs, e1, k _ _ r h⟩
    · cases h
  · obtain ⟨hz, h⟩ := h
    split at h
    · rename_i e
      cases ry
      cases rx.str
      exact .inr (.inr ⟨_, _, _, rfl, rfl, hz, e, k _ _ (.str _) h⟩)
    · cases h
  · cases h
theorem At.brep {ps : Sg} {Ep : List S} {Z : Addr → Prop} {σ : Sg} {E : List S} {H : Hp} (w : At C ps Ep Z σ E H) {i : Nat} {s : S} {t : T} (e : E[i]? = some s) (et : s.tree? = some t) {v : V} (hv : σ[i]? = some (some v)) : BRep C.K Z H v t.fz := by
  obtain ⟨v', F, e1, r⟩ := w.tree e et
  rw [hv] at e1
  cases e1
  exact .inr ⟨t, F, r, rfl⟩
theorem de_ixo (i : Nat) {x : Str} {b : Expr} {tb : TD} {pos pos' : Pos} (hb : DE C X b tb) (hN : X.N[i]? = some x := by rfl) (hv : Vis X.env.scope x := by first | exact Or.inl rfl | exact Or.inr (Or.inl rfl) | exact Or.inr (Or.inr rfl)) (hd : (x == ("__debug__" : Str)) = false := by decide)
    (hcd : (x == ("__classdict__" : Str)) = false := by decide) (hs : PlainIx b := by exact fun _ _ => rfl) (hK : X.K = C.K := by rfl) : DE C X (.Subscript (.Name x pos') b pos) (tIxO i tb) :=
  (pe_ix ix_seq (pe_var hN hv hd hcd) hb hs).imp fun σ H Q ⟨ps, Ep, E, Z, Qd, w, ⟨hk, h⟩, post⟩ => by
    rw [hK]
    split at hk
    · rename_i s e
      obtain ⟨v, e1⟩ := w.known e hk
      refine ⟨v, e1, ps, Ep, E, Z, _, w, h, fun k E1 Z1 H1 u w1 st1 r1 h1 => ?_⟩
      split at h1
      · rename_i d e2
        obtain ⟨v', e3, r3⟩ := w1.get e2
        rw [e1] at e3; cases e3
        exact meets_ix Z1 H1 v u d k _ Q r3 r1 h1 fun z d rz q => post d E1 Z1 H1 z w1 st1 rz q
      · rename_i t e2
        exact (w1.brep e2 rfl e1).ix r1 h1 fun z d rz q => post d E1 Z1 H1 z w1 st1 rz q
      · rename_i t e2
        exact (w1.brep e2 rfl e1).ix r1 h1 fun z d rz q => post d E1 Z1 H1 z w1 st1 rz q
      · cases h1
    · cases hk
end
end DL
set_option Elab.async false
set_option linter.all false
set_option maxRecDepth 100000
set_option maxHeartbeats 4000000
/-! DL, part d: targets, what a loop walks, statements, comprehensions. -/
namespace DL
open PySem PySem.Spec PyProof.Rows L2

/-! ### targets -/
abbrev TGD := D → List S → (List S → Prop) → Prop
abbrev TGsD := List D → List S → (List S → Prop) → Prop
def tgOf (C : Ctx) (gs : List Nat) (t : TGD) : TG := fun v σ H Q => ∃ ps Ep E Z d Qe, At C ps Ep Z σ E H ∧ Rep C.K Z H v d ∧ t d E Qe ∧ ∀ σ' E', At C ps Ep Z σ' E' H → (σ'.length = σ.length ∧ ∀ j : Nat, j ∉ gs → σ'[j]? = σ[j]?) → Qe E' → Q σ' H
def tgsOf (C : Ctx) (gs : List Nat) (t : TGsD) : TGs := fun vs σ H Q => ∃ ps Ep E Z ds Qe, At C ps Ep Z σ E H ∧ Reps C.K Z H vs ds ∧ t ds E Qe ∧ ∀ σ' E', At C ps Ep Z σ' E' H → (σ'.length = σ.length ∧ ∀ j : Nat, j ∉ gs → σ'[j]? = σ[j]?) → Qe E' → Q σ' H
abbrev DG (C : Ctx) (X : Cx) (gs : List Nat) (e : Expr) (t : TGD) : Prop := PG X e (tgOf C gs t)
abbrev DGs (C : Ctx) (X : Cx) (gs : List Nat) (es : List Expr) (t : TGsD) : Prop := PGs X es (tgsOf C gs t)
theorem _root_.L2.PGs.imp {X : Cx} {es : List Expr} {t t' : TGs} (h : PGs X es t) (k : ∀ v σ H Q, t' v σ H Q → t v σ H Q) : PGs X es t' := ⟨fun pins s σ H v u Q I r q => h.run pins s σ H v u Q I r (k v σ H Q q)⟩
/-- a place that may be stored to -/
def S.free : Option S → Bool
  | some (.mu _) => false
  | some _ => true
  | none => false
theorem free_lt {E : List S} {i : Nat} (h : S.free E[i]? = true) : i < E.length ∧ ∀ t, E[i]? ≠ some (.mu t) := by
  refine ⟨Classical.byContradiction fun n => ?_, fun t e => ?_⟩
  · rw [List.getElem?_eq_none (by omega)] at h; cases h
  · rw [e] at h; cases h
def gN (i : Nat) : TGD := fun d E Q => S.free E[i]? = true ∧ Q (E.set i (.fr d))
section
variable {C : Ctx} {X : Cx} {pos : Pos}
theorem dg_n (i : Nat) {x : Str} (hN : X.N.Nodup) (hi : X.N[i]? = some x := by rfl) (hx : Loc X.env.scope x := by first | exact .inl rfl | exact .inr rfl) (hf : X.fn x = true ∨ X.env.scope.names.lookup x = some .local := by first | exact .inl rfl | exact .inr rfl | assumption) :
    DG C X [i] (.Name x pos) (gN i) := (pg_name hN hi hx hf).imp fun v σ H Q ⟨ps, Ep, E, Z, d, Qe, w, r, ⟨h1, h⟩, post⟩ => by
  obtain ⟨f1, f2⟩ := free_lt h1
  exact post _ _ (w.setD r f1 f2) ⟨List.length_set, fun j hj => List.getElem?_set_ne (fun e => hj (by simp [e]))⟩ h
def gsNil : TGsD := fun ds E Q => match ds with
  | [] => Q E
  | _ => False
def gsCons (t : TGD) (u : TGsD) : TGsD := fun ds E Q => match ds with
  | d :: r => t d E fun E1 => u r E1 Q
  | [] => False
theorem dgs_nil : DGs C X [] [] gsNil := pgs_nil.imp fun vs σ H Q ⟨ps, Ep, E, Z, ds, Qe, w, r, h, post⟩ => by
  unfold gsNil at h
  split at h
  · cases r
    exact ⟨rfl, post _ _ w ⟨rfl, fun _ _ => rfl⟩ h⟩
  · cases h
theorem dgs_cons {e : Expr} {es : List Expr} {gs hs' : List Nat} {t : TGD} {u : TGsD} (h1 : DG C X gs e t) (h2 : DGs C X hs' es u) (hs : (assignEach (e :: es) X.env).map (·.2) = assign e X.env :: (assignEach es X.env).map (·.2) := by rfl) :
    DGs C X (gs ++ hs') (e :: es) (gsCons t u) := (pgs_cons h1 h2 hs).imp fun vs σ H Q ⟨ps, Ep, E, Z, ds, Qe, w, r, h, post⟩ => by
  unfold gsCons at h
  split at h
  · cases r with
    | cons rv rr =>
      refine ⟨_, _, rfl, ps, Ep, E, Z, _, _, w, rv, h, fun σ1 E1 w1 k1 h1 => ⟨ps, Ep, E1, Z, _, _, w1, rr, h1, fun σ2 E2 w2 k2 h2 => post σ2 E2 w2 ⟨k2.1.trans k1.1, fun j hj => ?_⟩ h2⟩⟩
      rw [k2.2 j fun m => hj (List.mem_append_right _ m), k1.2 j fun m => hj (List.mem_append_left _ m)]
  · cases h
def gTupD (n : Nat) (t : TGsD) : TGD := fun d E Q => match d with
  | .tup ds => ds.length = n ∧ t ds E Q
  | _ => False
theorem dg_tup {es : List Expr} {k : Nat} {gs : List Nat} {t : TGsD} {n : Nat} (h : DGs C X gs es t) (hc : X.calm = true := by rfl) (hn : (assignEach es X.env).length = n := by rfl) (hst : (assignEach es X.env).findIdx? (·.1) = none := by rfl) (hK : X.K = C.K := by rfl) :
    DG C X gs (.Tuple es k pos) (gTupD n t) := (pg_tup hc h hn hst).imp fun v σ H Q ⟨ps, Ep, E, Z, d, Qe, w, r, h, post⟩ => by
  unfold gTupD at h
  split at h
  · cases r with
    | tup hs rs =>
      rw [hK]
      exact ⟨_, _, rfl, hs, rs.length.trans h.1, ps, Ep, E, Z, _, Qe, w, rs, h.2, post⟩
  · cases h
end

/-! ### what a loop walks -/
structure Walks (C : Ctx) (J : It) (Z : Addr → Prop) (H : Hp) (ds : List D) (hold : Sg → List S → Prop) : Prop where
  stop : ∀ (Z2 : Addr → Prop) (σ2 : Sg) (E2 : List S) (H2 : Hp) (ps : Sg) (Ep : List S), Stp Z H Z2 H2 → At C ps Ep Z2 σ2 E2 H2 → hold σ2 E2 → ∀ i, ds.length ≤ i → J.stop i H2
  go : ∀ (Z2 : Addr → Prop) (σ2 : Sg) (E2 : List S) (H2 : Hp) (ps : Sg) (Ep : List S), Stp Z H Z2 H2 → At C ps Ep Z2 σ2 E2 H2 → hold σ2 E2 → ∀ (i : Nat) d, ds[i]? = some d → J.go i H2 ∧ ∀ x H3, J.yld i H2 x H3 →
    (H3 = H2 ∨ ∃ p o, H2 p = none ∧ H3 = upd H2 p o) ∧ Rep C.K Z2 H3 x d
abbrev TIt := List S → (List D → List S → Prop) → Prop
def tiOf (C : Ctx) (t : TIt) : TI := fun σ H R => ∃ ps Ep E Z Qi, At C ps Ep Z σ E H ∧ t E Qi ∧ ∀ J ds E' Z' H', At C ps Ep Z' σ E' H' → Stp Z H Z' H' → Walks C J Z' H' ds (fun _ _ => True) → Qi ds E' → R J H'
abbrev DI (C : Ctx) (X : Cx) (tg e : Expr) (t : TIt) : Prop := PI X tg e (tiOf C t)
section
variable {C : Ctx} {X : Cx} {tg : Expr}
def iSeq (K : Frg) (tl : TE) : TI := fun σ H R => tl σ H fun x H1 => ∃ a, x = .ref a ∧ (((∃ xs, SqL K H1 a xs) ∧ R (Itl K a) H1) ∨ ((∃ xs, SqT K H1 a xs) ∧ R (Itt K a) H1))
theorem pi_seq {l : Expr} {tl : TE} (hl : PE X l tl) : PI X tg l (iSeq X.K tl) := by
  refine ⟨fun pins s σ H R I h => ?_⟩
  refine thn (hl.run pins s σ H _ I h) fun v s1 ⟨x, H1, I1, r1, q1⟩ => ?_
  obtain ⟨a, e, q⟩ := q1
  subst e
  cases r1
  rcases q with ⟨⟨xs, hq⟩, q⟩ | ⟨⟨xs, hq⟩, q⟩
  · obtain ⟨its, rv, p, hz⟩ := I1.list hq
    refine wpAny_pyIter_list p.isList ?_
    refine ⟨s1.heap.objs.size, [s1.heap.objs.size], _, _, H1, rfl, I1.kept (t' := s1.toks) fun b o e => Heap.get?_push_of_some _ e, turn_list a _, ⟨_, Heap.get?_push_size _ rfl, rfl, rfl⟩, fun b hb => ?_, q⟩
    have e : b = s1.heap.objs.size := by simpa using hb
    subst e
    exact I1.fpOk (Nat.le_refl _) (I1.hok.fresh (Nat.le_refl _))
  · obtain ⟨its, rv, p, hz⟩ := I1.tuple hq
    refine wpAny_pyIter_tuple (show s1.heap.IsTuple a its.toArray from p) ?_
    refine ⟨s1.heap.objs.size, [s1.heap.objs.size], _, _, H1, rfl, I1.kept (t' := s1.toks) fun b o e => Heap.get?_push_of_some _ e, turn_tuple a _, ⟨_, Heap.get?_push_size _ rfl, rfl, rfl⟩, fun b hb => ?_, q⟩
    have e : b = s1.heap.objs.size := by simpa using hb
    subst e
    exact I1.fpOk (Nat.le_refl _) (I1.hok.fresh (Nat.le_refl _))
theorem walks_lst {Z : Addr → Prop} {H : Hp} {a : Addr} {vs : List V} {ds : List D} (h : LsS C.K Z H a vs) (r : Reps C.K Z H vs ds) : Walks C (Itl C.K a) Z H ds (fun _ _ => True) :=
  ⟨fun Z2 σ2 E2 H2 ps Ep st w _ i hi => ⟨vs, (h.mono st).sq, by rw [r.length]; exact hi⟩, fun Z2 σ2 E2 H2 ps Ep st w _ i d e => by
    obtain ⟨v, e1, rv⟩ := (r.mono st).get e
    refine ⟨⟨vs, v, (h.mono st).sq, e1⟩, fun x H3 y => ?_⟩
    obtain ⟨y1, y2⟩ := y
    subst y1
    have := y2 vs (h.mono st).sq
    rw [e1] at this
    cases this
    exact ⟨.inl rfl, rv⟩⟩
theorem walks_tup {Z : Addr → Prop} {H : Hp} {a : Addr} {vs : List V} {ds : List D} (h : SqT C.K H a vs) (r : Reps C.K Z H vs ds) : Walks C (Itt C.K a) Z H ds (fun _ _ => True) :=
  ⟨fun Z2 σ2 E2 H2 ps Ep st w _ i hi => ⟨vs, sqT_mono st h, by rw [r.length]; exact hi⟩, fun Z2 σ2 E2 H2 ps Ep st w _ i d e => by
    obtain ⟨v, e1, rv⟩ := (r.mono st).get e
    refine ⟨⟨vs, v, sqT_mono st h, e1⟩, fun x H3 y => ?_⟩
    obtain ⟨y1, y2⟩ := y
    subst y1
    have := y2 vs (sqT_mono st h)
    rw [e1] at this
    cases this
    exact ⟨.inl rfl, rv⟩⟩
def tiSeq (t : TD) : TIt := fun E Q => t E fun d E1 => match d with
  | .lst ds => Q ds E1
  | .tup ds => Q ds E1
  | .scr ds => Q ds E1
  | _ => False
theorem di_seq {l : Expr} {t : TD} (hl : DE C X l t) (hK : X.K = C.K := by rfl) : DI C X tg l (tiSeq t) := (pi_seq hl).imp fun σ H R ⟨ps, Ep, E, Z, Qd, w, h, post⟩ => by
  rw [hK]
  refine ⟨ps, Ep, E, Z, _, w, h, fun d E1 Z1 H1 v w1 st1 r1 h1 => ?_⟩
  split at h1
  · cases r1 with
    | lst hs rs => exact ⟨_, rfl, .inl ⟨⟨_, hs.sq⟩, post _ _ E1 Z1 H1 w1 st1 (walks_lst (.inl hs) rs) h1⟩⟩
  · cases r1 with
    | tup hs rs => exact ⟨_, rfl, .inr ⟨⟨_, hs⟩, post _ _ E1 Z1 H1 w1 st1 (walks_tup hs rs) h1⟩⟩
  · cases r1 with
    | scr hs rs => exact ⟨_, rfl, .inl ⟨⟨_, hs.sq⟩, post _ _ E1 Z1 H1 w1 st1 (walks_lst hs rs) h1⟩⟩
  · cases h1
/-- the ints of a range -/
def rng (i j : Int) : List D := (List.range (j - i).toNat).map fun k : Nat => .int (i + (k : Int))
theorem rng_get {i j : Int} {k : Nat} {d : D} (h : (rng i j)[k]? = some d) : k < (j - i).toNat ∧ d = .int (i + k) := by
  unfold rng at h
  rw [List.getElem?_map] at h
  cases e : (List.range (j - i).toNat)[k]? with
  | none => rw [e] at h; cases h
  | some m =>
    rw [e] at h
    obtain ⟨h1, h2⟩ := List.getElem?_eq_some_iff.mp e
    rw [List.getElem_range] at h2
    rw [List.length_range] at h1
    subst h2
    cases h
    exact ⟨h1, rfl⟩
theorem rng_len (i j : Int) : (rng i j).length = (j - i).toNat := by unfold rng; rw [List.length_map, List.length_range]
theorem walks_rng {Z : Addr → Prop} {H : Hp} (i j : Int) : Walks C (Itr i (j - i).toNat) Z H (rng i j) (fun _ _ => True) :=
  ⟨fun Z2 σ2 E2 H2 ps Ep st w _ k hk => by rw [rng_len] at hk; exact hk, fun Z2 σ2 E2 H2 ps Ep st w _ k d e => by
    obtain ⟨h1, h2⟩ := rng_get e
    refine ⟨h1, fun x H3 y => ?_⟩
    obtain ⟨y1, y2⟩ := y
    subst y1 y2 h2
    exact ⟨.inl rfl, .int _⟩⟩
def rgOk (i j : Int) : Prop := -(2 ^ 62) ≤ i ∧ i < 2 ^ 62 ∧ -(2 ^ 62) ≤ j ∧ j < 2 ^ 62
def tiRng1 (t : TD) : TIt := fun E Q => t E fun d E1 => match d with
  | .int j => rgOk 0 j ∧ Q (rng 0 j) E1
  | _ => False
def tiRng2 (t u : TD) : TIt := fun E Q => t E fun d E1 => u E1 fun e E2 => match d, e with
  | .int i, .int j => rgOk i j ∧ Q (rng i j) E2
  | _, _ => False
theorem di_range1 {a : Expr} {t : TD} {p pos : Pos} (hg : Gl X "range") (hm : X.mg "range" = none) (ha : DE C X a t) (hs : starEach [a] X.env = [(false, eval a X.env)] := by rfl) : DI C X tg (.Call (.Name "range" p) [a] [] pos) (tiRng1 t) :=
  (pi_range1 hg hm (pa_cons ha pa_nil hs) hs).imp fun σ H R ⟨ps, Ep, E, Z, Qd, w, h, post⟩ => ⟨ps, Ep, E, Z, _, w, h, fun d E1 Z1 H1 v w1 st1 r1 h1 => by
    split at h1
    · obtain ⟨⟨_, _, k1, k2⟩, h1⟩ := h1
      cases r1
      refine ⟨_, rfl, k1, k2, post _ _ E1 Z1 H1 w1 st1 ?_ h1⟩
      have := walks_rng (C := C) (Z := Z1) (H := H1) 0 (by assumption)
      rw [Int.sub_zero] at this
      exact this
    · cases h1⟩
theorem di_range2 {a b : Expr} {t u : TD} {p pos : Pos} (hg : Gl X "range") (hm : X.mg "range" = none) (ha : DE C X a t) (hb : DE C X b u) (hs : starEach [a, b] X.env = [(false, eval a X.env), (false, eval b X.env)] := by rfl) (hs2 : starEach [b] X.env = [(false, eval b X.env)] := by rfl) :
    DI C X tg (.Call (.Name "range" p) [a, b] [] pos) (tiRng2 t u) :=
  (pi_range2 hg hm (pa_cons ha (pa_cons hb pa_nil hs2) (by rw [hs, hs2])) hs hs2).imp fun σ H R ⟨ps, Ep, E, Z, Qd, w, h, post⟩ => ⟨ps, Ep, E, Z, _, w, h, fun d E1 Z1 H1 v w1 st1 r1 h1 =>
    ⟨ps, Ep, E1, Z1, _, w1, h1, fun e E2 Z2 H2 v2 w2 st2 r2 h2 => by
      split at h2
      · obtain ⟨k, h2⟩ := h2
        cases r1; cases r2
        exact ⟨_, _, rfl, k, post _ _ E2 Z2 H2 w2 (st1.trans st2) (walks_rng _ _) h2⟩
      · cases h2⟩⟩
end

/-! ### statements -/
structure DEnd where
  nx : List S → Prop
  rt : S → List S → Prop
  bk : List S → Prop := fun _ => False
  ct : List S → Prop := fun _ => False
abbrev TSD := DEnd → List S → Prop
def ResAt (C : Ctx) (ps : Sg) (Ep : List S) (Z : Addr → Prop) (σ : Sg) (E : List S) (H : Hp) (v : V) : S → Prop
  | .fr d => At C ps Ep Z σ E H ∧ Rep C.K Z H v d
  | .ow tr => At C (ps ++ [some v]) (Ep ++ [.ow tr]) Z σ E H
  | _ => False
structure Fits (C : Ctx) (ps : Sg) (Ep : List S) (Z : Addr → Prop) (H : Hp) (Dd : DEnd) (Dn : Ends) : Prop where
  nx : ∀ σ' E' Z' H', At C ps Ep Z' σ' E' H' → Stp Z H Z' H' → Dd.nx E' → Dn.nx σ' H'
  bk : ∀ σ' E' Z' H', At C ps Ep Z' σ' E' H' → Stp Z H Z' H' → Dd.bk E' → Dn.bk σ' H'
  ct : ∀ σ' E' Z' H', At C ps Ep Z' σ' E' H' → Stp Z H Z' H' → Dd.ct E' → Dn.ct σ' H'
  rt : ∀ r σ' E' Z' H' v, ResAt C ps Ep Z' σ' E' H' v r → Stp Z H Z' H' → Dd.rt r E' → Dn.rt v H'
theorem Fits.on {C : Ctx} {ps : Sg} {Ep : List S} {Z Z' : Addr → Prop} {H H' : Hp} {Dd : DEnd} {Dn : Ends} (f : Fits C ps Ep Z H Dd Dn) (st : Stp Z H Z' H') : Fits C ps Ep Z' H' Dd Dn :=
  ⟨fun σ' E' Z2 H2 w s h => f.nx σ' E' Z2 H2 w (st.trans s) h, fun σ' E' Z2 H2 w s h => f.bk σ' E' Z2 H2 w (st.trans s) h, fun σ' E' Z2 H2 w s h => f.ct σ' E' Z2 H2 w (st.trans s) h, fun r σ' E' Z2 H2 v w s h => f.rt r σ' E' Z2 H2 v w (st.trans s) h⟩
def tsOf (C : Ctx) (t : TSD) : TS := fun Dn σ H => ∃ ps Ep E Z Dd, At C ps Ep Z σ E H ∧ t Dd E ∧ Fits C ps Ep Z H Dd Dn
abbrev DS (C : Ctx) (X : Cx) (st : Stmt) (t : TSD) : Prop := PS X st (tsOf C t)
abbrev DSs (C : Ctx) (X : Cx) (st : List Stmt) (t : TSD) : Prop := PSs X st (tsOf C t)
section
variable {C : Ctx} {X : Cx} {pos : Pos}
def dNext : TSD := fun D E => D.nx E
def dSeq (t u : TSD) : TSD := fun D E => t { D with nx := u D } E
theorem dss_nil : DSs C X [] dNext := pss_nil.imp fun Dn σ H ⟨ps, Ep, E, Z, Dd, w, h, f⟩ => f.nx σ E Z H w (Stp.refl _ _) h
theorem dss_cons {st : Stmt} {rest : List Stmt} {t u : TSD} (h1 : DS C X st t) (h2 : DSs C X rest u) : DSs C X (st :: rest) (dSeq t u) := (pss_cons h1 h2).imp fun Dn σ H ⟨ps, Ep, E, Z, Dd, w, h, f⟩ =>
  ⟨ps, Ep, E, Z, _, w, h, ⟨fun σ' E' Z' H' w' st' h' => ⟨ps, Ep, E', Z', Dd, w', h', f.on st'⟩, f.bk, f.ct, f.rt⟩⟩
/-- two in a row, what holds between them told -/
def dSeqJ (t u : TSD) : TSD := fun D E => ∃ J : List S → Prop, t { D with nx := J } E ∧ ∀ E', J E' → u D E'
theorem dss_join {st : Stmt} {rest : List Stmt} {t u : TSD} (h1 : DS C X st t) (h2 : DSs C X rest u) : DSs C X (st :: rest) (dSeqJ t u) := (pss_cons h1 h2).imp fun Dn σ H ⟨ps, Ep, E, Z, Dd, w, ⟨J, h, k⟩, f⟩ =>
  ⟨ps, Ep, E, Z, _, w, h, ⟨fun σ' E' Z' H' w' st' h' => ⟨ps, Ep, E', Z', Dd, w', k E' h', f.on st'⟩, f.bk, f.ct, f.rt⟩⟩
theorem dss_one {st : Stmt} {t : TSD} (h1 : DS C X st t) : DSs C X [st] t := pss_one h1
def dBreak : TSD := fun D E => D.bk E
def dCont : TSD := fun D E => D.ct E
theorem ds_pass : DS C X (.Pass pos) dNext := ps_pass.imp fun Dn σ H ⟨ps, Ep, E, Z, Dd, w, h, f⟩ => f.nx σ E Z H w (Stp.refl _ _) h
theorem ds_break : DS C X (.Break pos) dBreak := ps_break.imp fun Dn σ H ⟨ps, Ep, E, Z, Dd, w, h, f⟩ => f.bk σ E Z H w (Stp.refl _ _) h
theorem ds_continue : DS C X (.Continue pos) dCont := ps_continue.imp fun Dn σ H ⟨ps, Ep, E, Z, Dd, w, h, f⟩ => f.ct σ E Z H w (Stp.refl _ _) h
def dNever : TSD := fun _ _ => False
theorem ds_never {st : Stmt} : DS C X st dNever := ps_never.imp fun Dn σ H ⟨_, _, _, _, _, _, h, _⟩ => h
def dExpr (t : TD) : TSD := fun D E => t E fun _ E1 => D.nx E1
theorem ds_expr {e : Expr} {t : TD} (he : DE C X e t) (hs : swapsWith e none pos.line X.env = pure false := by rfl) : DS C X (.Expr e pos) (dExpr t) := (ps_expr he hs).imp fun Dn σ H ⟨ps, Ep, E, Z, Dd, w, h, f⟩ =>
  ⟨ps, Ep, E, Z, _, w, h, fun d E1 Z1 H1 v w1 st1 r1 h1 => f.nx σ E1 Z1 H1 w1 st1 h1⟩
def dRet (t : TD) : TSD := fun D E => t E fun d E1 => D.rt (.fr d) E1
theorem ds_ret {e : Expr} {t : TD} (he : DE C X e t) : DS C X (.Return (some e) pos) (dRet t) := (ps_ret he).imp fun Dn σ H ⟨ps, Ep, E, Z, Dd, w, h, f⟩ =>
  ⟨ps, Ep, E, Z, _, w, h, fun d E1 Z1 H1 v w1 st1 r1 h1 => f.rt (.fr d) σ E1 Z1 H1 v ⟨w1, r1⟩ st1 h1⟩
def dRetN (t : TN) : TSD := fun D E => t E fun tr E1 => D.rt (.ow tr) E1
theorem ds_retn {e : Expr} {t : TN} (he : DN C X e t) : DS C X (.Return (some e) pos) (dRetN t) := (ps_ret he).imp fun Dn σ H ⟨ps, Ep, E, Z, Dd, w, h, f⟩ =>
  ⟨ps, Ep, E, Z, _, w, h, fun tr E1 Z1 H1 v w1 st1 h1 => f.rt (.ow tr) σ E1 Z1 H1 v w1 st1 h1⟩
def dRet0 : TSD := fun D E => D.rt (.fr .non) E
theorem ds_ret0 : DS C X (.Return none pos) dRet0 := ps_retN.imp fun Dn σ H ⟨ps, Ep, E, Z, Dd, w, h, f⟩ => f.rt (.fr .non) σ E Z H _ ⟨w, .non⟩ (Stp.refl _ _) h
/-- an owned tree at a name is given out -/
def dRetV (i : Nat) : TSD := fun D E => match E[i]? with
  | some (.ow t) => D.rt (.ow t) (E.set i .un)
  | _ => False
theorem WdF.lift {Z : Addr → Prop} {σ ps : Sg} {E Ep : List S} {H : Hp} {F : Foot} (w : WdF C Z (σ ++ ps) (E ++ Ep) H F) (hl : σ.length = E.length) {i : Nat} {t : T} {v : V} (e : E[i]? = some (.ow t)) (hv : σ[i]? = some (some v)) :
    At C (ps ++ [some v]) (Ep ++ [.ow t]) Z σ (E.set i .un) H := by
  have hi := (List.getElem?_eq_some_iff.mp e).1
  have ei : (E ++ Ep)[i]? = some (.ow t) := up_get e
  have hlen := w.sl.len
  refine ⟨by rw [List.length_set]; exact hl, fun j => if j = i then [] else if j = (E ++ Ep).length then F i else F j, ?_⟩
  have lE : (E.set i .un ++ (Ep ++ [S.ow t])).length = (E ++ Ep).length + 1 := by
    simp only [List.length_append, List.length_set, List.length_singleton]
    omega
  have gE : ∀ j s, (E.set i .un ++ (Ep ++ [S.ow t]))[j]? = some s → (j = i ∧ s = .un) ∨ (j ≠ i ∧ j = (E ++ Ep).length ∧ s = .ow t) ∨ (j ≠ i ∧ j < (E ++ Ep).length ∧ (E ++ Ep)[j]? = some s) := by
    intro j s ej
    by_cases q : j = i
    · subst q
      rw [List.getElem?_append_left (by rw [List.length_set]; exact hi), List.getElem?_set_self hi] at ej
      cases ej
      exact .inl ⟨rfl, rfl⟩
    · have hj := (List.getElem?_eq_some_iff.mp ej).1
      rw [lE] at hj
      by_cases q2 : j = (E ++ Ep).length
      · rw [← List.append_assoc, List.getElem?_append_right (by rw [List.length_append, List.length_set, ← List.length_append]; omega)] at ej
        rw [List.length_append, List.length_set, ← List.length_append, q2, Nat.sub_self] at ej
        cases ej
        exact .inr (.inl ⟨q, q2, rfl⟩)
      · refine .inr (.inr ⟨q, by omega, ?_⟩)
        rw [← List.append_assoc, List.getElem?_append_left (by rw [List.length_append, List.length_set, ← List.length_append]; omega)] at ej
        by_cases q3 : j < E.length
        · rw [List.getElem?_append_left (by rw [List.length_set]; exact q3), List.getElem?_set_ne (Ne.symm q)] at ej
          exact up_get ej
        · rw [List.getElem?_append_right (by rw [List.length_set]; omega), List.length_set] at ej
          rw [List.getElem?_append_right (by omega)]
          exact ej
  have gσ : ∀ j, j < (E ++ Ep).length → (σ ++ (ps ++ [some v])).getD j none = (σ ++ ps).getD j none := fun j hj => by
    rw [List.getD_eq_getElem?_getD, List.getD_eq_getElem?_getD, ← List.append_assoc, List.getElem?_append_left (by omega)]
  have gl : (σ ++ (ps ++ [some v])).getD (E ++ Ep).length none = some v := by
    rw [List.getD_eq_getElem?_getD, ← List.append_assoc, List.getElem?_append_right (by omega), hlen, Nat.sub_self]
    rfl
  have iN : i < (E ++ Ep).length := (List.getElem?_eq_some_iff.mp ei).1
  have Fi := w.sl.rep i _ ei
  rw [List.getD_eq_getElem?_getD, At.high hv] at Fi
  have Fi : ∃ v', some v = some v' ∧ TRep C.K Z H v' t (F i) := Fi
  refine ⟨⟨?_, fun j s ej => ?_, fun j hj => ?_, fun j => ?_, fun j l a h1 h2 => ?_⟩, fun j a h => ?_, fun j u a ej ha => ?_, fun j u a ej ha => ?_, fun j u ej => ?_, w.fr, w.z0, w.zn, w.zt, w.kt⟩
  · rw [lE, ← List.append_assoc, List.length_append, hlen]; rfl
  · rcases gE j s ej with ⟨rfl, rfl⟩ | ⟨q, rfl, rfl⟩ | ⟨q, q2, e2⟩
    · rw [if_pos rfl]; exact rfl
    · rw [if_neg q, if_pos rfl, gl]; exact Fi
    · rw [if_neg q, if_neg (by omega), gσ j q2]; exact w.sl.rep j s e2
  · rw [lE] at hj
    rw [if_neg (by omega), if_neg (by omega)]
    exact w.sl.out j (by omega)
  · split
    · exact List.nodup_nil
    · split
      · exact w.sl.nd i
      · exact w.sl.nd j
  · split at h1
    · cases h1
    · split at h2
      · cases h2
      · split at h1
        · split at h2
          · omega
          · have := w.sl.dj _ _ a h1 h2; omega
        · split at h2
          · have := w.sl.dj _ _ a h1 h2; omega
          · exact w.sl.dj _ _ a h1 h2
  · split at h
    · cases h
    · split at h
      · exact w.nz i a h
      · exact w.nz j a h
  · rcases gE j _ ej with ⟨rfl, q⟩ | ⟨q, rfl, q1⟩ | ⟨q, q2, e2⟩
    · cases q
    · rw [if_neg q, if_pos rfl] at ha
      exact w.own i t a ei ha
    · rw [if_neg q, if_neg (by omega)] at ha
      exact w.own j u a e2 ha
  · rcases gE j _ ej with ⟨rfl, q⟩ | ⟨q, rfl, q1⟩ | ⟨q, q2, e2⟩
    · cases q
    · cases q1
    · rw [if_neg q, if_neg (by omega)] at ha
      exact w.mum j u a e2 ha
  · rcases gE j _ ej with ⟨rfl, q⟩ | ⟨q, rfl, q1⟩ | ⟨q, q2, e2⟩
    · cases q
    · cases q1
    · obtain ⟨x, e3, e4⟩ := w.mus j u e2
      refine ⟨x, e3, ?_⟩
      rw [← List.append_assoc, List.getElem?_append_left (by omega)]
      exact e4
theorem ds_retv (i : Nat) {x : Str} {pos' : Pos} (hN : X.N[i]? = some x := by rfl) (hv : Vis X.env.scope x := by first | exact Or.inl rfl | exact Or.inr (Or.inl rfl) | exact Or.inr (Or.inr rfl)) (hd : (x == ("__debug__" : Str)) = false := by decide)
    (hcd : (x == ("__classdict__" : Str)) = false := by decide) : DS C X (.Return (some (.Name x pos')) pos) (dRetV i) := (ps_ret (pe_var hN hv hd hcd)).imp fun Dn σ H ⟨ps, Ep, E, Z, Dd, w, h, f⟩ => by
  unfold dRetV at h
  split at h
  · rename_i t e
    obtain ⟨v, F, e1, r⟩ := w.tree e (t := t) rfl
    obtain ⟨G, g⟩ := w.2
    exact ⟨v, e1, f.rt (.ow t) σ _ Z H v (g.lift w.1 e e1) (Stp.refl _ _) h⟩
  · cases h
def dIf (c : TB) (t u : TSD) : TSD := fun D E => c E fun b E1 => brB b (t D E1) (u D E1)
theorem ds_if {c : Expr} {a b : List Stmt} {tc : TB} {t u : TSD} (hc : DT C X c tc) (ha : DSs C X a t) (hb : DSs C X b u) : DS C X (.If c a b pos) (dIf tc t u) := (ps_if hc ha hb).imp fun Dn σ H ⟨ps, Ep, E, Z, Dd, w, h, f⟩ =>
  ⟨ps, Ep, E, Z, _, w, h, fun b E1 Z1 H1 w1 st1 h1 => by
    cases b with
    | true => exact ⟨ps, Ep, E1, Z1, Dd, w1, h1.t, f.on st1⟩
    | false => exact ⟨ps, Ep, E1, Z1, Dd, w1, h1.f, f.on st1⟩⟩
def dAsg (t : TD) (g : TGD) : TSD := fun D E => t E fun d E1 => g d E1 D.nx
theorem ds_asg {gs : List Nat} {tg e : Expr} {t : TD} {g : TGD} (he : DE C X e t) (hg : DG C X gs tg g) (hs : swapsWithSole [tg] e pos.line X.env = pure false := by rfl) (hw : swappedStores [tg] e X.env = pure none := by rfl)
    (h1 : (assignEach [tg] X.env).map (·.2) = [assign tg X.env] := by rfl) : DS C X (.Assign [tg] e pos) (dAsg t g) := (ps_asg he hg hs hw h1).imp fun Dn σ H ⟨ps, Ep, E, Z, Dd, w, h, f⟩ =>
  ⟨ps, Ep, E, Z, _, w, h, fun d E1 Z1 H1 v w1 st1 r1 h1 => ⟨ps, Ep, E1, Z1, d, _, w1, r1, h1, fun σ' E' w' _ q => f.nx σ' E' Z1 H1 w' st1 q⟩⟩
def dSet (i : Nat) (t : TD) : TSD := fun D E => t E fun d E1 => S.free E1[i]? = true ∧ D.nx (E1.set i (.fr d))
theorem ds_set (i : Nat) {x : Str} {e : Expr} {t : TD} {pos' : Pos} (hN : X.N.Nodup) (he : DE C X e t) (hi : X.N[i]? = some x := by rfl) (hx : Loc X.env.scope x := by first | exact .inl rfl | exact .inr rfl) (hs : swapsWith e (some (.Name x pos')) pos.line X.env = pure false := by rfl)
    (hf : X.fn x = true ∨ X.env.scope.names.lookup x = some .local := by first | exact .inl rfl | exact .inr rfl | assumption) : DS C X (.Assign [.Name x pos'] e pos) (dSet i t) := (ps_set hN hi hx he hs hf).imp fun Dn σ H ⟨ps, Ep, E, Z, Dd, w, h, f⟩ =>
  ⟨ps, Ep, E, Z, _, w, h, fun d E1 Z1 H1 v w1 st1 r1 ⟨h0, h1⟩ => by
    obtain ⟨f1, f2⟩ := free_lt h0
    exact f.nx _ _ Z1 H1 (w1.setD r1 f1 f2) st1 h1⟩
def dSetN (i : Nat) (t : TN) : TSD := fun D E => t E fun tr E1 => S.free E1[i]? = true ∧ D.nx (E1.set i (.ow tr))
theorem ds_setn (i : Nat) {x : Str} {e : Expr} {t : TN} {pos' : Pos} (hN : X.N.Nodup) (he : DN C X e t) (hi : X.N[i]? = some x := by rfl) (hx : Loc X.env.scope x := by first | exact .inl rfl | exact .inr rfl) (hs : swapsWith e (some (.Name x pos')) pos.line X.env = pure false := by rfl)
    (hf : X.fn x = true ∨ X.env.scope.names.lookup x = some .local := by first | exact .inl rfl | exact .inr rfl | assumption) : DS C X (.Assign [.Name x pos'] e pos) (dSetN i t) := (ps_set hN hi hx he hs hf).imp fun Dn σ H ⟨ps, Ep, E, Z, Dd, w, h, f⟩ =>
  ⟨ps, Ep, E, Z, _, w, h, fun tr E1 Z1 H1 v w1 st1 ⟨h0, h1⟩ => by
    obtain ⟨f1, f2⟩ := free_lt h0
    exact f.nx _ _ Z1 H1 (w1.setP f1 f2) st1 h1⟩
/-- name op= e, ints and texts -/
def dAug (i : Nat) (o : O2) (t : TD) : TSD := fun D E => match E[i]? with
  | some (.fr x) => t E fun y E1 => o x y fun z => S.free E1[i]? = true ∧ D.nx (E1.set i (.fr z))
  | _ => False
theorem ds_aug (i : Nat) {x : Str} {e : Expr} {t : TD} {op : Operator} {o : O2} {r : R2} {pos' : Pos} (hN : X.N.Nodup) (ho : OpR X (inplaceOp op) r ∧ Meets C o r) (he : DE C X e t) (hi : X.N[i]? = some x := by rfl) (hx : Loc X.env.scope x := by first | exact .inl rfl | exact .inr rfl)
    (hf : X.fn x = true ∨ X.env.scope.names.lookup x = some .local := by first | exact .inl rfl | exact .inr rfl | assumption) : DS C X (.AugAssign (.Name x pos') op e pos) (dAug i o t) := (ps_aug hN hi hx he (fun pins s σ H x y v u Q I r1 r2 h => ho.1 pins s σ H x y v u Q I r1 r2 h) hf).imp fun Dn σ H ⟨ps, Ep, E, Z, Dd, w, h, f⟩ => by
  unfold dAug at h
  split at h
  · rename_i d e
    obtain ⟨v, e1, r0⟩ := w.get e
    refine ⟨v, e1, ps, Ep, E, Z, _, w, h, fun y E1 Z1 H1 u w1 st1 r1 h1 => ho.2 Z1 H1 v u d y _ _ (r0.mono st1) r1 h1 fun z dz rz q => ?_⟩
    obtain ⟨f1, f2⟩ := free_lt q.1
    exact f.nx _ _ Z1 H1 (w1.setD rz f1 f2) st1 q.2
  · cases h
def rAddI : R2 := fun x y H Q => (∃ i j, x = .int i ∧ y = .int j ∧ Q (.int (i + j)) H) ∨ ∃ i j, x = .str i ∧ y = .str j ∧ i.length + j.length ≤ sizeLine ∧ Q (.str (i ++ j)) H
theorem i_add : OpR X (inplaceOp .Add) rAddA ∧ Meets C oAdd rAddA := ⟨iop_add.or iop_add_str, (o_add (X := X)).2⟩
theorem i_sub : OpR X (inplaceOp .Sub) (rI0 fun i j => .int (i - j)) ∧ Meets C (oI (iInt fun i j => i - j)) (rI0 fun i j => .int (i - j)) := ⟨iop_sub, meets_I fun _ _ _ _ _ => .int _⟩
/-- for -/
def dFor (t : TIt) (g : TGD) (tb : TSD) : TSD := fun D E => t E fun ds E1 => ∃ I : Nat → List S → Prop, I 0 E1 ∧ (∀ (i : Nat) d E', ds[i]? = some d → I i E' → g d E' fun E2 => tb { nx := I (i + 1), ct := I (i + 1), bk := D.nx, rt := D.rt } E2) ∧ ∀ E', I ds.length E' → D.nx E'
theorem ds_for {gs : List Nat} {tg iter : Expr} {body : List Stmt} {t : TIt} {g : TGD} {tb : TSD} (hp : PassesOwn (model X.prog X.w) X.A X.env X.xe) (hi : DI C X tg iter t) (hg : DG C X gs tg g) (hb : DSs C X body tb) (hc : X.calm = true := by rfl)
    (hs : ∀ x, foldedSetIterable iter X.env x = pure x := by intro _; rfl) : DS C X (.For tg iter body [] pos) (dFor t g tb) := (ps_for hp hc hi hg hb hs).imp fun Dn σ H ⟨ps, Ep, E, Z, Dd, w, h, f⟩ =>
  ⟨ps, Ep, E, Z, _, w, h, fun J ds E1 Z1 H1 w1 st1 wk ⟨I, i0, step, fin⟩ => by
    refine ⟨fun i m σ' H' => m = ds.length - i ∧ i ≤ ds.length ∧ ∃ E' Z', At C ps Ep Z' σ' E' H' ∧ Stp Z1 H1 Z' H' ∧ I i E', ⟨_, rfl, Nat.zero_le _, E1, Z1, w1, Stp.refl _ _, i0⟩, ?_⟩
    rintro i m σ' H' ⟨rfl, hle, E', Z', w', st', hi'⟩
    by_cases hlt : i < ds.length
    · obtain ⟨go, yl⟩ := wk.go Z' σ' E' H' ps Ep st' w' trivial i _ (List.getElem?_eq_getElem hlt)
      refine .inr ⟨go, fun σ2 H2 => ∃ E2 Z2, At C ps Ep Z2 σ2 E2 H2 ∧ Stp Z1 H1 Z2 H2 ∧ I (i + 1) E2, fun σ2 H2 ⟨E2, Z2, w2, st2, h2⟩ => ⟨ds.length - (i + 1), by omega, rfl, hlt, E2, Z2, w2, st2, h2⟩, fun x H3 y => ?_⟩
      obtain ⟨hh, rx⟩ := yl x H3 y
      have w3 : At C ps Ep Z' σ' E' H3 ∧ Stp Z' H' Z' H3 := by
        rcases hh with e | ⟨p, o, hp, e⟩
        · subst e; exact ⟨w', Stp.refl _ _⟩
        · subst e; exact ⟨w'.new hp, Stp.new w'.zt hp⟩
      refine ⟨ps, Ep, E', Z', _, _, w3.1, rx, step i _ E' (List.getElem?_eq_getElem hlt) hi', fun σ2 E2 w2 _ h2 => ⟨ps, Ep, E2, Z', _, w2, h2, ?_⟩⟩
      have stA := st'.trans w3.2
      exact ⟨fun σ5 E5 Z5 H5 w5 st5 h5 => ⟨E5, Z5, w5, stA.trans st5, h5⟩, fun σ5 E5 Z5 H5 w5 st5 h5 => f.nx σ5 E5 Z5 H5 w5 (st1.trans (stA.trans st5)) h5, fun σ5 E5 Z5 H5 w5 st5 h5 => ⟨E5, Z5, w5, stA.trans st5, h5⟩,
        fun r σ5 E5 Z5 H5 v w5 st5 h5 => f.rt r σ5 E5 Z5 H5 v w5 (st1.trans (stA.trans st5)) h5⟩
    · have e : i = ds.length := by omega
      subst e
      exact .inl ⟨wk.stop Z' σ' E' H' ps Ep st' w' trivial _ (Nat.le_refl _), f.nx σ' E' Z' H' w' (st1.trans st') (fin E' hi')⟩⟩
/-- while -/
def dWhile (c : TB) (tb : TSD) : TSD := fun D E => ∃ W : Nat → List S → Prop, (∃ m, W m E) ∧ ∀ m E', W m E' → c E' fun b E1 => brB b (tb { nx := fun E2 => ∃ m', m' < m ∧ W m' E2, ct := fun E2 => ∃ m', m' < m ∧ W m' E2, bk := D.nx, rt := D.rt } E1) (D.nx E1)
theorem ds_while {c : Expr} {body : List Stmt} {tc : TB} {tb : TSD} (hp : PassesOwn (model X.prog X.w) X.A X.env X.xe) (hc : DT C X c tc) (hb : DSs C X body tb) : DS C X (.While c body [] pos) (dWhile tc tb) := (ps_while hp hc hb).imp fun Dn σ H ⟨ps, Ep, E, Z, Dd, w, ⟨W, ⟨m0, w0⟩, turn⟩, f⟩ => by
  refine ⟨fun m σ' H' => ∃ E' Z', At C ps Ep Z' σ' E' H' ∧ Stp Z H Z' H' ∧ W m E', ⟨m0, E, Z, w, Stp.refl _ _, w0⟩, ?_⟩
  rintro m σ' H' ⟨E', Z', w', st', wm⟩
  refine ⟨ps, Ep, E', Z', _, w', turn m E' wm, fun b E1 Z1 H1 w1 st1 h1 => ?_⟩
  cases b with
  | true =>
    rw [if_pos rfl]
    replace h1 := h1.t
    refine ⟨fun σ2 H2 => ∃ m', m' < m ∧ ∃ E2 Z2, At C ps Ep Z2 σ2 E2 H2 ∧ Stp Z H Z2 H2 ∧ W m' E2, fun σ2 H2 h => h, ps, Ep, E1, Z1, _, w1, h1, ?_⟩
    have stA := st'.trans st1
    exact ⟨fun σ5 E5 Z5 H5 w5 st5 ⟨m', hm, h5⟩ => ⟨m', hm, E5, Z5, w5, stA.trans st5, h5⟩, fun σ5 E5 Z5 H5 w5 st5 h5 => f.nx σ5 E5 Z5 H5 w5 (stA.trans st5) h5, fun σ5 E5 Z5 H5 w5 st5 ⟨m', hm, h5⟩ => ⟨m', hm, E5, Z5, w5, stA.trans st5, h5⟩,
        fun r σ5 E5 Z5 H5 v w5 st5 h5 => f.rt r σ5 E5 Z5 H5 v w5 (stA.trans st5) h5⟩
  | false =>
    rw [if_neg Bool.false_ne_true]
    replace h1 := h1.f
    exact f.nx σ' E1 Z1 H1 w1 (st'.trans st1) h1
end
end DL
set_option Elab.async false
set_option linter.all false
set_option maxRecDepth 100000
set_option maxHeartbeats 4000000
/-! DL, part e: comprehensions, calls, defs. -/
namespace DL
open PySem PySem.Spec PyProof.Rows L2

section
variable {C : Ctx} {Z Z' : Addr → Prop} {σ : Sg} {E : List S} {H H' : Hp} {F : Foot}
theorem SRep.un {K : Frg} {o : Option V} : SRep K Z H o .un [] := rfl
/-- places chosen anew -/
theorem WdF.re (w : WdF C Z σ E H F) (φ : Nat → Nat) {σ2 : Sg} {E2 : List S} (len : σ2.length = E2.length)
    (h : ∀ (j : Nat) s, E2[j]? = some s → s = .un ∨ (E[φ j]? = some s ∧ σ2.getD j none = σ.getD (φ j) none ∧ (s.isMu = true → φ j = j)))
    (inj : ∀ (j l : Nat) s u, E2[j]? = some s → E2[l]? = some u → s ≠ .un → u ≠ .un → φ j = φ l → j = l) : Wd C Z σ2 E2 H := by
  have key : ∀ (j : Nat) a, a ∈ (match E2[j]? with | some .un => [] | some _ => F (φ j) | none => ([] : List Addr)) → ∃ s, E2[j]? = some s ∧ s ≠ .un ∧ a ∈ F (φ j) := fun j a ha => by
    cases e : E2[j]? with
    | none => rw [e] at ha; cases ha
    | some s =>
      rw [e] at ha
      cases s with
      | un => cases ha
      | fr d => exact ⟨_, rfl, (fun q => nomatch q), ha⟩
      | ow d => exact ⟨_, rfl, (fun q => nomatch q), ha⟩
      | mu d => exact ⟨_, rfl, (fun q => nomatch q), ha⟩
  refine ⟨fun j => match E2[j]? with | some .un => [] | some _ => F (φ j) | none => [], ⟨⟨len, fun j s e => ?_, fun j hj => ?_, fun j => ?_, fun j l a h1 h2 => ?_⟩, fun j a ha => ?_, fun j t a e ha => ?_, fun j t a e ha => ?_, fun j t e => ?_, w.fr, w.z0, w.zn, w.zt, w.kt⟩⟩
  · show SRep _ _ _ _ s (match E2[j]? with | some .un => [] | some _ => F (φ j) | none => [])
    rw [e]
    rcases h j s e with q | ⟨q1, q2, _⟩
    · subst q; exact rfl
    · rw [q2]
      have z := w.sl.rep _ s q1
      cases s with
      | un => exact rfl
      | fr d => exact z
      | ow t => exact z
      | mu t => exact z
  · show (match E2[j]? with | some .un => [] | some _ => F (φ j) | none => []) = []
    rw [List.getElem?_eq_none hj]
  · show (match E2[j]? with | some .un => [] | some _ => F (φ j) | none => []).Nodup
    split
    · exact List.nodup_nil
    · exact w.sl.nd _
    · exact List.nodup_nil
  · obtain ⟨s, e1, n1, m1⟩ := key j a h1
    obtain ⟨u, e2, n2, m2⟩ := key l a h2
    exact inj j l s u e1 e2 n1 n2 (w.sl.dj _ _ a m1 m2)
  · obtain ⟨s, e1, n1, m1⟩ := key j a ha
    exact w.nz _ a m1
  · obtain ⟨s, e1, n1, m1⟩ := key j a ha
    rw [e] at e1; cases e1
    rcases h j _ e with q | ⟨q1, q2, _⟩
    · cases q
    · exact w.own _ t a q1 m1
  · obtain ⟨s, e1, n1, m1⟩ := key j a ha
    rw [e] at e1; cases e1
    rcases h j _ e with q | ⟨q1, q2, q3⟩
    · cases q
    · have := q3 rfl
      rw [this] at q1 m1
      exact w.mum _ t a q1 m1
  · rcases h j _ e with q | ⟨q1, q2, q3⟩
    · cases q
    · have q := q3 rfl
      rw [q] at q1 q2
      obtain ⟨v, e1, e2⟩ := w.mus j t q1
      refine ⟨v, e1, getD_some ?_⟩
      rw [q2]
      exact of_getD e2
end

section
variable {C : Ctx} {ps : Sg} {Ep : List S} {Z Z' : Addr → Prop} {σ : Sg} {E : List S} {H H' : Hp}
theorem getD_left {α : Type} {a b : List (Option α)} {i : Nat} (h : i < a.length) : (a ++ b).getD i none = a.getD i none := by
  rw [List.getD_eq_getElem?_getD, List.getD_eq_getElem?_getD, List.getElem?_append_left h]
theorem getD_right {α : Type} {a b : List (Option α)} {i : Nat} (h : a.length ≤ i) : (a ++ b).getD i none = b.getD (i - a.length) none := by
  rw [List.getD_eq_getElem?_getD, List.getD_eq_getElem?_getD, List.getElem?_append_right h]
/-- other values at places where nothing is known -/
theorem At.resig (w : At C ps Ep Z σ E H) {σ' : Sg} (hl : σ'.length = σ.length) (h : ∀ (j : Nat) s, E[j]? = some s → s ≠ .un → σ'[j]? = σ[j]?) : At C ps Ep Z σ' E H := by
  obtain ⟨F, f⟩ := w.2
  refine ⟨hl.trans w.1, f.re (fun j => j) (by rw [List.length_append, List.length_append, hl, ← List.length_append, f.sl.len, List.length_append]) (fun j s e => ?_) fun _ _ _ _ _ _ _ _ e => e⟩
  by_cases q : s = .un
  · exact .inl q
  · refine .inr ⟨e, ?_, fun _ => rfl⟩
    by_cases hj : j < E.length
    · rw [getD_left (by have := w.1; omega), getD_left (by have := w.1; omega)]
      rw [List.getElem?_append_left hj] at e
      rw [List.getD_eq_getElem?_getD, List.getD_eq_getElem?_getD, h j s e q]
    · rw [getD_right (by have := w.1; omega), getD_right (by have := w.1; omega), hl]
def wipeE (E : List S) : List Nat → List S
  | [] => E
  | v :: vs => (wipeE E vs).set v .un
theorem wipeE_length (E : List S) : ∀ vs : List Nat, (wipeE E vs).length = E.length
  | [] => rfl
  | v :: vs => by unfold wipeE; rw [List.length_set, wipeE_length E vs]
theorem At.wipe (w : At C ps Ep Z σ E H) : ∀ vs : List Nat, At C ps Ep Z (L2.wipe σ vs) (wipeE E vs) H
  | [] => w
  | v :: vs => by
    have q := w.wipe vs
    unfold L2.wipe wipeE
    by_cases hv : v < (wipeE E vs).length
    · exact q.forget hv
    · rw [List.set_eq_of_length_le (show (wipeE E vs).length ≤ v by omega), List.set_eq_of_length_le (show (L2.wipe σ vs).length ≤ v by rw [q.1]; omega)]
      exact q
/-- what is pending, seen as a name -/
theorem At.flat {x : Option V} {s : S} (w : At C (ps ++ [x]) (Ep ++ [s]) Z σ E H) : At C [] [] Z (σ ++ (ps ++ [x])) (E ++ (Ep ++ [s])) H ∧ (E ++ (Ep ++ [s]))[(E ++ Ep).length]? = some s ∧ (σ ++ (ps ++ [x]))[(E ++ Ep).length]? = some x := by
  have hl := w.2.len
  refine ⟨⟨hl, by rw [List.append_nil, List.append_nil]; exact w.2⟩, ?_, ?_⟩
  · rw [← List.append_assoc, List.getElem?_append_right (Nat.le_refl _), Nat.sub_self]; rfl
  · have e : (σ ++ ps).length = (E ++ Ep).length := by
      simp only [List.length_append, List.length_singleton] at hl ⊢
      omega
    rw [← List.append_assoc, List.getElem?_append_right (by omega), e, Nat.sub_self]; rfl
/-- one more item to a pending list -/
theorem At.snocP {D' : Addr} {acc : List D} {y : V} {d : D} (w : At C (ps ++ [some (.ref D')]) (Ep ++ [.ow (.lst acc)]) Z σ E H) (r : Rep C.K Z H y d) :
    ∃ vs, H D' = some (.lst vs) ∧ vs.length = acc.length ∧ Stp Z H Z (upd H D' (.lst (vs ++ [y]))) ∧ At C (ps ++ [some (.ref D')]) (Ep ++ [.ow (.lst (acc ++ [d]))]) Z σ E (upd H D' (.lst (vs ++ [y]))) := by
  obtain ⟨w1, e1, e2⟩ := w.flat
  obtain ⟨a, vs, e3, h, rs, k⟩ := w1.list e1 (ds := acc) rfl
  rw [e2] at e3
  cases e3
  obtain ⟨st, w2⟩ := k (vs ++ [y]) (acc ++ [d]) (rs.append (.one r))
  refine ⟨vs, h, rs.length, st, w.1, ?_⟩
  have w3 := w2.2
  rw [List.append_nil, List.append_nil, ← List.append_assoc E, List.set_append_right _ _ (Nat.le_refl _), Nat.sub_self, List.append_assoc E] at w3
  exact w3

/-! ### comprehensions -/
variable {X : Cx}
structure PTsD (C : Ctx) (X : Cx) (ifs : List Expr) (t : TB) : Prop where
  pts : PTs X ifs (ttOf C t)
def tYesD : TB := fun E Q => Q true E
theorem dts_nil : PTs X [] (ttOf C tYesD) := ⟨fun pins s σ H Q I ⟨ps, Ep, E, Z, Qd, w, h, post⟩ => (pts_nil (X := X)).run pins s σ H Q I (post true E Z H w (Stp.refl _ _) h)⟩
theorem dts_one {c : Expr} {t : TB} (h : DT C X c t) : PTs X [c] (ttOf C t) := pts_one h
def tLcD (t : TIt) (g : TGD) (tt : TB) (te : TD) (own : List Nat) : TN := fun E Q => t E fun ds E1 => ∃ I : Nat → List D → List S → Prop, I 0 [] (wipeE E1 own) ∧
  (∀ (i : Nat) d acc E', ds[i]? = some d → I i acc E' → g d E' fun E2 => tt E2 fun b E3 => brB b (te E3 fun y E4 => acc.length < sizeLine ∧ I (i + 1) (acc ++ [y]) (wipeE E4 own)) (I (i + 1) acc (wipeE E3 own))) ∧
  ∀ acc E', I ds.length acc E' → (∀ j ∈ own, E'[j]? = some .un ∨ E'[j]? = none) → Q (.lst acc) E'
theorem wipeE_un (E : List S) : ∀ (vs : List Nat) (j : Nat), j ∈ vs → (wipeE E vs)[j]? = some .un ∨ (wipeE E vs)[j]? = none
  | [], _, h => by cases h
  | v :: vs, j, h => by
    unfold wipeE
    by_cases q : v = j
    · subst q
      by_cases hv : v < (wipeE E vs).length
      · rw [List.getElem?_set_self hv]; exact .inl rfl
      · rw [List.getElem?_eq_none (by rw [List.length_set]; omega)]; exact .inr rfl
    · rw [List.getElem?_set_ne q]
      exact wipeE_un E vs j ((List.mem_cons.mp h).resolve_left fun e => q e.symm)
theorem wipe_eq {σ σ' : Sg} : ∀ {vs : List Nat}, (∀ j : Nat, j ∉ vs → σ'[j]? = σ[j]?) → σ'.length = σ.length → L2.wipe σ' vs = L2.wipe σ vs := fun {vs} h hl => by
  refine List.ext_getElem? fun j => ?_
  by_cases hj : j ∈ vs
  · have one : ∀ (τ : Sg) (vs : List Nat), j ∈ vs → (L2.wipe τ vs)[j]? = if j < τ.length then some none else none := by
      intro τ vs
      induction vs with
      | nil => intro h; cases h
      | cons v vs ih =>
        intro h
        unfold L2.wipe
        by_cases q : v = j
        · subst q
          by_cases hv : v < τ.length
          · rw [List.getElem?_set_self (by rw [wipe_length]; exact hv), if_pos hv]
          · rw [List.getElem?_eq_none (by rw [List.length_set, wipe_length]; omega), if_neg hv]
        · rw [List.getElem?_set_ne q]
          exact ih ((List.mem_cons.mp h).resolve_left fun e => q e.symm)
    rw [one σ' vs hj, one σ vs hj, hl]
  · rw [wipe_out hj, wipe_out hj, h j hj]
theorem lc_imp {t : TIt} {g : TGD} {tt : TB} {te : TD} {own : List Nat} {gs : List Nat} (hgs : ∀ j ∈ gs, j ∈ own) (σ : Sg) (H : Hp) (Q : VK) (h : neOf C (tLcD t g tt te own) σ H Q) : tLc (tiOf C t) (tgOf C gs g) (ttOf C tt) (teOf C te) own σ H Q := by
  obtain ⟨ps, Ep, E, Z, Qd, w, h, post⟩ := h
  refine ⟨ps, Ep, E, Z, _, w, h, fun J ds E1 Z1 H1 w1 st1 wk ⟨I, i0, step, fin⟩ D' hD => ?_⟩
  obtain ⟨stp, wp⟩ := w1.push hD (vs := []) (ds := []) .nil
  refine ⟨fun i m H' => m = ds.length - i ∧ i ≤ ds.length ∧ ∃ E' Z' acc, At C (ps ++ [some (.ref D')]) (Ep ++ [.ow (.lst acc)]) Z' (L2.wipe σ own) E' H' ∧ Stp Z1 H1 Z' H' ∧ I i acc E' ∧ ∀ j ∈ own, E'[j]? = some .un ∨ E'[j]? = none,
    ⟨_, rfl, Nat.zero_le _, _, Z1, [], wp.wipe own, stp, i0, wipeE_un _ _⟩, ?_⟩
  rintro i m H' ⟨rfl, hle, E', Z', acc, w', st', hi', hun⟩
  by_cases hlt : i < ds.length
  · obtain ⟨go, yl⟩ := wk.go Z' _ E' H' _ _ st' w' trivial i _ (List.getElem?_eq_getElem hlt)
    refine .inr ⟨go, fun H2 => ∃ E2 Z2 acc, At C (ps ++ [some (.ref D')]) (Ep ++ [.ow (.lst acc)]) Z2 (L2.wipe σ own) E2 H2 ∧ Stp Z1 H1 Z2 H2 ∧ I (i + 1) acc E2 ∧ ∀ j ∈ own, E2[j]? = some .un ∨ E2[j]? = none,
      fun H2 ⟨E2, Z2, acc2, w2, st2, h2, u2⟩ => ⟨ds.length - (i + 1), by omega, rfl, hlt, E2, Z2, acc2, w2, st2, h2, u2⟩, fun x H3 y => ?_⟩
    obtain ⟨hh, rx⟩ := yl x H3 y
    have w3 : At C (ps ++ [some (.ref D')]) (Ep ++ [.ow (.lst acc)]) Z' (L2.wipe σ own) E' H3 ∧ Stp Z' H' Z' H3 := by
      rcases hh with e | ⟨p, o, hp, e⟩
      · subst e; exact ⟨w', Stp.refl _ _⟩
      · subst e; exact ⟨w'.new hp, Stp.new w'.zt hp⟩
    have stA := st'.trans w3.2
    refine ⟨_, _, E', Z', _, _, w3.1, rx, step i _ acc E' (List.getElem?_eq_getElem hlt) hi', fun σ2 E2 w2 k2 h2 => ?_⟩
    have hl2 : σ2.length = (L2.wipe σ own).length := k2.1
    have ww : L2.wipe σ2 own = L2.wipe σ own := by
      rw [wipe_eq (σ := L2.wipe σ own) (fun j hj => k2.2 j fun m => hj (hgs j m)) hl2]
      refine wipe_eq (fun j hj => wipe_out hj) (wipe_length σ own)
    refine ⟨ww, _, _, E2, Z', _, w2, h2, fun b E3 Z3 H4 w4 st4 h4 => ?_⟩
    cases b with
    | true =>
      rw [if_pos rfl]
      replace h4 := h4.t
      refine ⟨_, _, E3, Z3, _, w4, h4, fun d E5 Z5 H5 v w5 st5 r5 ⟨hz, h5⟩ => ?_⟩
      obtain ⟨vs, e6, l6, st6, w6⟩ := w5.snocP r5
      refine ⟨vs, e6, by rw [l6]; exact hz, wipeE E5 own, Z5, acc ++ [d], ?_, stA.trans (st4.trans (st5.trans st6)), h5, wipeE_un _ _⟩
      rw [← ww]
      exact w6.wipe own
    | false =>
      rw [if_neg Bool.false_ne_true]
      replace h4 := h4.f
      refine ⟨wipeE E3 own, Z3, acc, ?_, stA.trans st4, h4, wipeE_un _ _⟩
      rw [← ww]
      exact w4.wipe own
  · have e : i = ds.length := by omega
    subst e
    refine .inl ⟨wk.stop Z' _ E' H' _ _ st' w' trivial _ (Nat.le_refl _), post _ E' Z' H' _ (w'.resig (wipe_length σ own).symm fun j s ej hs => ?_) (st1.trans st') (fin acc E' hi' hun)⟩
    have hj : j ∉ own := fun m => by
      rcases hun j m with z | z
      · rw [ej] at z; cases z; exact hs rfl
      · rw [ej] at z; cases z
    exact (wipe_out hj).symm
theorem dn_lc {elt tg iter : Expr} {ifs : List Expr} {scope : Scope} {own : List (Str × Nat)} {pos : Pos} {t : TIt} {g : TGD} {tt : TB} {te : TD} {gs : List Nat} (hN : X.N.Nodup) (hi : DI C X tg iter t) (ok : BlkOk X.N X.env.scope scope own)
    (hg : ∀ (s : Shared) (H : Hp) (a : Addr) (cl : List (Str × Addr)) (fp : List Addr), DG C (X.blk s H scope (compEnvC scope cl a X.env) fp) gs tg g) (ht : ∀ (s : Shared) (H : Hp) (a : Addr) (cl : List (Str × Addr)) (fp : List Addr), PTs (X.blk s H scope (compEnvC scope cl a X.env) fp) ifs (ttOf C tt))
    (he : ∀ (s : Shared) (H : Hp) (a : Addr) (cl : List (Str × Addr)) (fp : List Addr), DE C (X.blk s H scope (compEnvC scope cl a X.env) fp) elt te) (hc : X.calm = true := by rfl) (hgs : ∀ j ∈ gs, j ∈ own.map (·.2) := by decide) (hs : ∀ x, foldedSetIterable iter X.env x = pure x := by intro _; rfl) :
    DN C X (.ListComp elt [⟨tg, iter, ifs, 0⟩] scope pos) (tLcD t g tt te (own.map (·.2))) := (pe_lc hc hN hi ok hg ht he hs).imp (lc_imp hgs)
/-- name = [..] on one line -/
theorem ds_setlc (i : Nat) {y : Str} {py : Pos} {elt tg iter : Expr} {ifs : List Expr} {scope : Scope} {own : List (Str × Nat)} {pos spos : Pos} {t : TIt} {g : TGD} {tt : TB} {te : TD} {gs : List Nat} (hN : X.N.Nodup) (hi : DI C X tg iter t) (ok : BlkOk X.N X.env.scope scope own)
    (hg : ∀ (s : Shared) (H : Hp) (a : Addr) (cl : List (Str × Addr)) (fp : List Addr), DG C (X.blk s H scope (compEnvC scope cl a X.env) fp) gs tg g) (ht : ∀ (s : Shared) (H : Hp) (a : Addr) (cl : List (Str × Addr)) (fp : List Addr), PTs (X.blk s H scope (compEnvC scope cl a X.env) fp) ifs (ttOf C tt))
    (he : ∀ (s : Shared) (H : Hp) (a : Addr) (cl : List (Str × Addr)) (fp : List Addr), DE C (X.blk s H scope (compEnvC scope cl a X.env) fp) elt te) (hy : X.N[i]? = some y := by rfl) (hyl : X.env.scope.names.lookup y = some .local := by rfl)
    (hsw : swapsWith (.ListComp elt [⟨tg, iter, ifs, 0⟩] scope pos) (some (.Name y py)) spos.line X.env = pure true := by exact sw_true rfl rfl rfl (by decide +kernel)) (hc : X.calm = true := by rfl) (hgs : ∀ j ∈ gs, j ∈ own.map (·.2) := by decide)
    (hs : ∀ x, foldedSetIterable iter X.env x = pure x := by intro _; rfl) :
    DS C X (.Assign [.Name y py] (.ListComp elt [⟨tg, iter, ifs, 0⟩] scope pos) spos) (dSetN i (tLcD t g tt te (own.map (·.2)))) := (ps_setLc hc hN hy hyl hsw hi ok hg ht he hs).imp fun Dn σ H ⟨ps, Ep, E, Z, Dd, w, h, f⟩ => by
  refine lc_imp hgs σ H _ ⟨ps, Ep, E, Z, _, w, h, fun tr E1 Z1 H1 v w1 st1 ⟨h0, h1⟩ => ?_⟩
  obtain ⟨f1, f2⟩ := free_lt h0
  exact f.nx _ _ Z1 H1 (w1.setP f1 f2) st1 h1
/-! ### a comprehension over an owned list at a name, only looked at -/
def lstIs (E : List S) (j : Nat) (ds : List D) : Prop := ∃ s, E[j]? = some s ∧ s.tree? = some (.lst ds)
def tibOf (C : Ctx) (j : Nat) (t : TIt) : TI := fun σ H R => ∃ ps Ep E Z Qi, At C ps Ep Z σ E H ∧ t E Qi ∧ ∀ J ds E' Z' H', At C ps Ep Z' σ E' H' → Stp Z H Z' H' → Walks C J Z' H' ds (fun σ2 E2 => σ2[j]? = σ[j]? ∧ lstIs E2 j ds) → Qi ds E' → R J H'
def tiB (j : Nat) : TIt := fun E Q => match E[j]? with
  | some (.ow (.lst ds)) => Q ds E
  | some (.mu (.lst ds)) => Q ds E
  | _ => False
theorem di_b (j : Nat) {x : Str} {pos : Pos} {tg : Expr} (hN : X.N[j]? = some x := by rfl) (hv : Vis X.env.scope x := by first | exact Or.inl rfl | exact Or.inr (Or.inl rfl) | exact Or.inr (Or.inr rfl)) (hd : (x == ("__debug__" : Str)) = false := by decide)
    (hcd : (x == ("__classdict__" : Str)) = false := by decide) (hK : X.K = C.K := by rfl) : PI X tg (.Name x pos) (tibOf C j (tiB j)) := (pi_list (pe_var hN hv hd hcd)).imp fun σ H R ⟨ps, Ep, E, Z, Qd, w, h, post⟩ => by
  rw [hK]
  have main : ∀ {s : S} {ds : List D}, E[j]? = some s → s.tree? = some (.lst ds) → Qd ds E → iList C.K (tVar j) σ H R := fun {s ds} e et q => by
    obtain ⟨a, vs, e1, ha, rs, _⟩ := w.list e et
    have get : ∀ {Z2 : Addr → Prop} {σ2 : Sg} {E2 : List S} {H2 : Hp} {ps : Sg} {Ep : List S}, At C ps Ep Z2 σ2 E2 H2 → σ2[j]? = σ[j]? → lstIs E2 j ds → ∃ vs2, H2 a = some (.lst vs2) ∧ Reps C.K Z2 H2 vs2 ds := fun {Z2 σ2 E2 H2 ps Ep} w2 es ⟨s2, g1, g2⟩ => by
      obtain ⟨a2, vs2, g3, g4, g5, _⟩ := w2.list g1 g2
      rw [es, e1] at g3
      cases g3
      exact ⟨vs2, g4, g5⟩
    refine ⟨_, e1, a, rfl, ⟨vs, .of ha⟩, post _ ds E Z H w (Stp.refl _ _) ⟨fun Z2 σ2 E2 H2 ps Ep st w2 hh i hi => ?_, fun Z2 σ2 E2 H2 ps Ep st w2 hh i d ed => ?_⟩ q⟩
    · obtain ⟨vs2, g1, g2⟩ := get w2 hh.1 hh.2
      exact ⟨vs2, .of g1, by rw [g2.length]; exact hi⟩
    · obtain ⟨vs2, g1, g2⟩ := get w2 hh.1 hh.2
      obtain ⟨v, e2, rv⟩ := g2.get ed
      refine ⟨⟨vs2, v, .of g1, e2⟩, fun x H3 y => ?_⟩
      obtain ⟨y1, y2⟩ := y
      subst y1
      have := y2 vs2 (.of g1)
      rw [e2] at this
      cases this
      exact ⟨.inl rfl, rv⟩
  unfold tiB at h
  split at h
  · rename_i ds e; exact main e rfl h
  · rename_i ds e; exact main e rfl h
  · cases h
def tLcB (j : Nat) (t : TIt) (g : TGD) (tt : TB) (te : TD) (own : List Nat) : TN := fun E Q => t E fun ds E1 => ∃ I : Nat → List D → List S → Prop, I 0 [] (wipeE E1 own) ∧ (∀ i acc E', I i acc E' → lstIs E' j ds) ∧
  (∀ (i : Nat) d acc E', ds[i]? = some d → I i acc E' → g d E' fun E2 => tt E2 fun b E3 => brB b (te E3 fun y E4 => acc.length < sizeLine ∧ I (i + 1) (acc ++ [y]) (wipeE E4 own)) (I (i + 1) acc (wipeE E3 own))) ∧
  ∀ acc E', I ds.length acc E' → (∀ j ∈ own, E'[j]? = some .un ∨ E'[j]? = none) → Q (.lst acc) E'
theorem lcB_imp {j0 : Nat} {t : TIt} {g : TGD} {tt : TB} {te : TD} {own : List Nat} {gs : List Nat} (hj0 : j0 ∉ own) (hgs : ∀ j ∈ gs, j ∈ own) (σ : Sg) (H : Hp) (Q : VK) (h : neOf C (tLcB j0 t g tt te own) σ H Q) : tLc (tibOf C j0 t) (tgOf C gs g) (ttOf C tt) (teOf C te) own σ H Q := by
  obtain ⟨ps, Ep, E, Z, Qd, w, h, post⟩ := h
  refine ⟨ps, Ep, E, Z, _, w, h, fun J ds E1 Z1 H1 w1 st1 wk ⟨I, i0, hold, step, fin⟩ D' hD => ?_⟩
  obtain ⟨stp, wp⟩ := w1.push hD (vs := []) (ds := []) .nil
  refine ⟨fun i m H' => m = ds.length - i ∧ i ≤ ds.length ∧ ∃ E' Z' acc, At C (ps ++ [some (.ref D')]) (Ep ++ [.ow (.lst acc)]) Z' (L2.wipe σ own) E' H' ∧ Stp Z1 H1 Z' H' ∧ I i acc E' ∧ ∀ j ∈ own, E'[j]? = some .un ∨ E'[j]? = none,
    ⟨_, rfl, Nat.zero_le _, _, Z1, [], wp.wipe own, stp, i0, wipeE_un _ _⟩, ?_⟩
  rintro i m H' ⟨rfl, hle, E', Z', acc, w', st', hi', hun⟩
  by_cases hlt : i < ds.length
  · obtain ⟨go, yl⟩ := wk.go Z' _ E' H' _ _ st' w' ⟨wipe_out hj0, hold _ _ _ hi'⟩ i _ (List.getElem?_eq_getElem hlt)
    refine .inr ⟨go, fun H2 => ∃ E2 Z2 acc, At C (ps ++ [some (.ref D')]) (Ep ++ [.ow (.lst acc)]) Z2 (L2.wipe σ own) E2 H2 ∧ Stp Z1 H1 Z2 H2 ∧ I (i + 1) acc E2 ∧ ∀ j ∈ own, E2[j]? = some .un ∨ E2[j]? = none,
      fun H2 ⟨E2, Z2, acc2, w2, st2, h2, u2⟩ => ⟨ds.length - (i + 1), by omega, rfl, hlt, E2, Z2, acc2, w2, st2, h2, u2⟩, fun x H3 y => ?_⟩
    obtain ⟨hh, rx⟩ := yl x H3 y
    have w3 : At C (ps ++ [some (.ref D')]) (Ep ++ [.ow (.lst acc)]) Z' (L2.wipe σ own) E' H3 ∧ Stp Z' H' Z' H3 := by
      rcases hh with e | ⟨p, o, hp, e⟩
      · subst e; exact ⟨w', Stp.refl _ _⟩
      · subst e; exact ⟨w'.new hp, Stp.new w'.zt hp⟩
    have stA := st'.trans w3.2
    refine ⟨_, _, E', Z', _, _, w3.1, rx, step i _ acc E' (List.getElem?_eq_getElem hlt) hi', fun σ2 E2 w2 k2 h2 => ?_⟩
    have hl2 : σ2.length = (L2.wipe σ own).length := k2.1
    have ww : L2.wipe σ2 own = L2.wipe σ own := by
      rw [wipe_eq (σ := L2.wipe σ own) (fun j hj => k2.2 j fun m => hj (hgs j m)) hl2]
      refine wipe_eq (fun j hj => wipe_out hj) (wipe_length σ own)
    refine ⟨ww, _, _, E2, Z', _, w2, h2, fun b E3 Z3 H4 w4 st4 h4 => ?_⟩
    cases b with
    | true =>
      rw [if_pos rfl]
      replace h4 := h4.t
      refine ⟨_, _, E3, Z3, _, w4, h4, fun d E5 Z5 H5 v w5 st5 r5 ⟨hz, h5⟩ => ?_⟩
      obtain ⟨vs, e6, l6, st6, w6⟩ := w5.snocP r5
      refine ⟨vs, e6, by rw [l6]; exact hz, wipeE E5 own, Z5, acc ++ [d], ?_, stA.trans (st4.trans (st5.trans st6)), h5, wipeE_un _ _⟩
      rw [← ww]
      exact w6.wipe own
    | false =>
      rw [if_neg Bool.false_ne_true]
      replace h4 := h4.f
      refine ⟨wipeE E3 own, Z3, acc, ?_, stA.trans st4, h4, wipeE_un _ _⟩
      rw [← ww]
      exact w4.wipe own
  · have e : i = ds.length := by omega
    subst e
    refine .inl ⟨wk.stop Z' _ E' H' _ _ st' w' ⟨wipe_out hj0, hold _ _ _ hi'⟩ _ (Nat.le_refl _), post _ E' Z' H' _ (w'.resig (wipe_length σ own).symm fun j s ej hs => ?_) (st1.trans st') (fin acc E' hi' hun)⟩
    have hj : j ∉ own := fun m => by
      rcases hun j m with z | z
      · rw [ej] at z; cases z; exact hs rfl
      · rw [ej] at z; cases z
    exact (wipe_out hj).symm
theorem dn_lcB (j0 : Nat) {elt tg iter : Expr} {ifs : List Expr} {scope : Scope} {own : List (Str × Nat)} {pos : Pos} {t : TIt} {g : TGD} {tt : TB} {te : TD} {gs : List Nat} (hN : X.N.Nodup) (hi : PI X tg iter (tibOf C j0 t)) (ok : BlkOk X.N X.env.scope scope own)
    (hg : ∀ (s : Shared) (H : Hp) (a : Addr) (cl : List (Str × Addr)) (fp : List Addr), DG C (X.blk s H scope (compEnvC scope cl a X.env) fp) gs tg g) (ht : ∀ (s : Shared) (H : Hp) (a : Addr) (cl : List (Str × Addr)) (fp : List Addr), PTs (X.blk s H scope (compEnvC scope cl a X.env) fp) ifs (ttOf C tt))
    (he : ∀ (s : Shared) (H : Hp) (a : Addr) (cl : List (Str × Addr)) (fp : List Addr), DE C (X.blk s H scope (compEnvC scope cl a X.env) fp) elt te) (hc : X.calm = true := by rfl) (hj0 : j0 ∉ own.map (·.2) := by decide) (hgs : ∀ j ∈ gs, j ∈ own.map (·.2) := by decide) (hs : ∀ x, foldedSetIterable iter X.env x = pure x := by intro _; rfl) :
    DN C X (.ListComp elt [⟨tg, iter, ifs, 0⟩] scope pos) (tLcB j0 t g tt te (own.map (·.2))) := (pe_lc hc hN hi ok hg ht he hs).imp (lcB_imp hj0 hgs)
end
end DL
set_option Elab.async false
set_option linter.all false
set_option maxRecDepth 100000
set_option maxHeartbeats 4000000
/-! DL, part f: calls of defs, what a def keeps. -/
namespace DL
open PySem PySem.Spec PyProof.Rows L2

/-- an argument: data, or the tree at a name, lent -/
inductive AM where
  | d (d : D) | m (i : Nat)
abbrev SpD := List S → (S → List S → Prop) → Prop
def argS (E : List S) : AM → S
  | .d d => .fr d
  | .m i => match E[i]? with
    | some (.ow t) => .mu t
    | some (.mu t) => .mu t
    | some (.fr d) => .fr d
    | _ => .un
def msOf : List AM → List Nat
  | [] => []
  | .d _ :: as => msOf as
  | .m i :: as => i :: msOf as
def apart : List Nat → Bool
  | [] => true
  | i :: is => !is.contains i && apart is
def whoAt : List AM → Nat → Option Nat
  | [], _ => none
  | .d _ :: as, j => (whoAt as j).map (· + 1)
  | .m i :: as, j => if i = j then some 0 else (whoAt as j).map (· + 1)
def backAt (as : List AM) (Em : List S) (j : Nat) (s : S) : S := match whoAt as j with
  | none => s
  | some k => match s with
    | .un => .un
    | .fr d => .fr d
    | s => match Em[k]? with
      | some (.mu t) => s.put t
      | _ => .un
def backL (as : List AM) (Em : List S) : Nat → List S → List S
  | _, [] => []
  | j, s :: E => backAt as Em j s :: backL as Em (j + 1) E
theorem backL_length (as : List AM) (Em : List S) : ∀ (j : Nat) (E : List S), (backL as Em j E).length = E.length
  | _, [] => rfl
  | j, s :: E => by rw [backL, List.length_cons, List.length_cons, backL_length as Em (j + 1) E]
theorem backL_get (as : List AM) (Em : List S) : ∀ (j : Nat) (E : List S) (i : Nat), (backL as Em j E)[i]? = E[i]?.map (backAt as Em (j + i))
  | _, [], i => by simp [backL]
  | j, s :: E, 0 => by simp [backL]
  | j, s :: E, i + 1 => by
    rw [backL, List.getElem?_cons_succ, List.getElem?_cons_succ, backL_get as Em (j + 1) E i, show j + 1 + i = j + (i + 1) by omega]
theorem whoAt_some : ∀ {as : List AM} {j k : Nat}, whoAt as j = some k → as[k]? = some (.m j)
  | [], _, _, h => by cases h
  | .d _ :: as, j, k, h => by
    unfold whoAt at h
    cases e : whoAt as j with
    | none => rw [e] at h; cases h
    | some l => rw [e] at h; cases h; rw [List.getElem?_cons_succ]; exact whoAt_some e
  | .m i :: as, j, k, h => by
    unfold whoAt at h
    split at h
    · rename_i q
      cases h
      rw [q]; rfl
    · cases e : whoAt as j with
      | none => rw [e] at h; cases h
      | some l => rw [e] at h; cases h; rw [List.getElem?_cons_succ]; exact whoAt_some e
theorem whoAt_none : ∀ {as : List AM} {j : Nat}, whoAt as j = none → ∀ k : Nat, as[k]? ≠ some (.m j)
  | [], _, _, k, e => by simp at e
  | .d _ :: as, j, h, k, e => by
    unfold whoAt at h
    cases k with
    | zero => simp at e
    | succ k =>
      rw [List.getElem?_cons_succ] at e
      exact whoAt_none (as := as) (by cases q : whoAt as j with | none => rfl | some l => rw [q] at h; cases h) k e
  | .m i :: as, j, h, k, e => by
    unfold whoAt at h
    split at h
    · cases h
    · rename_i q
      cases k with
      | zero => simp at e; exact q e
      | succ k =>
        rw [List.getElem?_cons_succ] at e
        exact whoAt_none (as := as) (by cases q : whoAt as j with | none => rfl | some l => rw [q] at h; cases h) k e
theorem mem_msOf : ∀ {as : List AM} {k i : Nat}, as[k]? = some (.m i) → i ∈ msOf as
  | [], _, _, e => by simp at e
  | .d _ :: as, k, i, e => by
    cases k with
    | zero => simp at e
    | succ k => rw [List.getElem?_cons_succ] at e; exact mem_msOf (as := as) e
  | .m j :: as, k, i, e => by
    cases k with
    | zero => simp at e; subst e; exact List.mem_cons_self
    | succ k => rw [List.getElem?_cons_succ] at e; exact List.mem_cons_of_mem _ (mem_msOf (as := as) e)
theorem apart_inj : ∀ {as : List AM} {k l i : Nat}, apart (msOf as) = true → as[k]? = some (.m i) → as[l]? = some (.m i) → k = l
  | [], _, _, _, _, e, _ => by simp at e
  | .d _ :: as, k, l, i, h, e1, e2 => by
    cases k with
    | zero => simp at e1
    | succ k =>
      cases l with
      | zero => simp at e2
      | succ l =>
        rw [List.getElem?_cons_succ] at e1 e2
        rw [apart_inj (as := as) h e1 e2]
  | .m j :: as, k, l, i, h, e1, e2 => by
    have h' : (!(msOf as).contains j && apart (msOf as)) = true := h
    obtain ⟨h1, h2⟩ := Bool.and_eq_true_iff.mp h'
    have n : j ∉ msOf as := by simpa using h1
    cases k with
    | zero =>
      simp at e1
      subst e1
      cases l with
      | zero => rfl
      | succ l => rw [List.getElem?_cons_succ] at e2; exact absurd (mem_msOf e2) n
    | succ k =>
      rw [List.getElem?_cons_succ] at e1
      cases l with
      | zero =>
        simp at e2
        subst e2
        exact absurd (mem_msOf e1) n
      | succ l =>
        rw [List.getElem?_cons_succ] at e2
        rw [apart_inj (as := as) h2 e1 e2]

theorem backAt_tree {as : List AM} {Em : List S} {j : Nat} {s0 s : S} {u : T} (hu : s0.tree? = some u) (e : backAt as Em j s0 = s) :
    (whoAt as j = none ∧ s0 = s) ∨ (∃ (k : Nat) (t : T), as[k]? = some (AM.m j) ∧ Em[k]? = some (S.mu t) ∧ s0.put t = s) ∨ s = .un := by
  have main : (match whoAt as j with | none => s0 | some k => match Em[k]? with | some (.mu t) => s0.put t | _ => .un) = s := by
    unfold backAt at e
    cases s0 with
    | un => cases hu
    | fr d => cases hu
    | ow t => exact e
    | mu t => exact e
  cases wa : whoAt as j with
  | none => rw [wa] at main; exact .inl ⟨rfl, main⟩
  | some k =>
    rw [wa] at main
    have ek := whoAt_some wa
    have main : (match Em[k]? with | some (.mu t) => s0.put t | _ => .un) = s := main
    split at main
    · rename_i t et
      exact .inr (.inl ⟨k, t, ek, et, main⟩)
    · exact .inr (.inr main.symm)

inductive ArgsOk (K : Frg) (Z : Addr → Prop) (σ : Sg) (H : Hp) : List V → List AM → Prop
  | nil : ArgsOk K Z σ H [] []
  | d {v : V} {vs : List V} {d : D} {as : List AM} : Rep K Z H v d → ArgsOk K Z σ H vs as → ArgsOk K Z σ H (v :: vs) (.d d :: as)
  | m {v : V} {vs : List V} {i : Nat} {as : List AM} : σ[i]? = some (some v) → ArgsOk K Z σ H vs as → ArgsOk K Z σ H (v :: vs) (.m i :: as)
section
variable {K : Frg} {Z Z' : Addr → Prop} {σ : Sg} {H H' : Hp}
theorem ArgsOk.length : ∀ {vs : List V} {as : List AM}, ArgsOk K Z σ H vs as → vs.length = as.length
  | _, _, .nil => rfl
  | _, _, .d _ r => by rw [List.length_cons, List.length_cons, r.length]
  | _, _, .m _ r => by rw [List.length_cons, List.length_cons, r.length]
theorem ArgsOk.atD : ∀ {vs : List V} {as : List AM} {k : Nat} {d : D}, ArgsOk K Z σ H vs as → as[k]? = some (.d d) → ∃ v, vs[k]? = some v ∧ Rep K Z H v d
  | _, _, _, _, .nil, e => by simp at e
  | _, _, 0, _, .d h _, e => by simp at e; subst e; exact ⟨_, rfl, h⟩
  | _, _, 0, _, .m h _, e => by simp at e
  | _, _, k + 1, _, .d _ r, e => by
    rw [List.getElem?_cons_succ] at e ⊢
    exact r.atD e
  | _, _, k + 1, _, .m _ r, e => by
    rw [List.getElem?_cons_succ] at e ⊢
    exact r.atD e
theorem ArgsOk.atM : ∀ {vs : List V} {as : List AM} {k : Nat} {i : Nat}, ArgsOk K Z σ H vs as → as[k]? = some (.m i) → ∃ v, vs[k]? = some v ∧ σ[i]? = some (some v)
  | _, _, _, _, .nil, e => by simp at e
  | _, _, 0, _, .d h _, e => by simp at e
  | _, _, 0, _, .m h _, e => by simp at e; subst e; exact ⟨_, rfl, h⟩
  | _, _, k + 1, _, .d _ r, e => by
    rw [List.getElem?_cons_succ] at e ⊢
    exact r.atM e
  | _, _, k + 1, _, .m _ r, e => by
    rw [List.getElem?_cons_succ] at e ⊢
    exact r.atM e
end

/-- what a def promises, over data: at the entry the arguments' places; Qd of the result and of what became of the trees -/
def spD (K : Frg) (n : Nat) (sd : SpD) : Sp := fun vs H Q _ => ∃ (Z : Addr → Prop) (args : List S) (F : Foot) (Qd : S → List S → Prop), vs.length = n ∧ Slots K Z H (vs.map some) args F ∧ (∀ i a, a ∈ F i → ¬ Z a) ∧ (∀ a, Z a → H a ≠ none) ∧ (∀ (i : Nat) t, args[i]? ≠ some (.ow t)) ∧ sd args Qd ∧
  ∀ r Em Z' H' v, ResAt ⟨K, H, F, Z, vs⟩ [] [] Z' (vs.map some) Em H' v r → Qd r Em → Q v H'

section
variable {C : Ctx} {ps : Sg} {Ep : List S} {Z Z' : Addr → Prop} {σ : Sg} {E : List S} {H H' : Hp} {F : Foot}
/-- a callee's world goes on from the caller's -/
theorem WdF.stp {C' : Ctx} {F' : Foot} {σ' : Sg} {E' : List S} {Z0 : Addr → Prop} {H0 : Hp} (e1 : C'.Z0 = Z0) (e2 : C'.H0 = H0) (nz : ∀ i a, a ∈ C'.Fm i → ¬ Z0 a) (kd : ∀ i a, a ∈ C'.Fm i → ∃ o, H0 a = some o ∧ MutK o) (zt : ∀ a, Z0 a → H0 a ≠ none) (w : WdF C' Z' σ' E' H' F') : Stp Z0 H0 Z' H' := by
  subst e1 e2
  refine ⟨w.z0, fun a z => ?_, fun a xs h => ?_, fun a o u h => ?_⟩
  · cases q : C'.H0 a with
    | none => exact absurd q (zt a z)
    | some o => exact w.fr a o q fun i hi => nz i a hi z
  · refine w.fr a _ h fun i hi => ?_
    obtain ⟨o, e, k⟩ := kd i a hi
    rw [h] at e; cases e; exact k
  · refine w.fr a _ h fun i hi => ?_
    obtain ⟨o, e, k⟩ := kd i a hi
    rw [h] at e; cases e; exact k
/-- the footprints that are lent -/
def lent (as : List AM) (E : List S) (F : Foot) : Foot := fun k => match as[k]? with
  | some (.m i) => (match E[i]? with | some (.ow _) => F i | some (.mu _) => F i | _ => [])
  | _ => []
theorem mem_lent {as : List AM} {k : Nat} {a : Addr} (h : a ∈ lent as E F k) : ∃ i s t, as[k]? = some (.m i) ∧ E[i]? = some s ∧ s.tree? = some t ∧ argS E (.m i) = .mu t ∧ a ∈ F i := by
  unfold lent at h
  split at h
  · rename_i i e
    split at h
    · rename_i t e2
      exact ⟨i, _, t, e, e2, rfl, by simp only [argS, e2], h⟩
    · rename_i t e2
      exact ⟨i, _, t, e, e2, rfl, by simp only [argS, e2], h⟩
    · cases h
  · cases h
theorem lent_of {as : List AM} {k i : Nat} {s : S} {t : T} (e : as[k]? = some (.m i)) (e2 : E[i]? = some s) (et : s.tree? = some t) : lent as E F k = F i := by
  unfold lent
  rw [e]
  cases s with
  | un => cases et
  | fr d => cases et
  | ow t => simp only [e2]
  | mu t => simp only [e2]
/-- THE CALL: the caller's places behind it -/
theorem call_go {as : List AM} {vs : List V} (w : WdF C Z (σ ++ ps) (E ++ Ep) H F) (hl : σ.length = E.length) (ok : ArgsOk C.K Z σ H vs as) (ap : apart (msOf as) = true) :
    Slots C.K Z H (vs.map some) (as.map (argS E)) (lent as E F) ∧ (∀ i a, a ∈ lent as E F i → ¬ Z a) ∧
    ∀ (r : S) Em Z' H' v, ResAt ⟨C.K, H, lent as E F, Z, vs⟩ [] [] Z' (vs.map some) Em H' v r → Stp Z H Z' H' ∧ ResAt C ps Ep Z' σ (backL as Em 0 E) H' v r := by
  have hlen := ok.length
  have eF : ∀ {i : Nat} {s : S}, E[i]? = some s → SRep C.K Z H (σ.getD i none) s (F i) := fun {i s} e => by
    have q := w.sl.rep i s (up_get e)
    rw [getD_left (by rw [hl]; exact (List.getElem?_eq_some_iff.mp e).1)] at q
    exact q
  have nzl : ∀ i a, a ∈ lent as E F i → ¬ Z a := fun k a h => by
    obtain ⟨i, s, t, _, _, _, _, m⟩ := mem_lent h
    exact w.nz i a m
  have kdl : ∀ i a, a ∈ lent as E F i → ∃ o, H a = some o ∧ MutK o := fun k a h => by
    obtain ⟨i, s, t, _, _, _, _, m⟩ := mem_lent h
    exact w.kind m
  have gv : ∀ {k : Nat} {v : V}, vs[k]? = some v → (vs.map some).getD k none = some v := fun {k v} e => by
    rw [List.getD_eq_getElem?_getD, List.getElem?_map, e]; rfl
  refine ⟨⟨by rw [List.length_map, List.length_map, hlen], fun k s e => ?_, fun k hk => ?_, fun k => ?_, fun k l a h1 h2 => ?_⟩, nzl, fun r Em Z' H' v R => ?_⟩
  · rw [List.getElem?_map] at e
    cases ea : as[k]? with
    | none => rw [ea] at e; cases e
    | some x =>
      rw [ea] at e
      cases e
      cases x with
      | d d =>
        obtain ⟨v, e1, rv⟩ := ok.atD ea
        refine ⟨?_, v, gv e1, rv⟩
        unfold lent; rw [ea]
      | m i =>
        obtain ⟨v, e1, e2⟩ := ok.atM ea
        have e2' := of_getD e2
        show SRep C.K Z H _ (argS E (.m i)) _
        unfold argS lent
        rw [ea]
        dsimp only
        cases ei : E[i]? with
        | none => exact rfl
        | some s =>
          have q := eF ei
          cases s with
          | un => exact rfl
          | fr d =>
            obtain ⟨q1, u, q2, q3⟩ := q
            rw [e2'] at q2
            cases q2
            exact ⟨rfl, v, gv e1, q3⟩
          | ow t =>
            obtain ⟨u, q2, q3⟩ := q
            rw [e2'] at q2
            cases q2
            exact ⟨v, gv e1, q3⟩
          | mu t =>
            obtain ⟨u, q2, q3⟩ := q
            rw [e2'] at q2
            cases q2
            exact ⟨v, gv e1, q3⟩
  · rw [List.length_map] at hk
    unfold lent
    rw [List.getElem?_eq_none hk]
  · unfold lent
    split
    · split
      · exact w.sl.nd _
      · exact w.sl.nd _
      · exact List.nodup_nil
    · exact List.nodup_nil
  · obtain ⟨i, _, _, e1, _, _, _, m1⟩ := mem_lent h1
    obtain ⟨j, _, _, e2, _, _, _, m2⟩ := mem_lent h2
    have := w.sl.dj i j a m1 m2
    subst this
    exact apart_inj ap e1 e2
  · -- the end
    have main : ∀ (pv : Sg) (pe : List S), pv.length = pe.length → (∀ (l : Nat) s, pe[l]? = some s → ∃ t, s = .ow t) → Wd ⟨C.K, H, lent as E F, Z, vs⟩ Z' (vs.map some ++ pv) (Em ++ pe) H' → (vs.map some).length = Em.length →
        Stp Z H Z' H' ∧ Wd C Z' (σ ++ (ps ++ pv)) (backL as Em 0 E ++ (Ep ++ pe)) H' := by
      intro pv pe hp hpe ⟨F', f⟩ hle
      have st : Stp Z H Z' H' := WdF.stp (C' := ⟨C.K, H, lent as E F, Z, vs⟩) rfl rfl nzl kdl w.zt f
      have keepF : ∀ j a, a ∈ F j → (∀ k : Nat, as[k]? ≠ some (AM.m j)) → H' a = H a := fun j a ha hn => by
        obtain ⟨o, e, _⟩ := w.kind ha
        rw [e]
        refine f.fr a o e fun k hk => ?_
        obtain ⟨i, _, _, e1, _, _, _, m⟩ := mem_lent hk
        have := w.sl.dj i j a m ha
        subst this
        exact hn k e1
      have nz1 : ∀ j a, a ∈ F j → ¬ Z' a := fun j a ha z => by
        rcases f.zn a z with z | z
        · exact w.nz j a ha z
        · obtain ⟨o, e, _⟩ := w.kind ha
          have z : H a = none := z
          rw [e] at z; cases z
      have old : ∀ j a, a ∈ F j → H a ≠ none := fun j a ha => by
        obtain ⟨o, e, _⟩ := w.kind ha
        rw [e]; intro q; cases q
      -- the pieces: a place not lent; lent; pending of old; of new
      have lE : (E ++ Ep).length = E.length + Ep.length := List.length_append
      have lV : (vs.map some).length = vs.length := List.length_map _
      have lent_mu : ∀ {k i : Nat} {t : T}, as[k]? = some (.m i) → Em[k]? = some (S.mu t) → ∀ a, a ∈ F' k → (∃ s u, E[i]? = some s ∧ s.tree? = some u ∧ a ∈ F i) ∨ H a = none := fun {k i t} e1 e2 a ha => by
        rcases f.mum k t a (up_get e2) ha with z | z
        · obtain ⟨i', s, u, e3, e4, e5, _, m⟩ := mem_lent z
          rw [e1] at e3
          cases e3
          exact .inl ⟨s, u, e4, e5, m⟩
        · exact .inr z
      have pos : ∀ (j : Nat) s, (backL as Em 0 E ++ (Ep ++ pe))[j]? = some s →
          (s = .un) ∨ ((E ++ Ep)[j]? = some s ∧ (∀ k : Nat, as[k]? ≠ some (AM.m j)) ∧ j < (E ++ Ep).length) ∨ ((∃ d, E[j]? = some (.fr d) ∧ s = .fr d)) ∨ (∃ (k : Nat) (s0 : S) (t : T) (u : T), as[k]? = some (AM.m j) ∧ E[j]? = some s0 ∧ s0.tree? = some u ∧ Em[k]? = some (S.mu t) ∧ s = s0.put t) ∨
          (∃ (l : Nat) (t : T), j = (E ++ Ep).length + l ∧ pe[l]? = some (S.ow t) ∧ s = .ow t) ∨ (E.length ≤ j ∧ j < (E ++ Ep).length ∧ (E ++ Ep)[j]? = some s) := by
        intro j s e
        by_cases h1 : j < E.length
        · rw [List.getElem?_append_left (by rw [backL_length]; exact h1), backL_get, Nat.zero_add, List.getElem?_eq_getElem h1, Option.map_some] at e
          have e0 : E[j]? = some E[j] := List.getElem?_eq_getElem h1
          generalize E[j] = s0 at e e0
          have e := Option.some.inj e
          cases hu : s0.tree? with
          | none =>
            cases s0 with
            | un =>
              have e : backAt as Em j .un = s := e
              unfold backAt at e
              split at e <;> exact .inl e.symm
            | fr d =>
              have e : backAt as Em j (.fr d) = s := e
              unfold backAt at e
              split at e <;> exact .inr (.inr (.inl ⟨d, e0, e.symm⟩))
            | ow t => cases hu
            | mu t => cases hu
          | some u =>
            rcases backAt_tree hu e with ⟨wa, e⟩ | ⟨k, t, ek, et, e⟩ | e
            · subst e
              exact .inr (.inl ⟨up_get e0, whoAt_none wa, by rw [lE]; omega⟩)
            · exact .inr (.inr (.inr (.inl ⟨k, s0, t, u, ek, e0, hu, et, e.symm⟩)))
            · exact .inl e
        · rw [List.getElem?_append_right (by rw [backL_length]; omega), backL_length] at e
          by_cases h2 : j < (E ++ Ep).length
          · rw [List.getElem?_append_left (by omega)] at e
            refine .inr (.inr (.inr (.inr (.inr ⟨by omega, h2, ?_⟩))))
            rw [List.getElem?_append_right (by omega)]
            exact e
          · rw [List.getElem?_append_right (by omega)] at e
            obtain ⟨t, et⟩ := hpe _ s e
            refine .inr (.inr (.inr (.inr (.inl ⟨j - E.length - Ep.length, t, by omega, ?_, et⟩))))
            rw [e, et]
      -- the new footprints
      let G : Foot := fun j => match (backL as Em 0 E ++ (Ep ++ pe))[j]? with
        | none => []
        | some .un => []
        | some (.fr _) => []
        | some _ => if j < (E ++ Ep).length then (if j < E.length then (match whoAt as j with | none => F j | some k => F' k) else F j) else F' (vs.length + (j - (E ++ Ep).length))
      have hlσ : (σ ++ (ps ++ pv)).length = (backL as Em 0 E ++ (Ep ++ pe)).length := by
        have := w.sl.len
        simp only [List.length_append, backL_length] at this ⊢
        omega
      have lps : ps.length = Ep.length := by
        have := w.sl.len
        simp only [List.length_append] at this
        omega
      have tree_put : ∀ {s : S} {t u : T}, s.tree? = some u → ((∃ x, s = .ow x ∧ s.put t = .ow t) ∨ (∃ x, s = .mu x ∧ s.put t = .mu t)) := fun {s t u} h => by
        cases s with
        | un => cases h
        | fr d => cases h
        | ow x => exact .inl ⟨x, rfl, rfl⟩
        | mu x => exact .inr ⟨x, rfl, rfl⟩
      -- what G is
      have Gold : ∀ {j : Nat} {s : S}, (backL as Em 0 E ++ (Ep ++ pe))[j]? = some s → (E ++ Ep)[j]? = some s → (∀ k : Nat, as[k]? ≠ some (AM.m j)) ∨ E.length ≤ j → j < (E ++ Ep).length → G j = F j ∨ (G j = [] ∧ F j = []) := fun {j s} e e0 hn hj => by
        have z := w.sl.rep j s e0
        show (match (backL as Em 0 E ++ (Ep ++ pe))[j]? with | none => [] | some .un => [] | some (.fr _) => [] | some _ => if j < (E ++ Ep).length then (if j < E.length then (match whoAt as j with | none => F j | some k => F' k) else F j) else F' (vs.length + (j - (E ++ Ep).length))) = F j ∨ _
        have inner : (if j < (E ++ Ep).length then (if j < E.length then (match whoAt as j with | none => F j | some k => F' k) else F j) else F' (vs.length + (j - (E ++ Ep).length))) = F j := by
          rw [if_pos hj]
          split
          · rcases hn with hn | hn
            · cases wa : whoAt as j with
              | none => rfl
              | some k => exact absurd (whoAt_some wa) (hn k)
            · omega
          · rfl
        cases s with
        | un => rw [e]; exact .inl (show [] = F j from (show F j = [] from z).symm)
        | fr d => rw [e]; exact .inl (show [] = F j from z.1.symm)
        | ow t => rw [e]; exact .inl inner
        | mu t => rw [e]; exact .inl inner
      have Glent : ∀ {j k : Nat} {s0 : S} {t u : T}, (backL as Em 0 E ++ (Ep ++ pe))[j]? = some (s0.put t) → as[k]? = some (.m j) → E[j]? = some s0 → s0.tree? = some u → G j = F' k := fun {j k s0 t u} e ek e0 hu => by
        have hj := (List.getElem?_eq_some_iff.mp e0).1
        have wk : whoAt as j = some k := by
          cases wa : whoAt as j with
          | none => exact absurd ek (whoAt_none wa k)
          | some k' => rw [apart_inj ap (whoAt_some wa) ek]
        show (match (backL as Em 0 E ++ (Ep ++ pe))[j]? with | none => [] | some .un => [] | some (.fr _) => [] | some _ => if j < (E ++ Ep).length then (if j < E.length then (match whoAt as j with | none => F j | some k => F' k) else F j) else F' (vs.length + (j - (E ++ Ep).length))) = F' k
        rw [e]
        have inner : (if j < (E ++ Ep).length then (if j < E.length then (match whoAt as j with | none => F j | some k => F' k) else F j) else F' (vs.length + (j - (E ++ Ep).length))) = F' k := by
          rw [if_pos (by rw [lE]; omega), if_pos hj, wk]
        rcases tree_put (t := t) hu with ⟨x, _, q⟩ | ⟨x, _, q⟩ <;> (rw [q]; exact inner)
      have Gnew : ∀ {j l : Nat} {t : T}, (backL as Em 0 E ++ (Ep ++ pe))[j]? = some (.ow t) → j = (E ++ Ep).length + l → G j = F' (vs.length + l) := fun {j l t} e ej => by
        show (match (backL as Em 0 E ++ (Ep ++ pe))[j]? with | none => [] | some .un => [] | some (.fr _) => [] | some _ => if j < (E ++ Ep).length then (if j < E.length then (match whoAt as j with | none => F j | some k => F' k) else F j) else F' (vs.length + (j - (E ++ Ep).length))) = _
        rw [e]
        show (if j < (E ++ Ep).length then _ else F' (vs.length + (j - (E ++ Ep).length))) = _
        rw [if_neg (by omega), ej, Nat.add_sub_cancel_left]
      have Gun : ∀ {j : Nat}, (backL as Em 0 E ++ (Ep ++ pe))[j]? = some .un → G j = [] := fun {j} e => by
        show (match (backL as Em 0 E ++ (Ep ++ pe))[j]? with | none => [] | some .un => [] | some (.fr _) => [] | some _ => if j < (E ++ Ep).length then (if j < E.length then (match whoAt as j with | none => F j | some k => F' k) else F j) else F' (vs.length + (j - (E ++ Ep).length))) = _
        rw [e]
      have Gfr : ∀ {j : Nat} {d : D}, (backL as Em 0 E ++ (Ep ++ pe))[j]? = some (.fr d) → G j = [] := fun {j d} e => by
        show (match (backL as Em 0 E ++ (Ep ++ pe))[j]? with | none => [] | some .un => [] | some (.fr _) => [] | some _ => if j < (E ++ Ep).length then (if j < E.length then (match whoAt as j with | none => F j | some k => F' k) else F j) else F' (vs.length + (j - (E ++ Ep).length))) = _
        rw [e]
      have Gout : ∀ {j : Nat}, (backL as Em 0 E ++ (Ep ++ pe)).length ≤ j → G j = [] := fun {j} hj => by
        show (match (backL as Em 0 E ++ (Ep ++ pe))[j]? with | none => [] | some .un => [] | some (.fr _) => [] | some _ => if j < (E ++ Ep).length then (if j < E.length then (match whoAt as j with | none => F j | some k => F' k) else F j) else F' (vs.length + (j - (E ++ Ep).length))) = _
        rw [List.getElem?_eq_none hj]
      -- where an address of G j comes from
      have src : ∀ (j : Nat) a, a ∈ G j → (a ∈ F j ∧ ((∀ k : Nat, as[k]? ≠ some (AM.m j)) ∨ E.length ≤ j)) ∨ (∃ (k : Nat) (t : T), as[k]? = some (AM.m j) ∧ Em[k]? = some (S.mu t) ∧ a ∈ F' k) ∨ (∃ (l : Nat) (t : T), j = (E ++ Ep).length + l ∧ pe[l]? = some (S.ow t) ∧ a ∈ F' (vs.length + l)) := fun j a ha => by
        by_cases hj : j < (backL as Em 0 E ++ (Ep ++ pe)).length
        · have e := List.getElem?_eq_getElem hj
          generalize (backL as Em 0 E ++ (Ep ++ pe))[j] = s at e
          rcases pos j s e with q | ⟨q1, q2, q3⟩ | ⟨d, q1, q2⟩ | ⟨k, s0, t, u, q1, q2, q3, q4, q5⟩ | ⟨l, t, q1, q2, q3⟩ | ⟨q1, q2, q3⟩
          · subst q; rw [Gun e] at ha; cases ha
          · rcases Gold e q1 (.inl q2) q3 with z | z
            · rw [z] at ha; exact .inl ⟨ha, .inl q2⟩
            · rw [z.1] at ha; cases ha
          · subst q2; rw [Gfr e] at ha; cases ha
          · subst q5; rw [Glent e q1 q2 q3] at ha; exact .inr (.inl ⟨k, t, q1, q4, ha⟩)
          · subst q3; rw [Gnew e q1] at ha; exact .inr (.inr ⟨l, t, q1, q2, ha⟩)
          · rcases Gold e q3 (.inr q1) q2 with z | z
            · rw [z] at ha; exact .inl ⟨ha, .inr q1⟩
            · rw [z.1] at ha; cases ha
        · rw [Gout (by omega)] at ha; cases ha
      have pend : ∀ {l : Nat} {t : T}, pe[l]? = some (S.ow t) → (Em ++ pe)[vs.length + l]? = some (.ow t) := fun {l t} e => by
        rw [List.getElem?_append_right (by omega), show vs.length + l - Em.length = l by omega]
        exact e
      have fresh : ∀ {k : Nat} {a : Addr}, a ∈ F' k → (∃ i, a ∈ F i ∧ as[k]? = some (.m i)) ∨ H a = none ∨ (∀ s, (Em ++ pe)[k]? = some s → s.tree? = none) := fun {k a} ha => by
        by_cases hk : k < (Em ++ pe).length
        · have e := List.getElem?_eq_getElem hk
          generalize (Em ++ pe)[k] = s at e
          cases s with
          | un => exact .inr (.inr fun s q => by rw [e] at q; cases q; rfl)
          | fr d => exact .inr (.inr fun s q => by rw [e] at q; cases q; rfl)
          | ow t => exact .inr (.inl (f.own k t a e ha))
          | mu t =>
            rcases f.mum k t a e ha with z | z
            · obtain ⟨i, s, u, e3, e4, e5, _, m⟩ := mem_lent z
              exact .inl ⟨i, m, e3⟩
            · exact .inr (.inl z)
        · rw [f.sl.out k (by omega)] at ha; cases ha
      refine ⟨st, G, ⟨⟨hlσ, fun j s e => ?_, fun j hj => Gout hj, fun j => ?_, fun j l a h1 h2 => ?_⟩, fun j a ha => ?_, fun j t a e ha => ?_, fun j t a e ha => ?_, fun j t e => ?_, fun b o e0 n => ?_, fun a h => st.zz a (w.z0 a h), fun a h => ?_, f.zt, fun b h => f.kt b (w.kt b h)⟩⟩
      · -- rep
        rcases pos j s e with q | ⟨q1, q2, q3⟩ | ⟨d, q1, q2⟩ | ⟨k, s0, t, u, q1, q2, q3, q4, q5⟩ | ⟨l, t, q1, q2, q3⟩ | ⟨q1, q2, q3⟩
        · subst q; exact Gun e
        · have z := (w.sl.rep j s q1).mono st fun a ha => keepF j a ha q2
          rw [show (σ ++ (ps ++ pv)).getD j none = (σ ++ ps).getD j none by rw [← List.append_assoc, getD_left (by rw [List.length_append]; omega)]]
          rcases Gold e q1 (.inl q2) q3 with y | y
          · rw [y]; exact z
          · rw [y.1]; rw [y.2] at z; exact z
        · subst q2
          have z := (w.sl.rep j _ (up_get q1)).mono st fun a ha => by
            have := (w.sl.rep j _ (up_get (Ep := Ep) q1)).1
            rw [this] at ha; cases ha
          have hj := (List.getElem?_eq_some_iff.mp q1).1
          rw [show (σ ++ (ps ++ pv)).getD j none = (σ ++ ps).getD j none by rw [← List.append_assoc, getD_left (by rw [List.length_append]; omega)]]
          rw [Gfr e]
          exact ⟨rfl, z.2⟩
        · subst q5
          rw [Glent e q1 q2 q3]
          have z := f.sl.rep k _ (up_get q4)
          obtain ⟨v', y1, y2⟩ := ok.atM q1
          rw [getD_left (by rw [lV]; exact (List.getElem?_eq_some_iff.mp y1).1), gv y1] at z
          obtain ⟨x, x1, x2⟩ := z
          cases x1
          have hj := (List.getElem?_eq_some_iff.mp q2).1
          rw [getD_left (by omega), of_getD y2]
          rcases tree_put (t := t) q3 with ⟨x, _, q⟩ | ⟨x, _, q⟩ <;> (rw [q]; exact ⟨v', rfl, x2⟩)
        · subst q3
          rw [Gnew e q1]
          have z := f.sl.rep _ _ (pend q2)
          rw [getD_right (by rw [lV]; omega), lV, Nat.add_sub_cancel_left] at z
          rw [← List.append_assoc, getD_right (by rw [List.length_append]; omega), show j - (σ ++ ps).length = l by rw [List.length_append]; omega]
          exact z
        · have hn : ∀ k : Nat, as[k]? ≠ some (AM.m j) := fun k ek => by
            obtain ⟨v', _, y2⟩ := ok.atM ek
            have := (List.getElem?_eq_some_iff.mp y2).1
            omega
          have z := (w.sl.rep j s q3).mono st fun a ha => keepF j a ha hn
          rw [show (σ ++ (ps ++ pv)).getD j none = (σ ++ ps).getD j none by rw [← List.append_assoc, getD_left (by rw [List.length_append]; omega)]]
          rcases Gold e q3 (.inr q1) q2 with y | y
          · rw [y]; exact z
          · rw [y.1]; rw [y.2] at z; exact z
      · -- nodup
        show (match (backL as Em 0 E ++ (Ep ++ pe))[j]? with | none => [] | some .un => [] | some (.fr _) => [] | some _ => if j < (E ++ Ep).length then (if j < E.length then (match whoAt as j with | none => F j | some k => F' k) else F j) else F' (vs.length + (j - (E ++ Ep).length))).Nodup
        split
        · exact List.nodup_nil
        · exact List.nodup_nil
        · exact List.nodup_nil
        · split
          · split
            · split
              · exact w.sl.nd _
              · exact f.sl.nd _
            · exact w.sl.nd _
          · exact f.sl.nd _
      · -- disjoint
        have cross : ∀ {j l : Nat}, a ∈ F j → ((∀ k : Nat, as[k]? ≠ some (AM.m j)) ∨ E.length ≤ j) → ((∃ (k : Nat) (t : T), as[k]? = some (AM.m l) ∧ Em[k]? = some (S.mu t) ∧ a ∈ F' k) ∨ (∃ (m : Nat) (t : T), l = (E ++ Ep).length + m ∧ pe[m]? = some (S.ow t) ∧ a ∈ F' (vs.length + m))) → False := fun {j l} h1 hn h2 => by
          have hn : ∀ k : Nat, as[k]? ≠ some (AM.m j) := by
            rcases hn with hn | hn
            · exact hn
            · intro k ek
              obtain ⟨v', _, y2⟩ := ok.atM ek
              have := (List.getElem?_eq_some_iff.mp y2).1
              omega
          rcases h2 with ⟨k, t, e1, e2, h2⟩ | ⟨m, t, e1, e2, h2⟩
          · rcases lent_mu e1 e2 a h2 with ⟨s, u, _, _, z⟩ | z
            · have := w.sl.dj _ _ a h1 z
              subst this
              exact hn k e1
            · exact old j a h1 z
          · exact old j a h1 (f.own _ t a (pend e2) h2)
        rcases src j a h1 with ⟨m1, n1⟩ | r1
        · rcases src l a h2 with ⟨m2, n2⟩ | r2
          · exact w.sl.dj j l a m1 m2
          · exact (cross m1 n1 r2).elim
        · rcases src l a h2 with ⟨m2, n2⟩ | r2
          · exact (cross m2 n2 r1).elim
          · rcases r1 with ⟨k, t, e1, e2, m1⟩ | ⟨m, t, e1, e2, m1⟩
            · rcases r2 with ⟨k', t', e1', e2', m1'⟩ | ⟨m', t', e1', e2', m1'⟩
              · have := f.sl.dj _ _ a m1 m1'
                subst this
                rw [e1] at e1'
                cases e1'
                rfl
              · have := f.sl.dj _ _ a m1 m1'
                have hk := (List.getElem?_eq_some_iff.mp e2).1
                omega
            · rcases r2 with ⟨k', t', e1', e2', m1'⟩ | ⟨m', t', e1', e2', m1'⟩
              · have := f.sl.dj _ _ a m1 m1'
                have hk := (List.getElem?_eq_some_iff.mp e2').1
                omega
              · have := f.sl.dj _ _ a m1 m1'
                omega
      · -- not frozen
        rcases src j a ha with ⟨m1, _⟩ | ⟨k, t, _, _, m1⟩ | ⟨l, t, _, _, m1⟩
        · exact nz1 j a m1
        · exact f.nz _ a m1
        · exact f.nz _ a m1
      · -- own
        have hw : H a = none → C.H0 a = none := fun z => Classical.byContradiction fun n => w.kt a n z
        rcases pos j _ e with q | ⟨q1, q2, q3⟩ | ⟨d, q1, q2⟩ | ⟨k, s0, t', u, q1, q2, q3, q4, q5⟩ | ⟨l, t', q1, q2, q3⟩ | ⟨q1, q2, q3⟩
        · cases q
        · rcases Gold e q1 (.inl q2) q3 with z | z
          · rw [z] at ha; exact w.own j t a q1 ha
          · rw [z.1] at ha; cases ha
        · cases q2
        · rw [q5] at e
          rw [Glent e q1 q2 q3] at ha
          rcases lent_mu q1 q4 a ha with ⟨s, u', e4, e5, z⟩ | z
          · rw [q2] at e4
            cases e4
            cases s0 with
            | un => cases q3
            | fr d => cases q3
            | ow x => exact w.own j x a (up_get q2) z
            | mu x => cases q5
          · exact hw z
        · rw [Gnew e q1] at ha
          exact hw (f.own _ _ a (pend q2) ha)
        · rcases Gold e q3 (.inr q1) q2 with z | z
          · rw [z] at ha; exact w.own j t a q3 ha
          · rw [z.1] at ha; cases ha
      · -- mum
        have hw : H a = none → C.H0 a = none := fun z => Classical.byContradiction fun n => w.kt a n z
        rcases pos j _ e with q | ⟨q1, q2, q3⟩ | ⟨d, q1, q2⟩ | ⟨k, s0, t', u, q1, q2, q3, q4, q5⟩ | ⟨l, t', q1, q2, q3⟩ | ⟨q1, q2, q3⟩
        · cases q
        · rcases Gold e q1 (.inl q2) q3 with z | z
          · rw [z] at ha; exact w.mum j t a q1 ha
          · rw [z.1] at ha; cases ha
        · cases q2
        · rw [q5] at e
          rw [Glent e q1 q2 q3] at ha
          rcases lent_mu q1 q4 a ha with ⟨s, u', e4, e5, z⟩ | z
          · rw [q2] at e4
            cases e4
            cases s0 with
            | un => cases q3
            | fr d => cases q3
            | ow x => cases q5
            | mu x => exact w.mum j x a (up_get q2) z
          · exact .inr (hw z)
        · cases q3
        · rcases Gold e q3 (.inr q1) q2 with z | z
          · rw [z] at ha; exact w.mum j t a q3 ha
          · rw [z.1] at ha; cases ha
      · -- mus
        have up2 : ∀ {x : V}, j < (E ++ Ep).length → (σ ++ ps)[j]? = some (some x) → (σ ++ (ps ++ pv))[j]? = some (some x) := fun {x} hj e => by
          rw [← List.append_assoc, List.getElem?_append_left (by rw [List.length_append]; omega)]
          exact e
        rcases pos j _ e with q | ⟨q1, q2, q3⟩ | ⟨d, q1, q2⟩ | ⟨k, s0, t', u, q1, q2, q3, q4, q5⟩ | ⟨l, t', q1, q2, q3⟩ | ⟨q1, q2, q3⟩
        · cases q
        · obtain ⟨x, x1, x2⟩ := w.mus j t q1
          exact ⟨x, x1, up2 q3 x2⟩
        · cases q2
        · cases s0 with
          | un => cases q3
          | fr d => cases q3
          | ow x => cases q5
          | mu x =>
            obtain ⟨y, y1, y2⟩ := w.mus j x (up_get q2)
            exact ⟨y, y1, up2 (by have := (List.getElem?_eq_some_iff.mp q2).1; omega) y2⟩
        · cases q3
        · obtain ⟨x, x1, x2⟩ := w.mus j t q3
          exact ⟨x, x1, up2 q2 x2⟩
      · -- frame
        refine f.fr b o (w.fr b o e0 n) fun k hk => ?_
        obtain ⟨i, s, t, _, e4, e5, _, m⟩ := mem_lent hk
        cases s with
        | un => cases e5
        | fr d => cases e5
        | ow x =>
          have := w.own i x b (up_get e4) m
          rw [e0] at this; cases this
        | mu x =>
          rcases w.mum i x b (up_get e4) m with z | z
          · exact n i z
          · rw [e0] at z; cases z
      · -- zn
        rcases f.zn a h with z | z
        · exact w.zn a z
        · exact .inr (Classical.byContradiction fun n => w.kt a n z)
    have lb : σ.length = (backL as Em 0 E).length := by rw [backL_length]; exact hl
    cases r with
    | un => cases R
    | mu t => cases R
    | fr d =>
      obtain ⟨⟨wl, wd⟩, rv⟩ := R
      obtain ⟨st, q⟩ := main [] [] rfl (fun l s e => by simp at e) wd wl
      rw [List.append_nil, List.append_nil] at q
      exact ⟨st, ⟨lb, q⟩, rv⟩
    | ow t =>
      obtain ⟨wl, wd⟩ := R
      obtain ⟨st, q⟩ := main [some v] [.ow t] rfl (fun l s e => by
        cases l with
        | zero => cases e; exact ⟨t, rfl⟩
        | succ l => simp at e) wd wl
      exact ⟨st, lb, q⟩
end
end DL
set_option Elab.async false
set_option linter.all false
set_option maxRecDepth 100000
set_option maxHeartbeats 4000000
/-! DL, part g: arguments, calls of defs as rules, the rule for a def. -/
namespace DL
open PySem PySem.Spec PyProof.Rows L2

abbrev TAm := List S → (List AM → List S → Prop) → Prop
def tamOf (C : Ctx) (n : Nat) (t : TAm) : TA := fun σ H Q => ∃ ps Ep E Z Qd, At C ps Ep Z σ E H ∧ t E Qd ∧ ∀ as E' Z' H' vs, At C ps Ep Z' σ E' H' → Stp Z H Z' H' → ArgsOk C.K Z' σ H' vs as → as.length = n → Qd as E' → Q vs H'
abbrev DM (C : Ctx) (X : Cx) (es : List Expr) (t : TAm) : Prop := PA X es (tamOf C es.length t)
section
variable {C : Ctx} {X : Cx} {pos : Pos}
theorem ArgsOk.mono {K : Frg} {Z Z' : Addr → Prop} {σ : Sg} {H H' : Hp} (st : Stp Z H Z' H') : ∀ {vs : List V} {as : List AM}, ArgsOk K Z σ H vs as → ArgsOk K Z' σ H' vs as
  | _, _, .nil => .nil
  | _, _, .d r h => .d (r.mono st) (h.mono st)
  | _, _, .m e h => .m e (h.mono st)
def tmNil : TAm := fun E Q => Q [] E
def tmD (t : TD) (u : TAm) : TAm := fun E Q => t E fun d E1 => u E1 fun as E2 => Q (.d d :: as) E2
def tmM (i : Nat) (u : TAm) : TAm := fun E Q => (match E[i]? with | some s => s.knownB = true | none => False) ∧ u E fun as E1 => Q (.m i :: as) E1
theorem dm_nil : DM C X [] tmNil := pa_nil.imp fun σ H Q ⟨ps, Ep, E, Z, Qd, w, h, post⟩ => post [] E Z H [] w (Stp.refl _ _) .nil rfl h
theorem dm_d {e : Expr} {es : List Expr} {t : TD} {u : TAm} (ha : DE C X e t) (hr : DM C X es u) (hs : starEach (e :: es) X.env = (false, eval e X.env) :: starEach es X.env := by rfl) : DM C X (e :: es) (tmD t u) :=
  (pa_cons ha hr hs).imp fun σ H Q ⟨ps, Ep, E, Z, Qd, w, h, post⟩ => ⟨ps, Ep, E, Z, _, w, h, fun d E1 Z1 H1 v w1 st1 r1 h1 => ⟨ps, Ep, E1, Z1, _, w1, h1, fun as E2 Z2 H2 vs w2 st2 r2 n h2 =>
    post _ E2 Z2 H2 _ w2 (st1.trans st2) (.d (r1.mono st2) r2) (by rw [List.length_cons, List.length_cons, n]) h2⟩⟩
theorem dm_m (i : Nat) {x : Str} {es : List Expr} {u : TAm} {pos' : Pos} (hr : DM C X es u) (hN : X.N[i]? = some x := by rfl) (hv : Vis X.env.scope x := by first | exact Or.inl rfl | exact Or.inr (Or.inl rfl) | exact Or.inr (Or.inr rfl)) (hd : (x == ("__debug__" : Str)) = false := by decide)
    (hcd : (x == ("__classdict__" : Str)) = false := by decide) (hs : starEach (.Name x pos' :: es) X.env = (false, eval (.Name x pos') X.env) :: starEach es X.env := by rfl) : DM C X (.Name x pos' :: es) (tmM i u) :=
  (pa_cons (pe_var hN hv hd hcd) hr hs).imp fun σ H Q ⟨ps, Ep, E, Z, Qd, w, ⟨hk, h⟩, post⟩ => by
    split at hk
    · rename_i s e
      obtain ⟨v, e1⟩ := w.known e hk
      exact ⟨v, e1, ps, Ep, E, Z, _, w, h, fun as E2 Z2 H2 vs w2 st2 r2 n h2 => post _ E2 Z2 H2 _ w2 st2 (.m e1 r2) (by rw [List.length_cons, List.length_cons, n]) h2⟩
    · cases hk

/-- a call whose result is data; what it makes of the lent trees -/
def tCallD (sd : SpD) (ta : TAm) : TD := fun E Q => ta E fun as E1 => apart (msOf as) = true ∧ sd (as.map (argS E1)) fun r Em => match r with
  | .fr d => Q d (backL as Em 0 E1)
  | _ => False
def tCallN (sd : SpD) (ta : TAm) : TN := fun E Q => ta E fun as E1 => apart (msOf as) = true ∧ sd (as.map (argS E1)) fun r Em => match r with
  | .ow t => Q t (backL as Em 0 E1)
  | _ => False
theorem argS_no {E : List S} {as : List AM} : ∀ (i : Nat) t, (as.map (argS E))[i]? ≠ some (.ow t) := fun i t e => by
  rw [List.getElem?_map] at e
  cases q : as[i]? with
  | none => rw [q] at e; cases e
  | some a =>
    rw [q] at e
    have e : argS E a = .ow t := Option.some.inj e
    cases a with
    | d d => cases e
    | m j =>
      unfold argS at e
      dsimp only at e
      split at e <;> cases e
theorem call_imp {n : Nat} {sd : SpD} {ta : TAm} {Ex : XK} {σ : Sg} {H : Hp} {Q : VK} {ps : Sg} {Ep : List S} {E : List S} {Z : Addr → Prop} {Qr : S → List S → Prop} (w : At C ps Ep Z σ E H)
    (h : ta E fun as E1 => apart (msOf as) = true ∧ sd (as.map (argS E1)) fun r Em => Qr r (backL as Em 0 E1))
    (post : ∀ r E' Z' H' v, ResAt C ps Ep Z' σ E' H' v r → Stp Z H Z' H' → Qr r E' → Q v H') : tCall (spD C.K n sd) [] Ex (tamOf C n ta) σ H Q :=
  ⟨ps, Ep, E, Z, _, w, h, fun as E1 Z1 H1 vs w1 st1 ok hn ⟨ap, h1⟩ => by
    obtain ⟨F, f⟩ := w1.2
    obtain ⟨g1, g2, g3⟩ := call_go f w1.1 ok ap
    rw [List.append_nil]
    refine ⟨Z1, _, _, _, by rw [ok.length]; exact hn, g1, g2, f.zt, argS_no, h1, fun r Em Z' H' v R q => ?_⟩
    obtain ⟨st2, R2⟩ := g3 r Em Z' H' v R
    exact post r _ Z' H' v R2 (st1.trans st2) q⟩
variable {CX : CXT} {k n : Nat} {f : Addr} {fd : FuncData} {prs : List Str} {sd : SpD} {Ex : XK} {x : Str} {p : Pos} {e : Expr} {es : List Expr} {ta : TAm}
theorem de_call (G : FnOk X.prog X.w X.K X.mg X.base CX k f fd prs (spD X.K n sd)) (hr : Room k X.A) (hm : X.mg x = some (.ref f)) (hk : PySem.W.keepIn X.K (.ref f) = true) (hb : Binds X.K fd prs []) (ha : DM C X (e :: es) ta) (hx : Passes CX X Ex := by exact pass0) (hg : Gl X x := by rfl) (hn : n = (e :: es).length := by rfl) (hK : X.K = C.K := by rfl)
    (hdb : (x == ("__debug__" : Str)) = false := by decide) (he : starEach (e :: es) X.env = (false, eval e X.env) :: starEach es X.env := by rfl) (hpl : (backTo pos (starEach es X.env)).any (·.1) = false := by rfl) :
    DE C X (.Call (.Name x p) (e :: es) [] pos) (tCallD sd ta) := (pe_call G hr hg hm hk hb .nil hx ha hdb he hpl).imp fun σ H Q ⟨ps, Ep, E, Z, Qd, w, h, post⟩ => by
  subst hn
  rw [hK]
  refine call_imp (Qr := fun r E' => match r with | .fr d => Qd d E' | _ => False) w h fun r E' Z' H' v R st q => ?_
  cases r with
  | fr d => exact post d E' Z' H' v R.1 st R.2 q
  | un => cases q
  | ow t => cases q
  | mu t => cases q
theorem dn_call (G : FnOk X.prog X.w X.K X.mg X.base CX k f fd prs (spD X.K n sd)) (hr : Room k X.A) (hm : X.mg x = some (.ref f)) (hk : PySem.W.keepIn X.K (.ref f) = true) (hb : Binds X.K fd prs []) (ha : DM C X (e :: es) ta) (hx : Passes CX X Ex := by exact pass0) (hg : Gl X x := by rfl) (hn : n = (e :: es).length := by rfl) (hK : X.K = C.K := by rfl)
    (hdb : (x == ("__debug__" : Str)) = false := by decide) (he : starEach (e :: es) X.env = (false, eval e X.env) :: starEach es X.env := by rfl) (hpl : (backTo pos (starEach es X.env)).any (·.1) = false := by rfl) :
    DN C X (.Call (.Name x p) (e :: es) [] pos) (tCallN sd ta) := (pe_call G hr hg hm hk hb .nil hx ha hdb he hpl).imp fun σ H Q ⟨ps, Ep, E, Z, Qd, w, h, post⟩ => by
  subst hn
  rw [hK]
  refine call_imp (Qr := fun r E' => match r with | .ow t => Qd t E' | _ => False) w h fun r E' Z' H' v R st q => ?_
  cases r with
  | ow t => exact post t E' Z' H' v R st q
  | un => cases q
  | fr d => cases q
  | mu t => cases q
end

/-! ### the rule for a def -/
def muO : S → S
  | .mu t => .mu t
  | _ => .un
theorem getElem?_takeMap {E : List S} {n j : Nat} {s : S} (h : ((E.take n).map muO)[j]? = some s) : j < n ∧ ∃ u, E[j]? = some u ∧ s = muO u := by
  rw [List.getElem?_map] at h
  cases q : (E.take n)[j]? with
  | none => rw [q] at h; cases h
  | some u =>
    rw [q] at h
    have hj : j < n := by
      have := (List.getElem?_eq_some_iff.mp q).1
      rw [List.length_take] at this
      omega
    rw [List.getElem?_take_of_lt hj] at q
    exact ⟨hj, u, q, (Option.some.inj h).symm⟩
section
variable {P : Program} {w : World} {K : Frg} {mg : Str → Option Value} {base : Heap} {C : Ctx}
/-- at a def's end: what became of the arguments' trees -/
theorem ResAt.ends {n : Nat} {Z : Addr → Prop} {σ : Sg} {E : List S} {H : Hp} {v : V} {r : S} (hn : C.vs.length = n) (hE : n ≤ E.length) (R : ResAt C [] [] Z σ E H v r) : ResAt C [] [] Z (C.vs.map some) ((E.take n).map muO) H v r := by
  have main : ∀ (pv : Sg) (pe : List S), pv.length = pe.length → (∀ (l : Nat) t, pe[l]? ≠ some (.mu t)) → σ.length = E.length → Wd C Z (σ ++ pv) (E ++ pe) H → Wd C Z (C.vs.map some ++ pv) ((E.take n).map muO ++ pe) H := by
    intro pv pe hp hm hl ⟨F, f⟩
    have l1 : ((E.take n).map muO).length = n := by rw [List.length_map, List.length_take]; omega
    have l2 : (C.vs.map some).length = n := by rw [List.length_map]; exact hn
    refine f.re (fun j => if j < n then j else E.length + (j - n)) (by rw [List.length_append, List.length_append, l1, l2, hp]) (fun j s e => ?_) (fun j l s u e1 e2 n1 n2 e => ?_)
    · by_cases hj : j < n
      · rw [List.getElem?_append_left (by omega)] at e
        obtain ⟨_, u, e1, e2⟩ := getElem?_takeMap e
        cases u with
        | mu t =>
          subst e2
          refine .inr ⟨by rw [if_pos hj]; exact up_get e1, ?_, fun _ => if_pos hj⟩
          obtain ⟨x, x1, x2⟩ := f.mus j t (up_get e1)
          rw [if_pos hj, of_getD x2, getD_left (by omega), List.getD_eq_getElem?_getD, List.getElem?_map, x1]
          rfl
        | un => exact .inl e2
        | fr d => exact .inl e2
        | ow t => exact .inl e2
      · rw [List.getElem?_append_right (by omega), l1] at e
        refine .inr ⟨?_, ?_, fun h => ?_⟩
        · rw [if_neg hj, List.getElem?_append_right (by omega), Nat.add_sub_cancel_left]
          exact e
        · rw [if_neg hj, getD_right (by omega), getD_right (by omega), l2, hl, Nat.add_sub_cancel_left]
        · cases s with
          | mu t => exact absurd e (hm _ t)
          | _ => cases h
    · by_cases h1 : j < n
      · by_cases h2 : l < n
        · rw [if_pos h1, if_pos h2] at e; exact e
        · rw [if_pos h1, if_neg h2] at e
          omega
      · by_cases h2 : l < n
        · rw [if_neg h1, if_pos h2] at e
          omega
        · rw [if_neg h1, if_neg h2] at e
          omega
  have l0 : (C.vs.map some).length = ((E.take n).map muO).length := by rw [List.length_map, List.length_map, List.length_take, hn]; omega
  cases r with
  | un => cases R
  | mu t => cases R
  | fr d =>
    obtain ⟨⟨a, b⟩, rv⟩ := R
    exact ⟨⟨l0, main [] [] rfl (fun l t e => by simp at e) a b⟩, rv⟩
  | ow t =>
    obtain ⟨a, b⟩ := R
    refine ⟨l0, main [some v] [.ow t] rfl (fun l t e => ?_) a b⟩
    cases l with
    | zero => cases e
    | succ l => simp at e
/-- what is wanted at a def's end -/
def dEnd (n : Nat) (Qd : S → List S → Prop) : DEnd := { nx := fun E => n ≤ E.length ∧ Qd (.fr .non) ((E.take n).map muO), rt := fun r E => n ≤ E.length ∧ Qd r ((E.take n).map muO) }
/-- THE RULE for a def, over data -/
theorem fn_D {x qual : Str} {st : Stmt} {f : Addr} {fd : FuncData} {N prs : List Str} {k : Nat} {sd : SpD} (F : Fun K x qual st f fd) (S' : FnScope N prs (defScope st)) {t : TSD}
    (hb : ∀ (H0 : Hp) (Fm : Foot) (Z0 : Addr → Prop) (vs : List V) (cdv : Value) (A : Around) (outer : List Env) (s : Shared) (H : Hp) (Ex : XK), Room k (A.deeper (envOfC qual (defScope st) s.heap.objs.size f cdv)) →
      DSs ⟨K, H0, Fm, Z0, vs⟩ (cxOf CX0 P w K mg base N qual (defScope st) f cdv A outer s H Ex).nox (defBody st) t)
    (ht : ∀ args Qd, args.length = prs.length → sd args Qd → t (dEnd prs.length Qd) (args ++ List.replicate (N.length - prs.length) .un)) :
    FnOk P w K mg base CX0 (k + 1) f fd prs (spD K prs.length sd) := by
  refine F.ok S' (fun vs H Q E h => ?_) (fun cdv A outer s H vs Q E hr h => ?_)
  · obtain ⟨_, _, _, _, h, _⟩ := h
    exact h
  · obtain ⟨Z, args, F', Qd, hv, sl, nz, zt, no, h, post⟩ := h
    have la : args.length = prs.length := by
      have := sl.len
      rw [List.length_map] at this
      omega
    have w0 : At ⟨K, H, F', Z, vs⟩ [] [] Z (L2.start N vs) (args ++ List.replicate (N.length - prs.length) .un) H := by
      have e1 : L2.start N vs = vs.map some ++ List.replicate (N.length - prs.length) none := by unfold L2.start; rw [hv]
      have ll : (L2.start N vs).length = (args ++ List.replicate (N.length - prs.length) S.un).length := by
        rw [e1, List.length_append, List.length_append, List.length_map, List.length_replicate, List.length_replicate]; omega
      have low : ∀ (j : Nat) u, (args ++ List.replicate (N.length - prs.length) S.un)[j]? = some u → u = .un ∨ args[j]? = some u := fun j u e => by
        by_cases hj : j < args.length
        · rw [List.getElem?_append_left hj] at e; exact .inr e
        · rw [List.getElem?_append_right (by omega), List.getElem?_replicate] at e
          split at e
          · exact .inl (Option.some.inj e).symm
          · cases e
      refine ⟨ll, F', ?_⟩
      rw [List.append_nil, List.append_nil]
      refine ⟨⟨ll, fun j u e => ?_, fun j hj => sl.out j (by rw [List.length_append] at hj; omega), sl.nd, sl.dj⟩, nz, fun j t a e ha => ?_, fun j t a e ha => .inl ha, fun j t e => ?_, fun b o e _ => e, fun a h => h, fun a h => .inl h, zt, fun b h => h⟩
      · by_cases hj : j < args.length
        · rw [List.getElem?_append_left hj] at e
          rw [e1, getD_left (by rw [List.length_map]; omega)]
          exact sl.rep j u e
        · rcases low j u e with q | q
          · subst q; exact sl.out j (by omega)
          · rw [List.getElem?_eq_none (by omega)] at q; cases q
      · rcases low j _ e with q | q
        · cases q
        · exact absurd q (no j t)
      · rcases low j _ e with q | q
        · cases q
        · have hj := (List.getElem?_eq_some_iff.mp q).1
          obtain ⟨x, x1, x2⟩ := sl.rep j _ q
          have x1 := getD_some x1
          rw [List.getElem?_map] at x1
          cases q2 : vs[j]? with
          | none => rw [q2] at x1; cases x1
          | some y =>
            rw [q2] at x1
            cases x1
            refine ⟨x, by first | exact q2 | rfl, ?_⟩
            rw [e1, List.getElem?_append_left (by rw [List.length_map]; omega), List.getElem?_map, q2]
            rfl
    refine ⟨_, hb H F' Z vs cdv A outer s H E hr, ?_⟩
    refine ⟨[], [], _, Z, _, w0, ht args Qd la h, ⟨fun σ' E' Z' H' w' st' ⟨le, q⟩ => ?_, fun _ _ _ _ _ _ q => q, fun _ _ _ _ _ _ q => q, fun r σ' E' Z' H' v w' st' ⟨le, q⟩ => ?_⟩⟩
    · exact post (.fr .non) _ Z' H' .non (ResAt.ends (C := ⟨K, H, F', Z, vs⟩) (r := .fr .non) hv le ⟨w', .non⟩) q
    · exact post r _ Z' H' v (ResAt.ends (C := ⟨K, H, F', Z, vs⟩) hv le w') q
end
end DL
set_option Elab.async false
set_option linter.all false
set_option maxRecDepth 100000
set_option maxHeartbeats 4000000
/-! DL, part h: list operations, built-ins. -/
namespace DL
open PySem PySem.Spec PyProof.Rows L2

section
variable {C : Ctx} {X : Cx} {pos : Pos}
/-! ### an owned list's methods -/
/-- the list at a name, owned -/
def lstAt (E : List S) (i : Nat) (k : List D → (List D → List S) → Prop) : Prop := match E[i]? with
  | some (.ow (.lst ds)) => k ds fun ds' => E.set i (.ow (.lst ds'))
  | some (.mu (.lst ds)) => k ds fun ds' => E.set i (.mu (.lst ds'))
  | _ => False
theorem lstAt_of {E : List S} {i : Nat} {k : List D → (List D → List S) → Prop} (h : lstAt E i k) : ∃ s ds, E[i]? = some s ∧ s.tree? = some (.lst ds) ∧ k ds fun ds' => E.set i (s.put (.lst ds')) := by
  unfold lstAt at h
  split at h
  · rename_i ds e; exact ⟨_, ds, e, rfl, h⟩
  · rename_i ds e; exact ⟨_, ds, e, rfl, h⟩
  · cases h
def tAppend (i : Nat) (t : TD) : TD := fun E Q => lstAt E i fun _ _ => t E fun d E1 => lstAt E1 i fun ds put => ds.length < sizeLine ∧ Q .non (put (ds ++ [d]))
theorem de_append (i : Nat) {x : Str} {e : Expr} {t : TD} {pos' apos cpos : Pos} (he : DE C X e t) (hN : X.N[i]? = some x := by rfl) (hv : Vis X.env.scope x := by first | exact Or.inl rfl | exact Or.inr (Or.inl rfl) | exact Or.inr (Or.inr rfl))
    (hbase : attributeBase (.Name x pos') "append" X.env (eval (.Name x pos') X.env) = eval (.Name x pos') X.env := by rfl)
    (hfew : ((backTo cpos (starEach [e] X.env)).all (fun x => !x.1) && (backToKw cpos (keywordEach [] X.env)).all (fun x => x.1.isSome) && decide ([e].length + ([] : List Keyword).length + (if ([] : List Keyword).isEmpty then 0 else 1) < 30)) = true := by rfl)
    (hline : (apos.endLine == cpos.line) = true := by rfl) (hs : starEach [e] X.env = (false, eval e X.env) :: starEach [] X.env := by rfl) (hd : (x == ("__debug__" : Str)) = false := by decide) (hcd : (x == ("__classdict__" : Str)) = false := by decide) :
    DE C X (.Call (.Attribute (.Name x pos') "append" apos) [e] [] cpos) (tAppend i t) :=
  (pe_bm PySem.F.plainAttrs_list PySem.F.slot_list_append PySem.F.type_list_append mt_append (pe_var hN hv hd hcd) (pa_cons he pa_nil hs) hbase hfew hline hs rfl).imp fun σ H Q ⟨ps, Ep, E, Z, Qd, w, h, post⟩ => by
    obtain ⟨s, ds, e1, e2, h⟩ := lstAt_of h
    obtain ⟨a, vs, e3, ha, _, _⟩ := w.list e1 e2
    refine ⟨_, e3, .inl ⟨rfl, vs, .of ha⟩, ps, Ep, E, Z, _, w, h, fun d E1 Z1 H1 v w1 st1 r1 h1 => ?_⟩
    obtain ⟨s', ds', e4, e5, hz, h1⟩ := lstAt_of h1
    obtain ⟨a', vs', e6, ha', rs', k⟩ := w1.list e4 e5
    rw [e3] at e6; cases e6
    obtain ⟨st2, w2⟩ := k (vs' ++ [v]) (ds' ++ [d]) (rs'.append (.one r1))
    exact ⟨_, _, _, rfl, rfl, ha', by rw [rs'.length]; exact hz, post .non _ Z1 _ _ w2 (st1.trans st2) .non h1⟩
@[irreducible] def tPopL (i : Nat) : TD := fun E Q => lstAt E i fun ds put => match ds.getLast? with
  | some d => Q d (put ds.dropLast)
  | none => False
theorem de_pop (i : Nat) {x : Str} {pos' apos cpos : Pos} (hN : X.N[i]? = some x := by rfl) (hv : Vis X.env.scope x := by first | exact Or.inl rfl | exact Or.inr (Or.inl rfl) | exact Or.inr (Or.inr rfl))
    (hbase : attributeBase (.Name x pos') "pop" X.env (eval (.Name x pos') X.env) = eval (.Name x pos') X.env := by rfl)
    (hline : (apos.endLine == cpos.line) = true := by rfl) (hd : (x == ("__debug__" : Str)) = false := by decide) (hcd : (x == ("__classdict__" : Str)) = false := by decide) :
    DE C X (.Call (.Attribute (.Name x pos') "pop" apos) [] [] cpos) (tPopL i) :=
  (pe_bm0 PySem.F.plainAttrs_list PySem.F.slot_list_pop PySem.F.type_list_pop mt_pop (pe_var hN hv hd hcd) hbase hline).imp fun σ H Q ⟨ps, Ep, E, Z, Qd, w, h, post⟩ => by
    unfold tPopL at h
    obtain ⟨s, ds, e1, e2, h⟩ := lstAt_of h
    obtain ⟨a, vs, e3, ha, rs, k⟩ := w.list e1 e2
    split at h
    · rename_i d ed
      rw [List.getLast?_eq_getElem?] at ed
      obtain ⟨y, ey, ry⟩ := rs.get ed
      obtain ⟨st2, w2⟩ := k vs.dropLast ds.dropLast rs.dropLast
      refine ⟨_, e3, .inl ⟨rfl, vs, .of ha⟩, _, _, y, rfl, rfl, ha, by rw [rs.length]; exact ey, post d _ Z _ _ w2 st2 (ry.mono st2) h⟩
    · cases h
def tRevL (i : Nat) : TD := fun E Q => lstAt E i fun ds put => Q .non (put ds.reverse)
theorem de_reverse (i : Nat) {x : Str} {pos' apos cpos : Pos} (hN : X.N[i]? = some x := by rfl) (hv : Vis X.env.scope x := by first | exact Or.inl rfl | exact Or.inr (Or.inl rfl) | exact Or.inr (Or.inr rfl))
    (hbase : attributeBase (.Name x pos') "reverse" X.env (eval (.Name x pos') X.env) = eval (.Name x pos') X.env := by rfl)
    (hline : (apos.endLine == cpos.line) = true := by rfl) (hd : (x == ("__debug__" : Str)) = false := by decide) (hcd : (x == ("__classdict__" : Str)) = false := by decide) :
    DE C X (.Call (.Attribute (.Name x pos') "reverse" apos) [] [] cpos) (tRevL i) :=
  (pe_bm0 PySem.F.plainAttrs_list PySem.F.slot_list_reverse PySem.F.type_list_reverse mt_reverse (pe_var hN hv hd hcd) hbase hline).imp fun σ H Q ⟨ps, Ep, E, Z, Qd, w, h, post⟩ => by
    obtain ⟨s, ds, e1, e2, h⟩ := lstAt_of h
    obtain ⟨a, vs, e3, ha, rs, k⟩ := w.list e1 e2
    obtain ⟨st2, w2⟩ := k vs.reverse ds.reverse rs.reverse
    exact ⟨_, e3, .inl ⟨rfl, vs, .of ha⟩, _, _, rfl, rfl, ha, post .non _ Z _ _ w2 st2 .non h⟩
/-- xs.insert(k, y), k not below 0 -/
def tInsert (i : Nat) (tk ty : TD) : TD := fun E Q => lstAt E i fun _ _ => tk E fun k E1 => ty E1 fun y E2 => lstAt E2 i fun ds put => match k with
  | .int n => (ds.length < sizeLine ∧ 0 ≤ n ∧ n < 2 ^ 63) ∧ Q .non (put (ds.take n.toNat ++ y :: ds.drop n.toNat))
  | _ => False
theorem de_insert (i : Nat) {x : Str} {e1 e2 : Expr} {tk ty : TD} {pos' apos cpos : Pos} (hk : DE C X e1 tk) (he : DE C X e2 ty) (hN : X.N[i]? = some x := by rfl) (hv : Vis X.env.scope x := by first | exact Or.inl rfl | exact Or.inr (Or.inl rfl) | exact Or.inr (Or.inr rfl))
    (hbase : attributeBase (.Name x pos') "insert" X.env (eval (.Name x pos') X.env) = eval (.Name x pos') X.env := by rfl)
    (hfew : ((backTo cpos (starEach [e1, e2] X.env)).all (fun x => !x.1) && (backToKw cpos (keywordEach [] X.env)).all (fun x => x.1.isSome) && decide ([e1, e2].length + ([] : List Keyword).length + (if ([] : List Keyword).isEmpty then 0 else 1) < 30)) = true := by rfl)
    (hline : (apos.endLine == cpos.line) = true := by rfl) (hs : starEach [e1, e2] X.env = (false, eval e1 X.env) :: starEach [e2] X.env := by rfl) (hs2 : starEach [e2] X.env = (false, eval e2 X.env) :: starEach [] X.env := by rfl) (hpl : (backTo cpos (starEach [e2] X.env)).any (·.1) = false := by rfl)
    (hd : (x == ("__debug__" : Str)) = false := by decide) (hcd : (x == ("__classdict__" : Str)) = false := by decide) :
    DE C X (.Call (.Attribute (.Name x pos') "insert" apos) [e1, e2] [] cpos) (tInsert i tk ty) :=
  (pe_bm PySem.F.plainAttrs_list PySem.F.slot_list_insert PySem.F.type_list_insert mt_insert (pe_var hN hv hd hcd) (pa_cons hk (pa_cons he pa_nil hs2) hs) hbase hfew hline hs hpl).imp fun σ H Q ⟨ps, Ep, E, Z, Qd, w, h, post⟩ => by
    obtain ⟨s, ds, e1, e2, h⟩ := lstAt_of h
    obtain ⟨a, vs, e3, ha, _, _⟩ := w.list e1 e2
    refine ⟨_, e3, .inl ⟨rfl, vs, .of ha⟩, ps, Ep, E, Z, _, w, h, fun k E1 Z1 H1 u w1 st1 r1 h1 => ⟨ps, Ep, E1, Z1, _, w1, h1, fun d E2 Z2 H2 v w2 st2 r2 h2 => ?_⟩⟩
    obtain ⟨s', ds', e4, e5, h2⟩ := lstAt_of h2
    obtain ⟨a', vs', e6, ha', rs', kk⟩ := w2.list e4 e5
    rw [e3] at e6; cases e6
    cases k with
    | int n =>
      obtain ⟨⟨hz, h0, h1'⟩, h2⟩ := h2
      cases r1
      obtain ⟨st3, w3⟩ := kk (vs'.take n.toNat ++ v :: vs'.drop n.toNat) (ds'.take n.toNat ++ d :: ds'.drop n.toNat) (rs'.insertIdx _ r2)
      refine ⟨_, _, n, v, rfl, rfl, ha', by rw [rs'.length]; exact hz, h0, h1', ?_⟩
      rw [List.append_assoc]
      exact post .non _ Z2 _ _ w3 (st1.trans (st2.trans st3)) .non h2
    | _ => cases h2
/-- xs[k] = e -/
def dSetIx (i : Nat) (tk te : TD) : TSD := fun D E => te E fun d E1 => lstAt E1 i fun _ _ => tk E1 fun k E2 => lstAt E2 i fun ds put => match k with
  | .int n => (match ixN ds.length n with | some j => D.nx (put (ds.set j d)) | none => False)
  | _ => False
theorem ds_setix (i : Nat) {x : Str} {e1 e2 : Expr} {tk te : TD} {pos' apos : Pos} (hk : DE C X e1 tk) (he : DE C X e2 te) (hN : X.N[i]? = some x := by rfl) (hv : Vis X.env.scope x := by first | exact Or.inl rfl | exact Or.inr (Or.inl rfl) | exact Or.inr (Or.inr rfl))
    (ha : ∀ v, assign (.Subscript (.Name x pos') e1 apos) X.env v = (do
      let ov ← holding [v] (eval (.Name x pos') X.env)
      let iv ← holding [v, ov] (eval e1 X.env)
      standAt apos
      holding [v, ov, iv] (setItem ov iv v)
      release [v, ov, iv] []) := by intro _; rfl)
    (hs : swapsWithSole [(.Subscript (.Name x pos') e1 apos)] e2 pos.line X.env = pure false := by rfl) (hw : swappedStores [(.Subscript (.Name x pos') e1 apos)] e2 X.env = pure none := by rfl)
    (h1 : (assignEach [(.Subscript (.Name x pos') e1 apos)] X.env).map (·.2) = [assign (.Subscript (.Name x pos') e1 apos) X.env] := by rfl) (hd : (x == ("__debug__" : Str)) = false := by decide) (hcd : (x == ("__classdict__" : Str)) = false := by decide) :
    DS C X (.Assign [.Subscript (.Name x pos') e1 apos] e2 pos) (dSetIx i tk te) :=
  (ps_asg he (pg_sub (pe_var hN hv hd hcd) hk set_list ha) hs hw h1).imp fun Dn σ H ⟨ps, Ep, E, Z, Dd, w, h, f⟩ => ⟨ps, Ep, E, Z, _, w, h, fun d E1 Z1 H1 v w1 st1 r1 h1 => by
    obtain ⟨s, ds, e1, e2, h1⟩ := lstAt_of h1
    obtain ⟨a, vs, e3, ha, _, _⟩ := w1.list e1 e2
    refine ⟨_, e3, ps, Ep, E1, Z1, _, w1, h1, fun k E2 Z2 H2 u w2 st2 r2 h2 => ?_⟩
    obtain ⟨s', ds', e4, e5, h2⟩ := lstAt_of h2
    obtain ⟨a', vs', e6, ha', rs', kk⟩ := w2.list e4 e5
    rw [e3] at e6; cases e6
    cases k with
    | int n =>
      dsimp only at h2
      split at h2
      · rename_i j ej
        cases r2
        obtain ⟨st3, w3⟩ := kk (vs'.set j v) (ds'.set j d) (rs'.set j (r1.mono st2))
        exact ⟨_, _, n, j, rfl, rfl, ha', by rw [rs'.length]; exact ej, f.nx _ _ Z2 _ w3 (st1.trans (st2.trans st3)) h2⟩
      · cases h2
    | _ => cases h2⟩

/-! ### slices -/
abbrev TOD := List S → (Option Int → List S → Prop) → Prop
def toOf (C : Ctx) (t : TOD) : TO := fun σ H Q => ∃ ps Ep E Z Qd, At C ps Ep Z σ E H ∧ t E Qd ∧ ∀ o E' Z' H', At C ps Ep Z' σ E' H' → Stp Z H Z' H' → Qd o E' → Q o H'
def toN : TOD := fun E Q => Q none E
def toS (t : TD) : TOD := fun E Q => t E fun d E1 => match d with
  | .int i => Q (some i) E1
  | _ => False
theorem _root_.L2.PO.imp {X : Cx} {e : Option Expr} {t t' : TO} (h : PO X e t) (k : ∀ σ H Q, t' σ H Q → t σ H Q) : PO X e t' := ⟨fun pins s σ H Q I q => h.run pins s σ H Q I (k σ H Q q)⟩
theorem do_n : PO X none (toOf C toN) := po_none.imp fun σ H Q ⟨ps, Ep, E, Z, Qd, w, h, post⟩ => post none E Z H w (Stp.refl _ _) h
theorem do_s {e : Expr} {t : TD} (h : DE C X e t) : PO X (some e) (toOf C (toS t)) := (po_some h).imp fun σ H Q ⟨ps, Ep, E, Z, Qd, w, h, post⟩ => ⟨ps, Ep, E, Z, _, w, h, fun d E1 Z1 H1 v w1 st1 r1 h1 => by
  cases r1 with
  | int i => exact ⟨i, rfl, post _ E1 Z1 H1 w1 st1 h1⟩
  | _ => cases h1⟩
def cutD (xs : List D) (lo hi : Option Int) : List D := (xs.drop (HT.sIx xs.length 0 lo)).take (HT.sIx xs.length xs.length hi - HT.sIx xs.length 0 lo)
theorem Reps.cut {K : Frg} {Z : Addr → Prop} {H : Hp} {vs : List V} {ds : List D} (r : Reps K Z H vs ds) (lo hi : Option Int) : Reps K Z H (cutV vs lo hi) (cutD ds lo hi) := by
  unfold cutV cutD
  rw [r.length]
  exact (r.drop _).take _
/-- a slice of a list: a new list -/
def tSlL (t : TD) (lo hi : TOD) : TN := fun E Q => t E fun d E1 => lo E1 fun l E2 => hi E2 fun u E3 => match d with
  | .lst ds => Q (.lst (cutD ds l u)) E3
  | .scr ds => Q (.lst (cutD ds l u)) E3
  | _ => False
theorem dn_sl {e : Expr} {lo hi : Option Expr} {t : TD} {tl th : TOD} {p2 pos : Pos} (he : DE C X e t) (hl : PO X lo (toOf C tl)) (hh : PO X hi (toOf C th)) (hK : X.K = C.K := by rfl) : DN C X (.Subscript e (.Slice lo hi none p2) pos) (tSlL t tl th) :=
  (pe_slice sl_list he hl hh).imp fun σ H Q ⟨ps, Ep, E, Z, Qd, w, h, post⟩ => ⟨ps, Ep, E, Z, _, w, h, fun d E1 Z1 H1 v w1 st1 r1 h1 => ⟨ps, Ep, E1, Z1, _, w1, h1, fun l E2 Z2 H2 w2 st2 h2 => ⟨ps, Ep, E2, Z2, _, w2, h2, fun u E3 Z3 H3 w3 st3 h3 => by
    rw [hK]
    split at h3
    · cases r1 with
      | lst hs rs =>
        have st23 := st2.trans st3
        refine ⟨_, _, rfl, (hs.mono st23).sq, fun p hp => ?_⟩
        obtain ⟨st4, w4⟩ := w3.push hp ((rs.mono st23).cut l u)
        exact post _ E3 Z3 _ _ w4 (st1.trans (st23.trans st4)) h3
    · cases r1 with
      | scr hs rs =>
        have st23 := st2.trans st3
        refine ⟨_, _, rfl, (hs.mono st23).sq, fun p hp => ?_⟩
        obtain ⟨st4, w4⟩ := w3.push hp ((rs.mono st23).cut l u)
        exact post _ E3 Z3 _ _ w4 (st1.trans (st23.trans st4)) h3
    · cases h3⟩⟩⟩

/-! ### built-ins of one argument that leave the heap -/
def Meets1 (C : Ctx) (o : D → (D → Prop) → Prop) (r : List V → Hp → VK → Prop) : Prop := ∀ (Z : Addr → Prop) (H : Hp) (v : V) (d : D) (q : D → Prop) (Q : VK), BRep C.K Z H v d → o d q → (∀ z y, Rep C.K Z H z y → q y → Q z H) → r [v] H Q
theorem one_imp {o : D → (D → Prop) → Prop} {r : List V → Hp → VK → Prop} (m : Meets1 C o r) {t : TD} (σ : Sg) (H : Hp) (Q : VK) (h : teOf C (tUn1 o t) σ H Q) : tCB r (tCons (tbOf C t) tNil) σ H Q := by
  obtain ⟨ps, Ep, E, Z, Qd, w, h, post⟩ := h
  exact ⟨ps, Ep, E, Z, _, w, h, fun d E1 Z1 H1 v w1 st1 r1 h1 => m Z1 H1 v d _ _ r1 h1 fun z y rz q => post y E1 Z1 H1 z w1 st1 rz q⟩
theorem de_b1 {id : String} {x : Str} {e : Expr} {t : TD} {o : D → (D → Prop) → Prop} {r : List V → Hp → VK → Prop} {p : Pos} (hc : CallR X (.builtin id) r ∧ Meets1 C o r) (hm : X.mg x = none) (he : DB C X e t) (hv : bootBuiltins x = some (.builtin id) := by first | rfl | decide +kernel) (hg : Gl X x := by rfl) (hn : x ≠ "__name__" := by decide) (hdb : (x == ("__debug__" : Str)) = false := by decide)
    (hs : starEach [e] X.env = (false, eval e X.env) :: starEach [] X.env := by rfl) (hpl : (backTo pos (starEach [] X.env)).any (·.1) = false := by rfl) : DE C X (.Call (.Name x p) [e] [] pos) (tUn1 o t) :=
  (pe_callB hc.1 hg hm hv (pa_cons he pa_nil hs) hn hdb hs hpl).imp (one_imp hc.2)
theorem de_t1 {T : String} {x : Str} {e : Expr} {t : TD} {o : D → (D → Prop) → Prop} {r : List V → Hp → VK → Prop} {p : Pos} (hc : CallR X (.type T) r ∧ Meets1 C o r) (hm : X.mg x = none) (he : DB C X e t) (hv : bootBuiltins x = some (.type T) := by first | rfl | decide +kernel) (hg : Gl X x := by rfl) (hn : x ≠ "__name__" := by decide) (hdb : (x == ("__debug__" : Str)) = false := by decide)
    (hs : starEach [e] X.env = (false, eval e X.env) :: starEach [] X.env := by rfl) (hpl : (backTo pos (starEach [] X.env)).any (·.1) = false := by rfl) : DE C X (.Call (.Name x p) [e] [] pos) (tUn1 o t) :=
  (pe_callTy hc.1 hg hm hv (pa_cons he pa_nil hs) hn hdb hs hpl).imp (one_imp hc.2)
def oLen : D → (D → Prop) → Prop := fun d q => match d with
  | .lst ds => q (.int ds.length)
  | .tup ds => q (.int ds.length)
  | .str z => z.length ≤ sizeLine ∧ q (.int z.length)
  | _ => False
def rLen (K : Frg) : List V → Hp → VK → Prop := fun xs H Q => (∃ p ys, xs = [.ref p] ∧ (SqL K H p ys ∨ SqT K H p ys) ∧ Q (.int ys.length) H) ∨ ∃ z, xs = [.str z] ∧ z.length ≤ sizeLine ∧ Q (.int z.length) H
theorem b_len (hK : X.K = C.K := by rfl) : CallR X (.builtin "len") (rLen X.K) ∧ Meets1 C oLen (rLen X.K) := ⟨call_len_seq.or call_len_str, fun Z H v d q Q r h k => by
  rw [hK]
  unfold oLen at h
  split at h
  · obtain ⟨a, vs, rfl, hs, rs⟩ := r.lst
    refine .inl ⟨a, vs, rfl, .inl hs, k _ _ ?_ h⟩
    rw [rs.length]; exact .int _
  · obtain ⟨a, vs, rfl, hs, rs⟩ := r.tup
    refine .inl ⟨a, vs, rfl, .inr hs, k _ _ ?_ h⟩
    rw [rs.length]; exact .int _
  · cases r.str
    exact .inr ⟨_, rfl, h.1, k _ _ (.int _) h.2⟩
  · cases h⟩
theorem BRep.int {K : Frg} {Z : Addr → Prop} {H : Hp} {v : V} {i : Int} (h : BRep K Z H v (.int i)) : v = .int i := by
  rcases h with h | ⟨t, F, h, e⟩
  · cases h; rfl
  · cases h with
    | fr h =>
      rw [show (T.fr _).fz = _ from rfl] at e
      subst e
      cases h; rfl
    | lst h hs => cases e
    | dic h e1 hs => cases e
    | obj h e1 hs => cases e
theorem BRep.bl {K : Frg} {Z : Addr → Prop} {H : Hp} {v : V} {i : Bool} (h : BRep K Z H v (.bl i)) : v = .bl i := by
  rcases h with h | ⟨t, F, h, e⟩
  · cases h; rfl
  · cases h with
    | fr h =>
      rw [show (T.fr _).fz = _ from rfl] at e
      subst e
      cases h; rfl
    | lst h hs => cases e
    | dic h e1 hs => cases e
    | obj h e1 hs => cases e
def oInt : D → (D → Prop) → Prop := fun d q => match d with
  | .int i => q (.int i)
  | .bl b => q (.int (if b then 1 else 0))
  | _ => False
theorem b_int : CallR X (.type "int") (fun xs H Q => (∃ i, xs = [.int i] ∧ Q (.int i) H) ∨ ∃ k, xs = [.bl k] ∧ Q (.int (if k then 1 else 0)) H) ∧ Meets1 C oInt (fun xs H Q => (∃ i, xs = [.int i] ∧ Q (.int i) H) ∨ ∃ k, xs = [.bl k] ∧ Q (.int (if k then 1 else 0)) H) := ⟨call_int1, fun Z H v d q Q r h k => by
  unfold oInt at h
  split at h
  · cases r.int; exact .inl ⟨_, rfl, k _ _ (.int _) h⟩
  · cases r.bl; exact .inr ⟨_, rfl, k _ _ (.int _) h⟩
  · cases h⟩
def oAbs : D → (D → Prop) → Prop := fun d q => match d with
  | .int i => q (.int (if i < 0 then -i else i))
  | _ => False
theorem b_abs : CallR X (.builtin "abs") (fun xs H Q => ∃ i, xs = [.int i] ∧ Q (.int (if i < 0 then -i else i)) H) ∧ Meets1 C oAbs (fun xs H Q => ∃ i, xs = [.int i] ∧ Q (.int (if i < 0 then -i else i)) H) := ⟨call_abs, fun Z H v d q Q r h k => by
  unfold oAbs at h
  split at h
  · cases r.int; exact ⟨_, rfl, k _ _ (.int _) h⟩
  · cases h⟩
theorem Reps.ints {K : Frg} {Z : Addr → Prop} {H : Hp} : ∀ {vs : List V} {ns : List Int}, Reps K Z H vs (ns.map D.int) → vs = ns.map V.int
  | _, [], h => by cases h; rfl
  | _, n :: ns, h => by
    cases h with
    | cons h hs => cases h; rw [List.map_cons, Reps.ints hs]
theorem Reps.bls {K : Frg} {Z : Addr → Prop} {H : Hp} : ∀ {vs : List V} {ns : List Bool}, Reps K Z H vs (ns.map D.bl) → vs = ns.map V.bl
  | _, [], h => by cases h; rfl
  | _, n :: ns, h => by
    cases h with
    | cons h hs => cases h; rw [List.map_cons, Reps.bls hs]
def oSum : D → (D → Prop) → Prop := fun d q => match d with
  | .lst ds => ∃ ns : List Int, ds = ns.map D.int ∧ q (.int ns.sum)
  | _ => False
theorem b_sum (hc : X.calm = true := by rfl) (hK : X.K = C.K := by rfl) : CallR X (.builtin "sum") (rSum X.K) ∧ Meets1 C oSum (rSum X.K) := ⟨cr_sum hc, fun Z H v d q Q r h k => by
  rw [hK]
  unfold oSum at h
  split at h
  · obtain ⟨ns, rfl, h⟩ := h
    obtain ⟨a, vs, rfl, hs, rs⟩ := r.lst
    rw [rs.ints] at hs
    exact ⟨a, ns, rfl, hs, k _ _ (.int _) h⟩
  · cases h⟩
def oMax : D → (D → Prop) → Prop := fun d q => match d with
  | .lst ds => ∃ ns : List Int, ds = ns.map D.int ∧ 0 < ns.length ∧ ∀ m, m ∈ ns → (∀ y, y ∈ ns → y ≤ m) → q (.int m)
  | _ => False
def oMin : D → (D → Prop) → Prop := fun d q => match d with
  | .lst ds => ∃ ns : List Int, ds = ns.map D.int ∧ 0 < ns.length ∧ ∀ m, m ∈ ns → (∀ y, y ∈ ns → m ≤ y) → q (.int m)
  | _ => False
theorem b_max (hc : X.calm = true := by rfl) (hK : X.K = C.K := by rfl) : CallR X (.builtin "max") (rMax X.K) ∧ Meets1 C oMax (rMax X.K) := ⟨cr_max hc, fun Z H v d q Q r h k => by
  rw [hK]
  unfold oMax at h
  split at h
  · obtain ⟨ns, rfl, hn, h⟩ := h
    obtain ⟨a, vs, rfl, hs, rs⟩ := r.lst
    rw [rs.ints] at hs
    exact ⟨a, ns, rfl, hs, hn, fun m h1 h2 => k _ _ (.int _) (h m h1 h2)⟩
  · cases h⟩
theorem b_min (hc : X.calm = true := by rfl) (hK : X.K = C.K := by rfl) : CallR X (.builtin "min") (rMin X.K) ∧ Meets1 C oMin (rMin X.K) := ⟨cr_min hc, fun Z H v d q Q r h k => by
  rw [hK]
  unfold oMin at h
  split at h
  · obtain ⟨ns, rfl, hn, h⟩ := h
    obtain ⟨a, vs, rfl, hs, rs⟩ := r.lst
    rw [rs.ints] at hs
    exact ⟨a, ns, rfl, hs, hn, fun m h1 h2 => k _ _ (.int _) (h m h1 h2)⟩
  · cases h⟩
def oAll : D → (D → Prop) → Prop := fun d q => match d with
  | .lst ds => ∃ bs : List Bool, ds = bs.map D.bl ∧ q (.bl (bs.all id))
  | _ => False
def oAny : D → (D → Prop) → Prop := fun d q => match d with
  | .lst ds => ∃ bs : List Bool, ds = bs.map D.bl ∧ q (.bl (bs.any id))
  | _ => False
theorem b_all (hc : X.calm = true := by rfl) (hK : X.K = C.K := by rfl) : CallR X (.builtin "all") (rAll X.K) ∧ Meets1 C oAll (rAll X.K) := ⟨cr_all hc, fun Z H v d q Q r h k => by
  rw [hK]
  unfold oAll at h
  split at h
  · obtain ⟨ns, rfl, h⟩ := h
    obtain ⟨a, vs, rfl, hs, rs⟩ := r.lst
    rw [rs.bls] at hs
    exact ⟨a, ns, rfl, hs, k _ _ (.bl _) h⟩
  · cases h⟩
theorem b_any (hc : X.calm = true := by rfl) (hK : X.K = C.K := by rfl) : CallR X (.builtin "any") (rAny X.K) ∧ Meets1 C oAny (rAny X.K) := ⟨cr_any hc, fun Z H v d q Q r h k => by
  rw [hK]
  unfold oAny at h
  split at h
  · obtain ⟨ns, rfl, h⟩ := h
    obtain ⟨a, vs, rfl, hs, rs⟩ := r.lst
    rw [rs.bls] at hs
    exact ⟨a, ns, rfl, hs, k _ _ (.bl _) h⟩
  · cases h⟩
/-- list(x) of a list or tuple: a new list -/
def tListOf (t : TD) : TN := fun E Q => t E fun d E1 => match d with
  | .lst ds => Q (.lst ds) E1
  | .tup ds => Q (.lst ds) E1
  | .scr ds => Q (.lst ds) E1
  | _ => False
theorem BRep.scr {K : Frg} {Z : Addr → Prop} {H : Hp} {v : V} {ds : List D} (h : BRep K Z H v (.scr ds)) : ∃ a vs, v = .ref a ∧ SqL K H a vs ∧ Reps K Z H vs ds := by
  rcases h with h | ⟨t, F, h, e⟩
  · cases h with
    | scr h hs => exact ⟨_, _, rfl, h.sq, hs⟩
  · cases h with
    | fr h =>
      rw [show (T.fr _).fz = _ from rfl] at e
      subst e
      cases h with
      | scr h hs => exact ⟨_, _, rfl, h.sq, hs⟩
    | lst h hs => cases e
    | dic h e1 hs => cases e
    | obj h e1 hs => cases e
theorem dn_list {x : Str} {e : Expr} {t : TD} {p : Pos} (hm : X.mg x = none) (he : DB C X e t) (hv : bootBuiltins x = some (.type "list") := by first | rfl | decide +kernel) (hg : Gl X x := by rfl) (hn : x ≠ "__name__" := by decide) (hdb : (x == ("__debug__" : Str)) = false := by decide)
    (hs : starEach [e] X.env = (false, eval e X.env) :: starEach [] X.env := by rfl) (hpl : (backTo pos (starEach [] X.env)).any (·.1) = false := by rfl) (hK : X.K = C.K := by rfl) : DN C X (.Call (.Name x p) [e] [] pos) (tListOf t) :=
  (pe_callTy call_list_of hg hm hv (pa_cons he pa_nil hs) hn hdb hs hpl).imp fun σ H Q ⟨ps, Ep, E, Z, Qd, w, h, post⟩ => ⟨ps, Ep, E, Z, _, w, h, fun d E1 Z1 H1 v w1 st1 r1 h1 => by
    rw [hK]
    split at h1
    · obtain ⟨a, vs, rfl, hs, rs⟩ := r1.lst
      refine ⟨a, vs, rfl, .inl hs, fun p hp => ?_⟩
      obtain ⟨st2, w2⟩ := w1.push hp rs
      exact post _ E1 Z1 _ _ w2 (st1.trans st2) h1
    · obtain ⟨a, vs, rfl, hs, rs⟩ := r1.tup
      refine ⟨a, vs, rfl, .inr hs, fun p hp => ?_⟩
      obtain ⟨st2, w2⟩ := w1.push hp rs
      exact post _ E1 Z1 _ _ w2 (st1.trans st2) h1
    · obtain ⟨a, vs, rfl, hs, rs⟩ := r1.scr
      refine ⟨a, vs, rfl, .inl hs, fun p hp => ?_⟩
      obtain ⟨st2, w2⟩ := w1.push hp rs
      exact post _ E1 Z1 _ _ w2 (st1.trans st2) h1
    · cases h1⟩
/-- tuple(x) of a list (a new tuple), of a tuple (itself) -/
def oTupOf : D → (D → Prop) → Prop := fun d q => match d with
  | .lst ds => q (.tup ds)
  | .tup ds => q (.tup ds)
  | _ => False
theorem de_tuple {x : Str} {e : Expr} {t : TD} {p : Pos} (hm : X.mg x = none) (he : DB C X e t) (hv : bootBuiltins x = some (.type "tuple") := by first | rfl | decide +kernel) (hg : Gl X x := by rfl) (hn : x ≠ "__name__" := by decide) (hdb : (x == ("__debug__" : Str)) = false := by decide)
    (hs : starEach [e] X.env = (false, eval e X.env) :: starEach [] X.env := by rfl) (hpl : (backTo pos (starEach [] X.env)).any (·.1) = false := by rfl) (hK : X.K = C.K := by rfl) : DE C X (.Call (.Name x p) [e] [] pos) (tUn1 oTupOf t) :=
  (pe_callTy call_tuple_of hg hm hv (pa_cons he pa_nil hs) hn hdb hs hpl).imp fun σ H Q ⟨ps, Ep, E, Z, Qd, w, h, post⟩ => ⟨ps, Ep, E, Z, _, w, h, fun d E1 Z1 H1 v w1 st1 r1 h1 => by
    rw [hK]
    unfold oTupOf at h1
    split at h1
    · obtain ⟨a, vs, rfl, hs, rs⟩ := r1.lst
      refine ⟨a, vs, rfl, .inl ⟨hs, fun p hp => ?_⟩⟩
      have st2 := Stp.new (o := .tup vs) w1.zt hp
      exact post _ E1 Z1 _ _ (w1.new hp) (st1.trans st2) (.tup (.of upd_same) (rs.mono st2)) h1
    · obtain ⟨a, vs, rfl, hs, rs⟩ := r1.tup
      exact ⟨a, vs, rfl, .inr ⟨hs, post _ E1 Z1 _ _ w1 st1 (.tup hs rs) h1⟩⟩
    · cases h1⟩
/-- min, max of two ints -/
def oMx2 : O2 := oI (iInt fun i j => if j > i then j else i)
def oMn2 : O2 := oI (iInt fun i j => if j < i then j else i)
theorem de_b2 {id : String} {x : Str} {a b : Expr} {ta tb : TD} {o : O2} {r : R2} {p : Pos} (hc : CallR X (.builtin id) (fun xs H Q => ∃ v w, xs = [v, w] ∧ r v w H Q)) (m : Meets C o r) (hm : X.mg x = none) (ha : DE C X a ta) (hb : DE C X b tb) (hv : bootBuiltins x = some (.builtin id) := by first | rfl | decide +kernel) (hg : Gl X x := by rfl) (hn : x ≠ "__name__" := by decide)
    (hdb : (x == ("__debug__" : Str)) = false := by decide) (hs : starEach [a, b] X.env = (false, eval a X.env) :: starEach [b] X.env := by rfl) (hs2 : starEach [b] X.env = (false, eval b X.env) :: starEach [] X.env := by rfl) (hpl : (backTo pos (starEach [b] X.env)).any (·.1) = false := by rfl) :
    DE C X (.Call (.Name x p) [a, b] [] pos) (tOp2 o ta tb) :=
  (pe_callB hc hg hm hv (pa_cons ha (pa_cons hb pa_nil hs2) hs) hn hdb hs hpl).imp fun σ H Q h => by
    have q := op2_imp m σ H Q h
    obtain ⟨ps, Ep, E, Z, Qd, w, h, post⟩ := q
    refine ⟨ps, Ep, E, Z, Qd, w, h, fun d E1 Z1 H1 v w1 st1 r1 h1 => ?_⟩
    obtain ⟨ps, Ep, E, Z, Qd, w, h, post⟩ := post d E1 Z1 H1 v w1 st1 r1 h1
    exact ⟨ps, Ep, E, Z, Qd, w, h, fun d E1 Z1 H1 v w1 st1 r1 h1 => ⟨_, _, rfl, post d E1 Z1 H1 v w1 st1 r1 h1⟩⟩
theorem b_max2 (hc : X.calm = true := by rfl) : CallR X (.builtin "max") (fun xs H Q => ∃ v w, xs = [v, w] ∧ rI0 (fun i j => .int (if j > i then j else i)) v w H Q) := fun pins s σ H xs us Q I r ⟨v, w, e, i, j, e1, e2, q⟩ => by
  subst e e1 e2
  exact call_max2 hc pins s σ H _ us Q I r ⟨i, j, rfl, q⟩
theorem b_min2 (hc : X.calm = true := by rfl) : CallR X (.builtin "min") (fun xs H Q => ∃ v w, xs = [v, w] ∧ rI0 (fun i j => .int (if j < i then j else i)) v w H Q) := fun pins s σ H xs us Q I r ⟨v, w, e, i, j, e1, e2, q⟩ => by
  subst e e1 e2
  exact call_min2 hc pins s σ H _ us Q I r ⟨i, j, rfl, q⟩
/-- list(range(..)) -/
def tRgL1 (t : TD) : TN := fun E Q => t E fun d E1 => match d with
  | .int j => RgOk 0 j ∧ Q (.lst (rng 0 j)) E1
  | _ => False
def tRgL2 (t u : TD) : TN := fun E Q => t E fun d E1 => u E1 fun e E2 => match d, e with
  | .int i, .int j => RgOk i j ∧ Q (.lst (rng i j)) E2
  | _, _ => False
theorem reps_rng {K : Frg} {Z : Addr → Prop} {H : Hp} (i j : Int) : Reps K Z H (rgV i j) (rng i j) := by
  have main : ∀ l : List Nat, Reps K Z H (l.map fun k : Nat => V.int (i + (k : Int))) (l.map fun k : Nat => D.int (i + (k : Int))) := fun l => by
    induction l with
    | nil => exact .nil
    | cons a l ih => exact .cons (.int _) ih
  exact main _
theorem dn_rg1 {a : Expr} {t : TD} {p p1 p2 : Pos} (hml : X.mg "list" = none) (hm : X.mg "range" = none) (ha : DE C X a t) (hgl : Gl X "list" := by rfl) (hg : Gl X "range" := by rfl) (hc : X.calm = true := by rfl) (na : starEach [a] X.env = (false, eval a X.env) :: starEach [] X.env := by rfl)
    (nb : starEach [.Call (.Name "range" p1) [a] [] p2] X.env = (false, eval (.Call (.Name "range" p1) [a] [] p2) X.env) :: starEach [] X.env := by rfl) : DN C X (.Call (.Name "list" p) [.Call (.Name "range" p1) [a] [] p2] [] pos) (tRgL1 t) :=
  (pe_listRg hc hgl hml (prg_1 hg hm ha na) nb).imp fun σ H Q ⟨ps, Ep, E, Z, Qd, w, h, post⟩ => ⟨ps, Ep, E, Z, _, w, h, fun d E1 Z1 H1 v w1 st1 r1 h1 => by
    split at h1
    · obtain ⟨ok, h1⟩ := h1
      cases r1
      refine ⟨_, rfl, ok, fun p hp => ?_⟩
      obtain ⟨st2, w2⟩ := w1.push hp (reps_rng 0 _)
      exact post _ E1 Z1 _ _ w2 (st1.trans st2) h1
    · cases h1⟩
theorem dn_rg2 {a b : Expr} {t u : TD} {p p1 p2 : Pos} (hml : X.mg "list" = none) (hm : X.mg "range" = none) (ha : DE C X a t) (hb : DE C X b u) (hgl : Gl X "list" := by rfl) (hg : Gl X "range" := by rfl) (hc : X.calm = true := by rfl) (na : starEach [a, b] X.env = (false, eval a X.env) :: starEach [b] X.env := by rfl) (nb' : starEach [b] X.env = (false, eval b X.env) :: starEach [] X.env := by rfl)
    (hpl : (backTo p2 (starEach [b] X.env)).any (·.1) = false := by rfl)
    (nb : starEach [.Call (.Name "range" p1) [a, b] [] p2] X.env = (false, eval (.Call (.Name "range" p1) [a, b] [] p2) X.env) :: starEach [] X.env := by rfl) : DN C X (.Call (.Name "list" p) [.Call (.Name "range" p1) [a, b] [] p2] [] pos) (tRgL2 t u) :=
  (pe_listRg hc hgl hml (prg_2 hg hm ha hb na nb' hpl) nb).imp fun σ H Q ⟨ps, Ep, E, Z, Qd, w, h, post⟩ => ⟨ps, Ep, E, Z, _, w, h, fun d E1 Z1 H1 v w1 st1 r1 h1 => ⟨ps, Ep, E1, Z1, _, w1, h1, fun e E2 Z2 H2 v2 w2 st2 r2 h2 => by
    split at h2
    · obtain ⟨ok, h2⟩ := h2
      cases r1; cases r2
      refine ⟨_, _, rfl, rfl, ok, fun p hp => ?_⟩
      obtain ⟨st3, w3⟩ := w2.push hp (reps_rng _ _)
      exact post _ E2 Z2 _ _ w3 (st1.trans (st2.trans st3)) h2
    · cases h2⟩⟩
/-- xs + ys: a new list -/
def tCatL (t u : TD) : TN := fun E Q => t E fun x E1 => u E1 fun y E2 => match x, y with
  | .lst ds, .lst es => ds.length + es.length ≤ sizeLine ∧ Q (.lst (ds ++ es)) E2
  | _, _ => False
def rCatR : R2 := fun x y H Q => ∃ l b xs zs, x = .ref l ∧ y = .ref b ∧ Rd H l (.lst xs) ∧ Rd H b (.lst zs) ∧ xs.length + zs.length ≤ sizeLine ∧ ∀ p, H p = none → Q (.ref p) (upd H p (.lst (xs ++ zs)))
theorem op_catR : OpR X (binaryOp .Add) rCatR := by
  intro pins s σ H x y v u Q I rx ry h
  obtain ⟨l, b, xs, zs, rfl, rfl, hH, hB, hz, q⟩ := h
  cases rx
  cases ry
  obtain ⟨z, its, n, r, e⟩ := hH.ok I.hok
  obtain ⟨z2, its2, n2, r2, e2⟩ := hB.ok I.hok
  have l1 := r.length
  have l2 := r2.length
  refine PySem.P.add_list e e2 ?_ (by rw [List.size_toArray, List.size_toArray]; omega)
  have ea : its.toArray ++ its2.toArray = (its ++ its2).toArray := by simp
  rw [ea]
  exact ⟨.ref _, _, I.lnew (t' := s.toks) (r.append r2) (by rw [List.length_append]; omega), rfl, q _ I.fresh⟩
theorem dn_cat {a b : Expr} {ta tb : TD} (ha : DE C X a ta) (hb : DB C X b tb) : DN C X (.BinOp a .Add b pos) (tCatL ta tb) :=
  (pe_op op_catR ha hb).imp fun σ H Q ⟨ps, Ep, E, Z, Qd, w, h, post⟩ => ⟨ps, Ep, E, Z, _, w, h, fun x E1 Z1 H1 v w1 st1 r1 h1 => ⟨ps, Ep, E1, Z1, _, w1, h1, fun y E2 Z2 H2 u w2 st2 r2 h2 => by
    split at h2
    · obtain ⟨hz, h2⟩ := h2
      cases r1 with
      | lst hs rs =>
        obtain ⟨b, zs, rfl, hs2, rs2⟩ : ∃ b zs, u = .ref b ∧ Rd H2 b (.lst zs) ∧ Reps C.K Z2 H2 zs _ := by
          rcases r2 with r2 | ⟨t, F, r2, e⟩
          · cases r2 with
            | lst h hs => exact ⟨_, _, rfl, h.rd, hs⟩
          · cases r2 with
            | fr h =>
              rw [show (T.fr _).fz = _ from rfl] at e
              subst e
              cases h with
              | lst h hs => exact ⟨_, _, rfl, h.rd, hs⟩
            | lst h hs => cases e; exact ⟨_, _, rfl, .inl h, hs⟩
            | dic h e1 hs => cases e
            | obj h e1 hs => cases e
        have rs1 := rs.mono st2
        refine ⟨_, _, _, _, rfl, rfl, (hs.mono st2).rd, hs2, by rw [rs1.length, rs2.length]; exact hz, fun p hp => ?_⟩
        obtain ⟨st3, w3⟩ := w2.push hp (rs1.append rs2)
        exact post _ E2 Z2 _ _ w3 (st1.trans (st2.trans st3)) h2
    · cases h2⟩⟩
/-! ### sorted -/
def sortD (ds : List D) : List D := ds.mergeSort (PySem.W.dataLe false D.py)
/-- a list that sorted takes -/
structure SortOk (ds : List D) : Prop where
  al : PySem.W.AllAlike (ds.map D.py)
  so : PySem.W.Sortable (ds.map D.py)
  ln : ds.length ≤ sizeLine
  sh : ∀ d ∈ ds, d.shp = true
def tSortD (t : TD) : TN := fun E Q => t E fun d E1 => match d with
  | .lst ds => SortOk ds ∧ Q (.lst (sortD ds)) E1
  | _ => False
def rSortD (K : Frg) : List V → Hp → VK → Prop := fun vs H Q => ∃ (a : Addr) (ys : List V) (ds : List D), vs = [V.ref a] ∧ SqL K H a ys ∧ SortOk ds ∧ EachIs' K H ys ds ∧ ∀ zs p, (∀ (Z : Addr → Prop), Reps K Z H ys ds → Reps K Z H zs (sortD ds)) → zs.length ≤ sizeLine → H p = none → Q (.ref p) (upd H p (.lst zs))
where EachIs' (K : Frg) (H : Hp) (ys : List V) (ds : List D) : Prop := DpAll K H ys (D.pys ds)
theorem each_of {R : Value → V × D → Prop} : ∀ {ys : List V} {us : List Value} {ds : List D}, Vals ys us → ys.length = ds.length → (∀ (i : Nat) y u d, ys[i]? = some y → us[i]? = some u → ds[i]? = some d → R u (y, d)) → PySem.W.EachIs R us (ys.zip ds)
  | _, _, [], .nil, _, _ => .nil
  | _, _, _ :: _, .nil, h, _ => by cases h
  | _, _, [], .cons _ _, h, _ => by cases h
  | y :: ys, u :: us, d :: ds, .cons r t, h, k => .cons (k 0 y u d rfl rfl rfl) (each_of t (by simpa using h) fun i y u d e1 e2 e3 => k (i + 1) y u d e1 e2 e3)
theorem vals_fst {R : Value → V × D → Prop} (hR : ∀ u p, R u p → RelV p.1 u) : ∀ {us : List Value} {ps : List (V × D)}, PySem.W.EachIs R us ps → Vals (ps.map (·.1)) us
  | _, _, .nil => .nil
  | _, _, .cons r t => .cons (hR _ _ r) (vals_fst hR t)
theorem reps_of_mem {K : Frg} {Z : Addr → Prop} {H : Hp} : ∀ {ps : List (V × D)}, (∀ p ∈ ps, Rep K Z H p.1 p.2) → Reps K Z H (ps.map (·.1)) (ps.map (·.2))
  | [], _ => .nil
  | p :: ps, h => .cons (h p (List.mem_cons_self)) (reps_of_mem fun q hq => h q (List.mem_cons_of_mem _ hq))
theorem zip_mem {K : Frg} {Z : Addr → Prop} {H : Hp} : ∀ {vs : List V} {ds : List D}, Reps K Z H vs ds → ∀ p ∈ vs.zip ds, Rep K Z H p.1 p.2
  | _, _, .nil, p, h => by cases h
  | _, _, .cons r t, p, h => by
    rcases List.mem_cons.mp h with e | h
    · subst e; exact r
    · exact zip_mem t p h
theorem zip_snd : ∀ {vs : List V} {ds : List D}, vs.length = ds.length → (vs.zip ds).map (·.2) = ds
  | [], [], _ => rfl
  | [], _ :: _, h => by cases h
  | _ :: _, [], h => by cases h
  | v :: vs, d :: ds, h => by rw [List.zip_cons_cons, List.map_cons, zip_snd (vs := vs) (by simpa using h)]
theorem cr_sortD (hu : X.A.units + 70 < cLine) : CallR X (.builtin "sorted") (rSortD X.K) := by
  intro pins s σ H vs us Q I r h
  obtain ⟨a, ys, ds, rfl, hs, ok, dp, q⟩ := h
  obtain ⟨its, rv, hl, hz⟩ := I.list hs
  rw [Vals.ref1 r]
  obtain ⟨as, rd⟩ := Dp.readsAll I (D.pys ds) ys its dp rv
  have hlen : ys.length = ds.length := by
    have := SeqAt.ReadsAll.length _ _ _ rd
    rw [pys_map, List.length_map] at this
    have := rv.length
    omega
  have er : PySem.W.EachIs (fun u (p : V × D) => RelV p.1 u ∧ ∃ as, Reads s.heap u p.2.py as) its (ys.zip ds) := each_of rv hlen fun i y u d e1 e2 e3 => by
    refine ⟨?_, ?_⟩
    · obtain ⟨u', e4, r4⟩ := rv.get e1
      rw [e2] at e4; cases e4
      exact r4
    · have main : ∀ {us : List Value} {es : List PyData} {as : List Addr} (i : Nat) {u : Value} {e : PyData}, ReadsAll s.heap us es as → us[i]? = some u → es[i]? = some e → ∃ as, Reads s.heap u e as := by
        intro us es as i u e h
        induction i generalizing us es as with
        | zero =>
          cases h with
          | nil => intro q; cases q
          | cons h1 h2 => intro q1 q2; cases q1; cases q2; exact ⟨_, h1⟩
        | succ i ih =>
          cases h with
          | nil => intro q; cases q
          | cons h1 h2 => intro q1 q2; exact ih h2 (by simpa using q1) (by simpa using q2)
      refine main i rd e2 ?_
      rw [pys_map, List.getElem?_map, e3]
      rfl
  have es : (ys.zip ds).map (fun p : V × D => p.2.py) = ds.map D.py := by
    rw [show (fun p : V × D => p.2.py) = D.py ∘ (·.2) from rfl, ← List.map_map, zip_snd hlen]
  refine PySem.W.sorted_data (enc := fun p : V × D => p.2.py) hl.isList er (er.mono fun _ _ h => h.2) (by rw [es]; exact ok.al) (by rw [es]; exact ok.so) (by rw [List.length_zip]; have := ok.ln; omega) (fun p hp => ?_) fun out ho eo => ?_
  · have : p.2 ∈ ds := by
      have : p.2 ∈ (ys.zip ds).map (·.2) := List.mem_map.mpr ⟨p, hp, rfl⟩
      rw [zip_snd hlen] at this
      exact this
    have hd := SeqAt.depth_of_shaped (ok.sh _ this)
    show X.A.units + 2 + p.2.py.depth < cLine
    omega
  · obtain ⟨ep, he'⟩ := PyProof.Rows.sortedAll_at s.heap its (List.toArray out)
    have hv := vals_fst (fun u p h => h.1) eo
    have hz2 : (((ys.zip ds).mergeSort (PySem.W.dataLe false fun p : V × D => p.2.py)).map (·.1)).length ≤ sizeLine := by
      rw [List.length_map, List.length_mergeSort, List.length_zip]
      have := ok.ln
      omega
    refine ⟨.ref _, upd H (s.heap.objs.size + 1) (.lst (((ys.zip ds).mergeSort (PySem.W.dataLe false fun p : V × D => p.2.py)).map (·.1))), I.laid (t' := s.toks) (fun _ _ => PyProof.Rows.sortedAll_old) (Nat.le_succ _) ⟨hz2, out, ep, hv, he'⟩, rfl, q _ _ (fun Z rz => ?_) hz2 (I.hok.fresh (Nat.le_succ _))⟩
    have e2 : ((ys.zip ds).mergeSort (PySem.W.dataLe false fun p : V × D => p.2.py)).map (·.2) = sortD ds := by
      unfold sortD
      have := PySem.W.sort_maps (r := PySem.W.dataLe false fun p : V × D => p.2.py) (s := PySem.W.dataLe false D.py) (fun p : V × D => p.2) (l := ys.zip ds) fun a _ b _ => rfl
      rw [zip_snd hlen] at this
      exact this
    rw [← e2]
    exact reps_of_mem fun p hp => zip_mem rz p (List.mem_mergeSort.mp hp)
theorem dn_sorted {x : Str} {e : Expr} {t : TD} {p : Pos} (hu : X.A.units + 70 < cLine) (hm : X.mg x = none) (he : DB C X e t) (hv : bootBuiltins x = some (.builtin "sorted") := by first | rfl | decide +kernel) (hg : Gl X x := by rfl) (hn : x ≠ "__name__" := by decide) (hdb : (x == ("__debug__" : Str)) = false := by decide)
    (hs : starEach [e] X.env = (false, eval e X.env) :: starEach [] X.env := by rfl) (hpl : (backTo pos (starEach [] X.env)).any (·.1) = false := by rfl) (hK : X.K = C.K := by rfl) : DN C X (.Call (.Name x p) [e] [] pos) (tSortD t) :=
  (pe_callB (cr_sortD hu) hg hm hv (pa_cons he pa_nil hs) hn hdb hs hpl).imp fun σ H Q ⟨ps, Ep, E, Z, Qd, w, h, post⟩ => ⟨ps, Ep, E, Z, _, w, h, fun d E1 Z1 H1 v w1 st1 r1 h1 => by
    rw [hK]
    split at h1
    · obtain ⟨ok, h1⟩ := h1
      obtain ⟨a, vs, rfl, hs, rs⟩ := r1.lst
      refine ⟨a, vs, _, rfl, hs, ok, rs.dp ?_, fun zs p hz _ hp => ?_⟩
      · have main : ∀ l : List D, (∀ d ∈ l, d.shp = true) → PyData.canLayAll0 (D.pys l) = true := by
          intro l
          induction l with
          | nil => intro _; rfl
          | cons d l ih => intro hd; exact Bool.and_eq_true_iff.mpr ⟨shp_lay (hd d List.mem_cons_self), ih fun e he => hd e (List.mem_cons_of_mem _ he)⟩
        exact main _ ok.sh
      · obtain ⟨st2, w2⟩ := w1.push hp (hz Z1 rs)
        exact post _ E1 Z1 _ _ w2 (st1.trans st2) h1
    · cases h1⟩

/-! ### x in xs -/
def oIn : O2 := fun x c q => match c with
  | .lst ds => (x.shp = true ∧ (D.lst ds).shp = true) ∧ q (.bl (ds.any fun z => z.eqv x))
  | .tup ds => (x.shp = true ∧ (D.tup ds).shp = true) ∧ q (.bl (ds.any fun z => z.eqv x))
  | .str y => (match x with | .str z => q (.bl (!(Builtin.Str.occurrences y z 0 y.length 1).isEmpty)) | _ => False)
  | _ => False
def oNin : O2 := fun x c q => match c with
  | .lst ds => (x.shp = true ∧ (D.lst ds).shp = true) ∧ q (.bl (!ds.any fun z => z.eqv x))
  | .tup ds => (x.shp = true ∧ (D.tup ds).shp = true) ∧ q (.bl (!ds.any fun z => z.eqv x))
  | .str y => (match x with | .str z => q (.bl (!(!(Builtin.Str.occurrences y z 0 y.length 1).isEmpty))) | _ => False)
  | _ => False
def rInTD (K : Frg) : R2 := fun x y H Q => ∃ d ds, Dp K H x d ∧ Dp K H y (.tuple ds) ∧ SeqAt.shaped d = true ∧ SeqAt.shaped (.tuple ds) = true ∧ Q (.bl (ds.any fun z => PyData.eqv z d)) H
def rNotInTD (K : Frg) : R2 := fun x y H Q => ∃ d ds, Dp K H x d ∧ Dp K H y (.tuple ds) ∧ SeqAt.shaped d = true ∧ SeqAt.shaped (.tuple ds) = true ∧ Q (.bl (!ds.any fun z => PyData.eqv z d)) H
theorem op_inTD (hu : X.A.units + 65 < cLine) : OpR X (compareOp .In) (rInTD X.K) := by
  intro pins s σ H x y v u Q I rx ry h
  obtain ⟨d, ds, hd, he, sd, se, q⟩ := h
  obtain ⟨as, r1⟩ := Dp.reads I d x v hd rx
  obtain ⟨bs, r2⟩ := Dp.reads I (.tuple ds) y u he ry
  exact SeqAt.in_tuple_reads r2 r1 (SeqAt.canLay_of_shaped se) (SeqAt.canLay_of_shaped sd) (room_in_shaped sd hu) ⟨.bl _, H, I, rfl, q⟩
theorem op_notInTD (hu : X.A.units + 65 < cLine) : OpR X (compareOp .NotIn) (rNotInTD X.K) := by
  intro pins s σ H x y v u Q I rx ry h
  obtain ⟨d, ds, hd, he, sd, se, q⟩ := h
  obtain ⟨as, r1⟩ := Dp.reads I d x v hd rx
  obtain ⟨bs, r2⟩ := Dp.reads I (.tuple ds) y u he ry
  exact SeqAt.notIn_tuple_reads r2 r1 (SeqAt.canLay_of_shaped se) (SeqAt.canLay_of_shaped sd) (room_in_shaped sd hu) ⟨.bl _, H, I, rfl, q⟩
def rInA (K : Frg) : R2 := fun x y H Q => rInD K x y H Q ∨ rInTD K x y H Q ∨ ∃ i j, x = .str i ∧ y = .str j ∧ Q (.bl (!(Builtin.Str.occurrences j i 0 j.length 1).isEmpty)) H
def rNinA (K : Frg) : R2 := fun x y H Q => rNotInD K x y H Q ∨ rNotInTD K x y H Q ∨ ∃ i j, x = .str i ∧ y = .str j ∧ Q (.bl (!(!(Builtin.Str.occurrences j i 0 j.length 1).isEmpty))) H
theorem any_eqv (ds : List D) (x : D) : (D.pys ds).any (fun z => PyData.eqv z x.py) = ds.any fun z => z.eqv x := by
  rw [pys_map, List.any_map]
  rfl
/-- the right operand may be an owned list, only looked at -/
theorem inB_imp {o : O2} {r : R2} (m : ∀ (Z : Addr → Prop) (H : Hp) (v w : V) (x y : D) (q : D → Prop) (Q : VK), Rep C.K Z H v x → BRep C.K Z H w y → o x y q → (∀ z d, Rep C.K Z H z d → q d → Q z H) → r v w H Q) {ta tb : TD} (σ : Sg) (H : Hp) (Q : VK) (h : teOf C (tOp2 o ta tb) σ H Q) :
    tOp r (teOf C ta) (tbOf C tb) σ H Q := by
  obtain ⟨ps, Ep, E, Z, Qd, w, h, post⟩ := h
  exact ⟨ps, Ep, E, Z, _, w, h, fun x E1 Z1 H1 v w1 st1 r1 h1 => ⟨ps, Ep, E1, Z1, _, w1, h1, fun y E2 Z2 H2 u w2 st2 r2 h2 => m Z2 H2 v u x y _ Q (r1.mono st2) r2 h2 fun z d rz q => post d E2 Z2 H2 z w2 (st1.trans st2) rz q⟩⟩
theorem m_in {Z : Addr → Prop} {H : Hp} {v w : V} {x y : D} {q : D → Prop} {Q : VK} (rx : Rep C.K Z H v x) (ry : BRep C.K Z H w y) (h : oIn x y q) (k : ∀ z d, Rep C.K Z H z d → q d → Q z H) : rInA C.K v w H Q := by
  unfold oIn at h
  split at h
  · obtain ⟨⟨h1, h2⟩, h⟩ := h
    refine .inl ⟨_, _, rx.dp (shp_lay h1), ry.dp (shp_lay h2), h1, h2, k _ _ ?_ h⟩
    rw [any_eqv]; exact .bl _
  · obtain ⟨⟨h1, h2⟩, h⟩ := h
    refine .inr (.inl ⟨_, _, rx.dp (shp_lay h1), ry.dp (shp_lay h2), h1, h2, k _ _ ?_ h⟩)
    rw [any_eqv]; exact .bl _
  · split at h
    · cases rx
      cases ry.str
      exact .inr (.inr ⟨_, _, rfl, rfl, k _ _ (.bl _) h⟩)
    · cases h
  · cases h
theorem m_nin {Z : Addr → Prop} {H : Hp} {v w : V} {x y : D} {q : D → Prop} {Q : VK} (rx : Rep C.K Z H v x) (ry : BRep C.K Z H w y) (h : oNin x y q) (k : ∀ z d, Rep C.K Z H z d → q d → Q z H) : rNinA C.K v w H Q := by
  unfold oNin at h
  split at h
  · obtain ⟨⟨h1, h2⟩, h⟩ := h
    refine .inl ⟨_, _, rx.dp (shp_lay h1), ry.dp (shp_lay h2), h1, h2, k _ _ ?_ h⟩
    rw [any_eqv]; exact .bl _
  · obtain ⟨⟨h1, h2⟩, h⟩ := h
    refine .inr (.inl ⟨_, _, rx.dp (shp_lay h1), ry.dp (shp_lay h2), h1, h2, k _ _ ?_ h⟩)
    rw [any_eqv]; exact .bl _
  · split at h
    · cases rx
      cases ry.str
      exact .inr (.inr ⟨_, _, rfl, rfl, k _ _ (.bl _) h⟩)
    · cases h
  · cases h
theorem de_in {a b : Expr} {ta tb : TD} (hu : X.A.units + 65 < cLine) (ha : DE C X a ta) (hb : DB C X b tb) (hm : behindInMarks .In b = false := by rfl) (hK : X.K = C.K := by rfl) : DE C X (.Compare a [.In] [b] pos) (tOp2 oIn ta tb) :=
  (pe_cmpR ((op_inD hu).or ((op_inTD hu).or op_in_str)) ha hb hm).imp fun σ H Q h => by
    rw [hK]
    exact inB_imp (r := rInA C.K) (fun Z H v w x y q Q rx ry h k => m_in rx ry h k) σ H Q h
theorem de_nin {a b : Expr} {ta tb : TD} (hu : X.A.units + 65 < cLine) (ha : DE C X a ta) (hb : DB C X b tb) (hm : behindInMarks .NotIn b = false := by rfl) (hK : X.K = C.K := by rfl) : DE C X (.Compare a [.NotIn] [b] pos) (tOp2 oNin ta tb) :=
  (pe_cmpR ((op_notInD hu).or ((op_notInTD hu).or op_notIn_str)) ha hb hm).imp fun σ H Q h => by
    rw [hK]
    exact inB_imp (r := rNinA C.K) (fun Z H v w x y q Q rx ry h k => m_nin rx ry h k) σ H Q h
theorem testB {o : O2} {r : R2} (m : ∀ (Z : Addr → Prop) (H : Hp) (v w : V) (x y : D) (q : D → Prop) (Q : VK), Rep C.K Z H v x → BRep C.K Z H w y → o x y q → (∀ z d, Rep C.K Z H z d → q d → Q z H) → r v w H Q) {ta tb : TD} (σ : Sg) (H : Hp) (Q : Bool → Hp → Prop) (h : ttOf C (tOp2B o ta tb) σ H Q) :
    tTest (tOp r (teOf C ta) (tbOf C tb)) σ H Q := by
  obtain ⟨ps, Ep, E, Z, Qd, w, h, post⟩ := h
  exact ⟨ps, Ep, E, Z, _, w, h, fun x E1 Z1 H1 v w1 st1 r1 h1 => ⟨ps, Ep, E1, Z1, _, w1, h1, fun y E2 Z2 H2 u w2 st2 r2 h2 => m Z2 H2 v u x y _ _ (r1.mono st2) r2 h2 fun z d rz q => by
    cases rz with
    | bl k => exact ⟨k, rfl, post k E2 Z2 H2 w2 (st1.trans st2) q⟩
    | _ => cases q⟩⟩
theorem dt_in {a b : Expr} {ta tb : TD} (hu : X.A.units + 65 < cLine) (ha : DE C X a ta) (hb : DB C X b tb) (hm : behindInMarks .In b = false := by rfl) (hK : X.K = C.K := by rfl) : DT C X (.Compare a [.In] [b] pos) (tOp2B oIn ta tb) :=
  (pt_cmpR ((op_inD hu).or ((op_inTD hu).or op_in_str)) ha hb hm).imp fun σ H Q h => by
    rw [hK]
    exact testB (r := rInA C.K) (fun Z H v w x y q Q rx ry h k => m_in rx ry h k) σ H Q h
theorem dt_nin {a b : Expr} {ta tb : TD} (hu : X.A.units + 65 < cLine) (ha : DE C X a ta) (hb : DB C X b tb) (hm : behindInMarks .NotIn b = false := by rfl) (hK : X.K = C.K := by rfl) : DT C X (.Compare a [.NotIn] [b] pos) (tOp2B oNin ta tb) :=
  (pt_cmpR ((op_notInD hu).or ((op_notInTD hu).or op_notIn_str)) ha hb hm).imp fun σ H Q h => by
    rw [hK]
    exact testB (r := rNinA C.K) (fun Z H v w x y q Q rx ry h k => m_nin rx ry h k) σ H Q h
end
end DL
set_option Elab.async false
set_option linter.all false
set_option maxRecDepth 100000
set_option maxHeartbeats 4000000
/-! DL, part i: defs of the text, a law's end. -/
namespace DL
open PySem PySem.Spec PyProof.Rows L2

/-- a def of the text as it stands behind the top -/
structure Dn (K : Frg) (mg : Str → Option Value) (x : Str) (st : Stmt) (prs : List Str) (f : Addr) (fd : FuncData) : Prop where
  F : Fun K x x st f fd
  m : mg x = some (.ref f)
  b : Binds K fd prs []
section
variable {C : Ctx} {X : Cx} {pos : Pos} {CX : CXT} {k n : Nat} {f : Addr} {fd : FuncData} {prs : List Str} {sd : SpD} {Ex : XK} {x : Str} {st : Stmt} {p : Pos} {e : Expr} {es : List Expr} {ta : TAm}
theorem dcall (G : FnOk X.prog X.w X.K X.mg X.base CX k f fd prs (spD X.K n sd)) (Dn' : Dn X.K X.mg x st prs f fd) (hr : Room k X.A) (ha : DM C X (e :: es) ta) (hx : Passes CX X Ex := by exact pass0) (hg : Gl X x := by rfl) (hn : n = (e :: es).length := by rfl) (hK : X.K = C.K := by rfl)
    (hdb : (x == ("__debug__" : Str)) = false := by decide) (he : starEach (e :: es) X.env = (false, eval e X.env) :: starEach es X.env := by rfl) (hpl : (backTo pos (starEach es X.env)).any (·.1) = false := by rfl) :
    DE C X (.Call (.Name x p) (e :: es) [] pos) (tCallD sd ta) := de_call G hr Dn'.m Dn'.F.kp Dn'.b ha hx hg hn hK hdb he hpl
theorem dcalln (G : FnOk X.prog X.w X.K X.mg X.base CX k f fd prs (spD X.K n sd)) (Dn' : Dn X.K X.mg x st prs f fd) (hr : Room k X.A) (ha : DM C X (e :: es) ta) (hx : Passes CX X Ex := by exact pass0) (hg : Gl X x := by rfl) (hn : n = (e :: es).length := by rfl) (hK : X.K = C.K := by rfl)
    (hdb : (x == ("__debug__" : Str)) = false := by decide) (he : starEach (e :: es) X.env = (false, eval e X.env) :: starEach es X.env := by rfl) (hpl : (backTo pos (starEach es X.env)).any (·.1) = false := by rfl) :
    DN C X (.Call (.Name x p) (e :: es) [] pos) (tCallN sd ta) := dn_call G hr Dn'.m Dn'.F.kp Dn'.b ha hx hg hn hK hdb he hpl
end
/-- the law's own promise -/
def sdLaw : SpD := fun args Q => ∃ ns : List Int, args = [.fr (.scr (ns.map D.int))] ∧ ns.length ≤ 63 ∧ Q (.fr (.bl true)) [.un]
theorem law_sp {K : Frg} {H : Hp} {a : Addr} {ns : List Int} {Ex : XK} (hl : ns.length ≤ 63) (h : SqL K H a (ns.map V.int)) : spD K 1 sdLaw [.ref a] H (fun v _ => v = .bl true) Ex := by
  have reps : ∀ (Z : Addr → Prop) (l : List Int), Reps K Z H (l.map V.int) (l.map D.int) := fun Z l => by
    induction l with
    | nil => exact .nil
    | cons a l ih => exact .cons (.int _) ih
  refine ⟨fun b => b = a ∧ H a = some (.lst (ns.map V.int)), [.fr (.scr (ns.map D.int))], fun _ => [], fun r _ => r = .fr (.bl true), rfl, ⟨rfl, fun i s e => ?_, fun _ _ => rfl, fun _ => List.nodup_nil, fun i j b h => (by cases h)⟩, fun i b h => (by cases h), fun b h => ?_, fun i t e => ?_, ⟨ns, rfl, hl, rfl⟩, fun r Em Z' H' v R e => ?_⟩
  · cases i with
    | zero =>
      cases e
      refine ⟨rfl, .ref a, rfl, .scr ?_ (reps _ _)⟩
      rcases h with (h | ⟨o, h⟩) | h
      · exact .inl (.inl ⟨⟨rfl, h⟩, h⟩)
      · exact .inl (.inr ⟨o, h⟩)
      · exact .inr h
    | succ i => simp at e
  · rw [h.1, h.2]; intro q; cases q
  · cases i with
    | zero => cases e
    | succ i => simp at e
  · subst e
    obtain ⟨_, r⟩ := R
    cases r
    rfl
theorem u65_of {k : Nat} {A : Around} (r : Room k A) : A.units + 65 < cLine := by have := r.un; omega
theorem u70_of {k : Nat} {A : Around} (r : Room k A) : A.units + 70 < cLine := by have := r.un; omega
/-! ### helpers for readings -/
theorem popMu {i : Nat} {E : List S} {Q : D → List S → Prop} {init : List D} {d : D} (e : E[i]? = some (.mu (.lst (init ++ [d])))) (q : Q d (E.set i (.mu (.lst init)))) : tPopL i E Q := by
  unfold tPopL lstAt
  rw [e]
  simp only [List.getLast?_concat, List.dropLast_concat]
  exact q
theorem popOw {i : Nat} {E : List S} {Q : D → List S → Prop} {init : List D} {d : D} (e : E[i]? = some (.ow (.lst (init ++ [d])))) (q : Q d (E.set i (.ow (.lst init)))) : tPopL i E Q := by
  unfold tPopL lstAt
  rw [e]
  simp only [List.getLast?_concat, List.dropLast_concat]
  exact q
theorem popMuI {i : Nat} {E : List S} {Q : D → List S → Prop} {init : List Int} {x : Int} (e : E[i]? = some (.mu (.lst ((init ++ [x]).map D.int)))) (q : Q (.int x) (E.set i (.mu (.lst (init.map D.int))))) : tPopL i E Q :=
  popMu (init := init.map D.int) (d := .int x) (by rw [e, List.map_append]; rfl) q
theorem popOwI {i : Nat} {E : List S} {Q : D → List S → Prop} {init : List Int} {x : Int} (e : E[i]? = some (.ow (.lst ((init ++ [x]).map D.int)))) (q : Q (.int x) (E.set i (.ow (.lst (init.map D.int))))) : tPopL i E Q :=
  popOw (init := init.map D.int) (d := .int x) (by rw [e, List.map_append]; rfl) q
theorem snoc_of_ne {α : Type} {l : List α} (h : l ≠ []) : ∃ init x, l = init ++ [x] := ⟨l.dropLast, l.getLast h, (List.dropLast_concat_getLast h).symm⟩
theorem cut_ints (ns : List Int) (lo hi : Option Int) : ∃ ms : List Int, cutD (ns.map D.int) lo hi = ms.map D.int ∧ ms.length ≤ ns.length := by
  refine ⟨(ns.drop (HT.sIx (ns.map D.int).length 0 lo)).take (HT.sIx (ns.map D.int).length (ns.map D.int).length hi - HT.sIx (ns.map D.int).length 0 lo), ?_, ?_⟩
  · unfold cutD
    rw [List.map_take, List.map_drop]
  · rw [List.length_take, List.length_drop]
    omega
end DL
set_option Elab.async false
set_option linter.all false
set_option maxRecDepth 100000
set_option maxHeartbeats 4000000
namespace K29
open PySem PySem.Spec PyProof.Rows L2 DL
def topS (i : Nat) : Stmt := PySem.Challenge.pw_retroact_k29_differences_of_calls.main.body.getD i (.Pass ⟨0, 0, 0, 0⟩)
abbrev s_l_mix : Stmt := topS 3
abbrev N_l_mix : List Str := ["_law_number", "_law_k"]
theorem sc_l_mix : FnScope N_l_mix ["_law_number", "_law_k"] (defScope s_l_mix) := ⟨rfl, rfl, rfl, by decide +kernel, rfl, by decide +kernel, by decide +kernel⟩
abbrev s_l_numbers : Stmt := topS 4
abbrev N_l_numbers : List Str := ["_law_script", "_law_count", "_law_row", "_law_base", "_law_cell", "_law_k", "_law_rest"]
theorem sc_l_numbers : FnScope N_l_numbers ["_law_script", "_law_count"] (defScope s_l_numbers) := ⟨rfl, rfl, rfl, by decide +kernel, rfl, by decide +kernel, by decide +kernel⟩
abbrev s_l_take : Stmt := topS 5
abbrev N_l_take : List Str := ["_law_row", "_law_bound"]
theorem sc_l_take : FnScope N_l_take ["_law_row", "_law_bound"] (defScope s_l_take) := ⟨rfl, rfl, rfl, by decide +kernel, rfl, by decide +kernel, by decide +kernel⟩
abbrev s_l_call : Stmt := topS 6
abbrev N_l_call : List Str := ["_law_row", "_law_keys", "_law_key", "_law_effect"]
theorem sc_l_call : FnScope N_l_call ["_law_row", "_law_keys"] (defScope s_l_call) := ⟨rfl, rfl, rfl, by decide +kernel, rfl, by decide +kernel, by decide +kernel⟩
abbrev s_l_calls : Stmt := topS 7
abbrev N_l_calls : List Str := ["_law_row", "_law_most", "_law_calls_here", "_law_k", "_law_call_here"]
theorem sc_l_calls : FnScope N_l_calls ["_law_row", "_law_most"] (defScope s_l_calls) := ⟨rfl, rfl, rfl, by decide +kernel, rfl, by decide +kernel, by decide +kernel⟩
abbrev s_l_near : Stmt := topS 11
abbrev N_l_near : List Str := ["_law_row", "_law_calls_here", "_law_found", "_law_call_here", "_law_key", "_law_effect", "_law_arguments", "_law_turn", "_law_one"]
theorem sc_l_near : FnScope N_l_near ["_law_row", "_law_calls_here"] (defScope s_l_near) := ⟨rfl, rfl, rfl, by decide +kernel, rfl, by decide +kernel, by decide +kernel⟩
abbrev s_difference : Stmt := topS 1
abbrev N_difference : List Str := ["past", "now", "same", "there", "here", "call"]
theorem sc_difference : FnScope N_difference ["past", "now"] (defScope s_difference) := ⟨rfl, rfl, rfl, by decide +kernel, rfl, by decide +kernel, by decide +kernel⟩
abbrev s_law : Stmt := topS 12
abbrev N_law : List Str := ["_law_script", "_law_row", "_law_past", "_law_now", "_law_due", "_law_given", "_law_call_here"]
theorem sc_law : FnScope N_law ["_law_script"] (defScope s_law) := ⟨rfl, rfl, rfl, by decide +kernel, rfl, by decide +kernel, by decide +kernel⟩
structure Tx (K : Frg) (mg : Str → Option Value) where
  f_l_mix : Addr
  fd_l_mix : FuncData
  d_l_mix : Dn K mg "_law_mix" s_l_mix ["_law_number", "_law_k"] f_l_mix fd_l_mix
  f_l_numbers : Addr
  fd_l_numbers : FuncData
  d_l_numbers : Dn K mg "_law_numbers" s_l_numbers ["_law_script", "_law_count"] f_l_numbers fd_l_numbers
  f_l_take : Addr
  fd_l_take : FuncData
  d_l_take : Dn K mg "_law_take" s_l_take ["_law_row", "_law_bound"] f_l_take fd_l_take
  f_l_call : Addr
  fd_l_call : FuncData
  d_l_call : Dn K mg "_law_call" s_l_call ["_law_row", "_law_keys"] f_l_call fd_l_call
  f_l_calls : Addr
  fd_l_calls : FuncData
  d_l_calls : Dn K mg "_law_calls" s_l_calls ["_law_row", "_law_most"] f_l_calls fd_l_calls
  f_l_near : Addr
  fd_l_near : FuncData
  d_l_near : Dn K mg "_law_near" s_l_near ["_law_row", "_law_calls_here"] f_l_near fd_l_near
  f_difference : Addr
  fd_difference : FuncData
  d_difference : Dn K mg "difference" s_difference ["past", "now"] f_difference fd_difference
  f_law : Addr
  fd_law : FuncData
  d_law : Dn K mg "law" s_law ["_law_script"] f_law fd_law
  m_sorted : mg "sorted" = none
  m_int : mg "int" = none
  m_range : mg "range" = none
  m_len : mg "len" = none
  m_list : mg "list" = none
variable {P : Program} {w : World} {K : Frg} {mg : Str → Option Value} {base : Heap}
end K29
set_option Elab.async false
set_option linter.all false
set_option maxRecDepth 100000
set_option maxHeartbeats 4000000
namespace K29
open PySem PySem.Spec PyProof.Rows L2 DL

inductive Eff where
  | pay | ship | tell
  deriving DecidableEq
def Eff.str : Eff → Str
  | .pay => "pay"
  | .ship => "ship"
  | .tell => "tell"
abbrev Ky := List Int × Int
structure Cl where
  k : Ky
  e : Eff
  as : List Int
  deriving DecidableEq
def ky (k : Ky) : D := .tup [.tup (k.1.map D.int), .int k.2]
def cl (c : Cl) : D := .tup [ky c.k, .str c.e.str, .tup (c.as.map D.int)]

theorem eqvAll_ints : ∀ ns ms : List Int, PyData.eqvAll (D.pys (ns.map D.int)) (D.pys (ms.map D.int)) = decide (ns = ms)
  | [], [] => rfl
  | [], _ :: _ => rfl
  | _ :: _, [] => rfl
  | n :: ns, m :: ms => by
    show ((n == m) && PyData.eqvAll (D.pys (ns.map D.int)) (D.pys (ms.map D.int))) = _
    rw [eqvAll_ints ns ms]
    by_cases h : n = m
    · subst h; simp
    · simp [h]
theorem str_inj : ∀ {e f : Eff}, (e.str == f.str) = decide (e = f) := by
  intro e f
  cases e <;> cases f <;> decide +kernel
theorem eqv_ky (a b : Ky) : (ky a).eqv (ky b) = decide (a = b) := by
  show (PyData.eqvAll (D.pys (a.1.map D.int)) (D.pys (b.1.map D.int)) && ((a.2 == b.2) && true)) = _
  rw [eqvAll_ints]
  obtain ⟨a1, a2⟩ := a
  obtain ⟨b1, b2⟩ := b
  by_cases h1 : a1 = b1 <;> by_cases h2 : a2 = b2 <;> simp [h1, h2]
theorem eqv_cl (a b : Cl) : (cl a).eqv (cl b) = decide (a = b) := by
  have e : (cl a).eqv (cl b) = ((ky a.k).eqv (ky b.k) && ((a.e.str == b.e.str) && (PyData.eqvAll (D.pys (a.as.map D.int)) (D.pys (b.as.map D.int)) && true))) := rfl
  rw [e, eqv_ky, str_inj, eqvAll_ints]
  obtain ⟨a1, a2, a3⟩ := a
  obtain ⟨b1, b2, b3⟩ := b
  by_cases h1 : a1 = b1 <;> by_cases h2 : a2 = b2 <;> by_cases h3 : a3 = b3 <;> simp [h1, h2, h3]
theorem lay_ints : ∀ ns : List Int, PyData.canLayAll0 (D.pys (ns.map D.int)) = true
  | [] => rfl
  | n :: ns => lay_ints ns
theorem dep_ints : ∀ ns : List Int, PyData.depthAll (D.pys (ns.map D.int)) = 0
  | [] => rfl
  | n :: ns => by
    show max 0 (PyData.depthAll (D.pys (ns.map D.int))) = 0
    rw [dep_ints ns]; rfl
theorem lay_ky (k : Ky) : (ky k).py.canLay0 = true := by
  show (PyData.canLayAll0 (D.pys (k.1.map D.int)) && (true && true)) = true
  rw [lay_ints]; rfl
theorem dep_ky (k : Ky) : (ky k).py.depth = 2 := by
  show max (PyData.depthAll (D.pys (k.1.map D.int)) + 1) (max 0 0) + 1 = 2
  rw [dep_ints]; rfl
theorem lay_cl (c : Cl) : (cl c).py.canLay0 = true := by
  have e : (cl c).py.canLay0 = ((ky c.k).py.canLay0 && (PyData.strOk c.e.str && (PyData.canLayAll0 (D.pys (c.as.map D.int)) && true))) := rfl
  rw [e, lay_ky, lay_ints]
  cases c.e <;> decide +kernel
theorem dep_cl (c : Cl) : (cl c).py.depth = 3 := by
  have e : (cl c).py.depth = max (ky c.k).py.depth (max 0 (max (PyData.depthAll (D.pys (c.as.map D.int)) + 1) 0)) + 1 := rfl
  rw [e, dep_ky, dep_ints]; rfl
theorem shp_of {d : D} (h1 : d.py.canLay0 = true) (h2 : d.py.depth ≤ 64) : d.shp = true := Bool.and_eq_true_iff.mpr ⟨h1, decide_eq_true h2⟩
theorem shp_ky (k : Ky) : (ky k).shp = true := shp_of (lay_ky k) (by rw [dep_ky]; decide)
theorem shp_cl (c : Cl) : (cl c).shp = true := shp_of (lay_cl c) (by rw [dep_cl]; decide)
theorem lay_list {α : Type} (f : α → D) (h : ∀ a, (f a).py.canLay0 = true) : ∀ l : List α, PyData.canLayAll0 (D.pys (l.map f)) = true
  | [] => rfl
  | a :: l => Bool.and_eq_true_iff.mpr ⟨h a, lay_list f h l⟩
theorem dep_list {α : Type} (f : α → D) {n : Nat} (h : ∀ a, (f a).py.depth ≤ n) : ∀ l : List α, PyData.depthAll (D.pys (l.map f)) ≤ n
  | [] => Nat.zero_le _
  | a :: l => Nat.max_le.mpr ⟨h a, dep_list f h l⟩
theorem shp_list {α : Type} (f : α → D) (h1 : ∀ a, (f a).py.canLay0 = true) (h2 : ∀ a, (f a).py.depth ≤ 60) (l : List α) : (D.lst (l.map f)).shp = true :=
  shp_of (lay_list f h1 l) (Nat.le_trans (Nat.succ_le_succ (dep_list f h2 l)) (by decide))
theorem shp_kys (l : List Ky) : (D.lst (l.map ky)).shp = true := shp_list ky lay_ky (fun k => by rw [dep_ky]; decide) l
theorem shp_cls (l : List Cl) : (D.lst (l.map cl)).shp = true := shp_list cl lay_cl (fun k => by rw [dep_cl]; decide) l
theorem any_kys (l : List Ky) (k : Ky) : ((l.map ky).any fun z => z.eqv (ky k)) = decide (k ∈ l) := by
  rw [List.any_map]
  induction l with
  | nil => simp
  | cons a l ih =>
    rw [List.any_cons, ih]
    show ((ky a).eqv (ky k) || _) = _
    rw [eqv_ky]
    by_cases h : a = k
    · subst h; simp
    · have h' : ¬ k = a := fun e => h e.symm
      simp [h, h']
theorem any_cls (l : List Cl) (k : Cl) : ((l.map cl).any fun z => z.eqv (cl k)) = decide (k ∈ l) := by
  rw [List.any_map]
  induction l with
  | nil => simp
  | cons a l ih =>
    rw [List.any_cons, ih]
    show ((cl a).eqv (cl k) || _) = _
    rw [eqv_cl]
    by_cases h : a = k
    · subst h; simp
    · have h' : ¬ k = a := fun e => h e.symm
      simp [h, h']
theorem map_at {α : Type} {f : α → D} {l : List α} {i : Nat} {d : D} (h : (l.map f)[i]? = some d) : ∃ a, d = f a ∧ l[i]? = some a := by
  rw [List.getElem?_map] at h
  cases e : l[i]? with
  | none => rw [e] at h; cases h
  | some z => rw [e] at h; cases h; exact ⟨z, rfl, rfl⟩

/-! ### the order -/
theorem alike_ints : ∀ ns ms : List Int, PySem.W.alikeAll (D.pys (ns.map D.int)) (D.pys (ms.map D.int)) = true
  | [], _ => by simp [PySem.W.alikeAll, D.pys]
  | _ :: _, [] => rfl
  | n :: ns, m :: ms => alike_ints ns ms
theorem alike_cl (a b : Cl) : PySem.W.alike (cl a).py (cl b).py = true := by
  have e : PySem.W.alike (cl a).py (cl b).py = ((PySem.W.alikeAll (D.pys (a.k.1.map D.int)) (D.pys (b.k.1.map D.int)) && (true && true)) && (true && (PySem.W.alikeAll (D.pys (a.as.map D.int)) (D.pys (b.as.map D.int)) && true))) := rfl
  rw [e, alike_ints, alike_ints]; rfl
theorem sort_ok (l : List Cl) (h : l.length ≤ 1000) : SortOk (l.map cl) where
  al := fun d hd d' hd' => by
    rw [List.map_map] at hd hd'
    obtain ⟨a, _, rfl⟩ := List.mem_map.mp hd
    obtain ⟨b, _, rfl⟩ := List.mem_map.mp hd'
    exact alike_cl a b
  so := .inl fun d hd => by
    rw [List.map_map] at hd
    obtain ⟨a, _, rfl⟩ := List.mem_map.mp hd
    exact ⟨_, _, rfl⟩
  ln := by rw [List.length_map, sizeLine_eq]; omega
  sh := fun d hd => by
    obtain ⟨a, _, rfl⟩ := List.mem_map.mp hd
    exact shp_cl a
def clLe (a b : Cl) : Bool := PySem.W.dataLe false D.py (cl a) (cl b)
theorem sort_map (l : List Cl) : sortD (l.map cl) = (l.mergeSort clLe).map cl := by
  unfold sortD
  exact (PySem.W.sort_maps (r := clLe) (s := PySem.W.dataLe false D.py) cl fun a _ b _ => rfl).symm
theorem eqv_of_toks {x y : PyData} (h : PySem.W.alike x y = true) (e : PySem.W.keyToks x = PySem.W.keyToks y) : PyData.eqv x y = true := by
  cases q : PyData.eqv x y with
  | true => rfl
  | false =>
    have := (PySem.W.toks_eqv x y h).2 q [] [.inl 0]
    rw [e, PySem.W.lex_pre, PyProof.Rows.lex_irrefl] at this
    exact absurd this (by decide)
abbrev LO : KeyOrd := listOrd PyProof.Rows.itemOrd
theorem clLe_total : PySem.W.TotalLe clLe := PySem.W.sortLe_total LO false fun c : Cl => PySem.W.keyToks (cl c).py
theorem clLe_anti (a b : Cl) (h1 : clLe a b = true) (h2 : clLe b a = true) : a = b := by
  have e : PySem.W.keyToks (cl a).py = PySem.W.keyToks (cl b).py := by
    refine LO.total (PySem.W.keyToks (cl a).py) (PySem.W.keyToks (cl b).py) ?_ ?_
    · have : (!_) = true := h2
      simpa using this
    · have : (!_) = true := h1
      simpa using this
  have q := eqv_of_toks (alike_cl a b) e
  have q : (cl a).eqv (cl b) = true := q
  rw [eqv_cl] at q
  exact of_decide_eq_true q
def srt (l : List Cl) : List Cl := l.mergeSort clLe
theorem srt_perm {l m : List Cl} (h : l.Perm m) : srt l = srt m :=
  List.Perm.eq_of_pairwise (le := fun a b => clLe a b = true) (fun a b _ _ => clLe_anti a b) (PySem.W.sort_pairwise clLe_total l) (PySem.W.sort_pairwise clLe_total m)
    ((List.mergeSort_perm l clLe).trans (h.trans (List.mergeSort_perm m clLe).symm))
theorem srt_self (l : List Cl) : (srt l).Perm l := List.mergeSort_perm l clLe
/-! ### the law's mathematics -/
def both (a b : List Cl) : List Cl := a.filter fun c => decide (c ∈ b)
def alone (a b : List Cl) : List Cl := a.filter fun c => !decide (c ∈ b)
theorem both_comm {a b : List Cl} (ha : a.Nodup) (hb : b.Nodup) : (both a b).Perm (both b a) := by
  refine (List.perm_ext_iff_of_nodup (ha.sublist List.filter_sublist) (hb.sublist List.filter_sublist)).mpr fun c => ?_
  show c ∈ a.filter (fun c => decide (c ∈ b)) ↔ c ∈ b.filter (fun c => decide (c ∈ a))
  rw [List.mem_filter, List.mem_filter, decide_eq_true_iff, decide_eq_true_iff]
  exact And.comm
theorem both_self (a : List Cl) : both a a = a := List.filter_eq_self.mpr fun c hc => decide_eq_true hc
theorem alone_self (a : List Cl) : alone a a = [] := List.filter_eq_nil_iff.mpr fun c hc => by simp [hc]
theorem parts (a b : List Cl) : (both a b ++ alone a b).Perm a := by
  have : alone a b = a.filter fun c => !(decide (c ∈ b)) := rfl
  unfold both
  rw [this]
  exact List.filter_append_perm _ a
theorem srt_parts (a b : List Cl) : srt (srt (both a b) ++ srt (alone a b)) = srt a :=
  srt_perm (((srt_self _).append (srt_self _)).trans (parts a b))
/-! ### what the draws give -/
structure KOk (ks : List Ky) : Prop where
  nd : ks.Nodup
  sh : ∀ k ∈ ks, k.1.length ≤ 1 ∨ ∃ j : Nat, k = ([1, (j : Int)], 50 + (j : Int)) ∧ j < ks.length
theorem KOk.nil : KOk [] := ⟨List.nodup_nil, fun k h => by cases h⟩
theorem nodup_snoc {α : Type} {l : List α} {a : α} (h : l.Nodup) (n : a ∉ l) : (l ++ [a]).Nodup := by
  rw [List.nodup_append]
  refine ⟨h, by simp, fun x hx y hy => ?_⟩
  have := List.mem_singleton.mp hy
  subst this
  exact fun e => n (e ▸ hx)
theorem KOk.new {ks : List Ky} (h : KOk ks) {k : Ky} (hk : k.1.length ≤ 1) (n : k ∉ ks) : KOk (ks ++ [k]) := by
  refine ⟨nodup_snoc h.nd n, fun x hx => ?_⟩
  rcases List.mem_append.mp hx with hx | hx
  · rcases h.sh x hx with q | ⟨j, e, q⟩
    · exact .inl q
    · exact .inr ⟨j, e, by rw [List.length_append]; omega⟩
  · have := List.mem_singleton.mp hx
    subst this
    exact .inl hk
theorem KOk.fall {ks : List Ky} (h : KOk ks) : KOk (ks ++ [([1, (ks.length : Int)], 50 + (ks.length : Int))]) := by
  refine ⟨nodup_snoc h.nd fun m => ?_, fun x hx => ?_⟩
  · rcases h.sh _ m with q | ⟨j, e, q⟩
    · simp at q
    · injection e with e1 e2
      injection e1 with _ e1
      injection e1 with e1 _
      omega
  · rcases List.mem_append.mp hx with hx | hx
    · rcases h.sh x hx with q | ⟨j, e, q⟩
      · exact .inl q
      · exact .inr ⟨j, e, by rw [List.length_append]; omega⟩
    · have := List.mem_singleton.mp hx
      subst this
      exact .inr ⟨ks.length, rfl, by rw [List.length_append, List.length_singleton]; omega⟩
def Cl.ok (c : Cl) : Prop := c.e = .pay → ∃ a, c.as = [a]
theorem take_snoc {α : Type} {l : List α} {i : Nat} {a : α} (h : l[i]? = some a) : l.take (i + 1) = l.take i ++ [a] := by
  rw [List.take_add_one, h]; rfl
theorem shp_eff (e : Eff) : (D.str e.str).shp = true := by cases e <;> decide +kernel
theorem shp_int (i : Int) : (D.int i).shp = true := rfl
theorem eqv_int (i j : Int) : (D.int i).eqv (D.int j) = decide (i = j) := by
  show (i == j) = _
  by_cases h : i = j <;> simp [h]
theorem eqv_eff (e f : Eff) : (D.str e.str).eqv (D.str f.str) = decide (e = f) := str_inj
end K29
set_option Elab.async false
set_option linter.all false
set_option maxRecDepth 100000
set_option maxHeartbeats 4000000
namespace K29
open PySem PySem.Spec PyProof.Rows L2 DL
variable {P : Program} {w : World} {K : Frg} {mg : Str → Option Value} {base : Heap}

def sd_l_take : SpD := fun args Q => ∃ (ns : List Int) (b : Int), args = [.mu (.lst (ns.map D.int)), .fr (.int b)] ∧ 0 < b ∧ ∀ (k : Int) (ns' : List Int), 0 ≤ k → k < b → ns'.length ≤ ns.length → Q (.fr (.int k)) [.mu (.lst (ns'.map D.int)), .un]
theorem ok_l_take (T : Tx K mg) : FnOk P w K mg base CX0 1 T.f_l_take T.fd_l_take ["_law_row", "_law_bound"] (spD K 2 sd_l_take) := by
  refine fn_D (k := 0) T.d_l_take.F sc_l_take (fun H0 Fm Z0 vs cdv A outer s H Ex hr =>
    have nd := sc_l_take.nd; have u64 := hr.units; have u65 := u65_of hr; have u70 := u70_of hr
    (dss_cons (ds_if (dt_not (dt_b (db_v 0))) (dss_one (ds_ret de_int)) dss_nil)
    (dss_one (ds_ret (de_op o_mod (de_t1 b_int T.m_int (db_e (de_pop 0))) (de_v 1)))))) (fun args Qd hl h => ?_)
  obtain ⟨ns, b, rfl, hb, q⟩ := h
  conv => whnf
  refine br (fun e => ?_) fun e => ?_
  · conv => whnf
    exact ⟨(by decide : 2 ≤ 2), q 0 ns (by omega) hb (Nat.le_refl _)⟩
  · have ne : ns ≠ [] := fun z => by subst z; simp at e
    obtain ⟨init, x, rfl⟩ := snoc_of_ne ne
    conv => whnf
    refine popMuI (init := init) (x := x) rfl ?_
    conv => whnf
    refine ⟨hb, by show 2 ≤ 2; decide, q _ init (Int.emod_nonneg _ (by omega)) (Int.emod_lt_of_pos _ hb) (by simp)⟩

def sd_l_mix : SpD := fun args Q => ∃ (a b : Int), args = [.fr (.int a), .fr (.int b)] ∧ ∀ r : Int, Q (.fr (.int r)) [.un, .un]
theorem ok_l_mix (T : Tx K mg) : FnOk P w K mg base CX0 1 T.f_l_mix T.fd_l_mix ["_law_number", "_law_k"] (spD K 2 sd_l_mix) := by
  refine fn_D (k := 0) T.d_l_mix.F sc_l_mix (fun H0 Fm Z0 vs cdv A outer s H Ex hr =>
    have nd := sc_l_mix.nd; have u64 := hr.units; have u65 := u65_of hr; have u70 := u70_of hr
    (dss_one (ds_ret (de_op o_mod (de_op o_mul (de_op o_mod (de_t1 b_int T.m_int (db_e (de_op o_mul (de_op o_add (de_op o_add (de_op o_mod (de_t1 b_int T.m_int (db_v 0)) de_int) (de_op o_mul de_int (de_v 1))) de_int) de_int))) de_int) de_int) de_int)))) (fun args Qd hl h => ?_)
  obtain ⟨a, b, rfl, q⟩ := h
  conv => whnf
  refine ⟨(by decide : (0 : Int) < 1000003), ?_⟩
  conv => whnf
  refine ⟨.inl (by decide), ?_⟩
  conv => whnf
  refine ⟨.inr (by decide), ?_⟩
  conv => whnf
  refine ⟨(by decide : (0 : Int) < 1000033), ?_⟩
  conv => whnf
  refine ⟨.inr (by decide), ?_⟩
  conv => whnf
  refine ⟨(by decide : (0 : Int) < 998244353), ?_⟩
  exact ⟨(by decide : 2 ≤ 2), q _⟩

theorem free_fr {d : D} : S.free (some (.fr d)) = true := rfl
theorem free_un : S.free (some .un) = true := rfl
theorem int_at {ns : List Int} {i : Nat} {d : D} (h : (ns.map D.int)[i]? = some d) : ∃ z, d = .int z ∧ ns[i]? = some z := by
  rw [List.getElem?_map] at h
  cases e : ns[i]? with
  | none => rw [e] at h; cases h
  | some z => rw [e] at h; cases h; exact ⟨z, rfl, rfl⟩
theorem snoc_int (ms : List Int) (z : Int) : ms.map D.int ++ [D.int z] = (ms ++ [z]).map D.int := by rw [List.map_append]; rfl
def sd_l_numbers : SpD := fun args Q => ∃ (ns : List Int) (c : Int), args = [.fr (.scr (ns.map D.int)), .fr (.int c)] ∧ ns.length ≤ 63 ∧ 0 ≤ c ∧ c ≤ 1000 ∧ ∀ ms : List Int, Q (.ow (.lst (ms.map D.int))) [.un, .un]
theorem ok_l_numbers (T : Tx K mg) : FnOk P w K mg base CX0 2 T.f_l_numbers T.fd_l_numbers ["_law_script", "_law_count"] (spD K 2 sd_l_numbers) := by
  have G_l_mix := ok_l_mix (P := P) (w := w) (base := base) T
  refine fn_D (k := 1) T.d_l_numbers.F sc_l_numbers (fun H0 Fm Z0 vs cdv A outer s H Ex hr =>
    have nd := sc_l_numbers.nd; have u64 := hr.units; have u65 := u65_of hr; have u70 := u70_of hr
    (dss_cons (ds_setn 2 nd (dn_lst da_nil))
    (dss_cons (ds_set 3 nd de_int)
    (dss_cons (ds_for PassesOwn.never (di_seq (de_n (dn_sl (de_v 0) do_n (do_s de_int)))) (dg_n 4 nd) (dss_cons (ds_set 3 nd (de_op o_add (de_v 3) (de_v 4)))
    (dss_one (ds_if (dt_cmp (o_ge) (de_v 4) de_int) (dss_cons (ds_set 6 nd (de_v 4))
    (dss_one (ds_for PassesOwn.never (di_range1 rfl T.m_range de_int) (dg_n 5 nd) (dss_cons (ds_expr (de_append 2 (de_op o_mod (de_t1 b_int T.m_int (db_v 6)) de_int)))
    (dss_cons (ds_set 6 nd (de_op o_fdiv (de_v 6) de_int))
    (dss_one (ds_if (dt_cmp (o_eq u64) (de_v 6) de_int) (dss_one ds_break) dss_nil))))))) (dss_one (ds_expr (de_append 2 (dcall G_l_mix T.d_l_mix (hr.mono (by decide)) (dm_d (dcall G_l_mix T.d_l_mix (hr.mono (by decide)) (dm_d (de_v 4) (dm_d de_int dm_nil))) (dm_d de_int dm_nil))))))))))
    (dss_cons (ds_for PassesOwn.never (di_range1 rfl T.m_range (de_v 1)) (dg_n 5 nd) (dss_one (ds_expr (de_append 2 (dcall G_l_mix T.d_l_mix (hr.mono (by decide)) (dm_d (dcall G_l_mix T.d_l_mix (hr.mono (by decide)) (dm_d (de_op o_add (de_v 3) (de_op o_mul de_int (de_v 5))) (dm_d (de_op o_add de_int (de_v 5)) dm_nil))) (dm_d de_int dm_nil)))))))
    (dss_cons (ds_expr (de_reverse 2))
    (dss_one (ds_retv 2)))))))) (fun args Qd hl h => ?_)
  obtain ⟨ns, c, rfl, hn, h0, h1, q⟩ := h
  obtain ⟨cs, ec, hc⟩ := cut_ints ns none (some 63)
  conv => whnf
  refine ⟨rfl, ?_⟩
  conv => whnf
  refine ⟨rfl, ?_⟩
  conv => whnf
  rw [ec]
  refine ⟨fun i E => ∃ (ms : List Int) (b : Int) (x4 x5 x6 : S), E = [.fr (.scr (ns.map D.int)), .fr (.int c), .ow (.lst (ms.map D.int)), .fr (.int b), x4, x5, x6] ∧ (S.free (some x4) = true ∧ S.free (some x5) = true ∧ S.free (some x6) = true) ∧ ms.length ≤ 60 * i,
    ⟨[], 0, .un, .un, .un, rfl, ⟨rfl, rfl, rfl⟩, Nat.zero_le _⟩, fun i d E' hd hi => ?_, fun E' hi => ?_⟩
  · obtain ⟨z, rfl, hz⟩ := int_at hd
    obtain ⟨ms, b, x4, x5, x6, rfl, ⟨f4, f5, f6⟩, hl⟩ := hi
    have i63 : i < 63 := by have := (List.getElem?_eq_some_iff.mp hz).1; omega
    refine ⟨f4, ?_⟩
    conv => whnf
    refine ⟨rfl, ?_⟩
    conv => whnf
    refine br (fun _ => ?_) fun _ => ?_
    · conv => whnf
      refine ⟨f6, ?_⟩
      conv => whnf
      refine ⟨⟨by decide, by decide, by decide, by decide⟩, ?_⟩
      conv => whnf
      refine ⟨fun j E => ∃ (ms : List Int) (x5 : S) (r : Int), E = [.fr (.scr (ns.map D.int)), .fr (.int c), .ow (.lst (ms.map D.int)), .fr (.int (b + z)), .fr (.int z), x5, .fr (.int r)] ∧ S.free (some x5) = true ∧ ms.length ≤ 60 * i + j,
        ⟨ms, x5, z, rfl, f5, hl⟩, fun j d E' hd hj => ?_, fun E' hj => ?_⟩
      · obtain ⟨j60, rfl⟩ := rng_get hd
        obtain ⟨ms, x5, r, rfl, f5, hl⟩ := hj
        have j60 : j < 60 := j60
        refine ⟨f5, ?_⟩
        conv => whnf
        refine ⟨(by decide : (0 : Int) < 840), ?_⟩
        conv => whnf
        refine ⟨by rw [List.length_map, sizeLine_eq]; omega, ?_⟩
        rw [snoc_int]
        conv => whnf
        refine ⟨⟨by decide, by decide⟩, ?_⟩
        conv => whnf
        refine ⟨rfl, ?_⟩
        conv => whnf
        refine ⟨⟨rfl, rfl⟩, ?_⟩
        conv => whnf
        refine br (fun _ => ?_) fun _ => ?_
        · exact ⟨_, _, _, _, _, rfl, ⟨rfl, rfl, rfl⟩, by rw [List.length_append, List.length_singleton]; omega⟩
        · exact ⟨_, _, _, rfl, rfl, by rw [List.length_append, List.length_singleton]; omega⟩
      · obtain ⟨ms, x5, r, rfl, f5, hl⟩ := hj
        have hl : ms.length ≤ 60 * i + 60 := hl
        exact ⟨ms, _, _, _, _, rfl, ⟨rfl, f5, rfl⟩, by omega⟩
    · conv => whnf
      refine ⟨rfl, z, 3, rfl, fun r => ?_⟩
      conv => whnf
      refine ⟨rfl, r, 5, rfl, fun r2 => ?_⟩
      conv => whnf
      refine ⟨by rw [List.length_map, sizeLine_eq]; omega, ?_⟩
      rw [snoc_int]
      exact ⟨_, _, _, _, _, rfl, ⟨rfl, f5, f6⟩, by rw [List.length_append, List.length_singleton]; omega⟩
  · obtain ⟨ms, b, x4, x5, x6, rfl, ⟨f4, f5, f6⟩, hl⟩ := hi
    have hl : ms.length ≤ 60 * 63 := by rw [List.length_map] at hl; omega
    conv => whnf
    refine ⟨⟨by decide, by decide, by omega, by omega⟩, ?_⟩
    conv => whnf
    refine ⟨fun j E => ∃ (ms : List Int) (x4 x5 x6 : S), E = [.fr (.scr (ns.map D.int)), .fr (.int c), .ow (.lst (ms.map D.int)), .fr (.int b), x4, x5, x6] ∧ (S.free (some x4) = true ∧ S.free (some x5) = true ∧ S.free (some x6) = true) ∧ ms.length ≤ 60 * 63 + j,
      ⟨ms, _, _, _, rfl, ⟨f4, f5, f6⟩, hl⟩, fun j d E' hd hj => ?_, fun E' hj => ?_⟩
    · obtain ⟨jc, rfl⟩ := rng_get hd
      obtain ⟨ms, x4, x5, x6, rfl, ⟨f4, f5, f6⟩, hl⟩ := hj
      refine ⟨f5, ?_⟩
      conv => whnf
      refine ⟨.inl (by decide), ?_⟩
      conv => whnf
      refine ⟨rfl, _, _, rfl, fun r => ?_⟩
      conv => whnf
      refine ⟨rfl, r, 17, rfl, fun r2 => ?_⟩
      conv => whnf
      refine ⟨by rw [List.length_map, sizeLine_eq]; omega, ?_⟩
      rw [snoc_int]
      exact ⟨_, _, _, _, rfl, ⟨f4, rfl, f6⟩, by rw [List.length_append, List.length_singleton]; omega⟩
    · obtain ⟨ms, x4, x5, x6, rfl, _, hl⟩ := hj
      exact ⟨(by decide : 2 ≤ 7), by
        have e : ∀ l : List Int, (l.map D.int).reverse = l.reverse.map D.int := fun l => by rw [List.map_reverse]
        rw [e]
        exact q _⟩
end K29
set_option Elab.async false
set_option linter.all false
set_option maxRecDepth 100000
set_option maxHeartbeats 4000000
namespace K29
open PySem PySem.Spec PyProof.Rows L2 DL
variable {P : Program} {w : World} {K : Frg} {mg : Str → Option Value} {base : Heap}

def sd_l_call : SpD := fun args Q => ∃ (ns : List Int) (ks : List Ky), args = [.mu (.lst (ns.map D.int)), .fr (.lst (ks.map ky))] ∧ KOk ks ∧ ks.length ≤ 1000 ∧ ∀ (c : Cl) (ns' : List Int), c.ok → KOk (ks ++ [c.k]) → Q (.fr (cl c)) [.mu (.lst (ns'.map D.int)), .un]
theorem ok_l_call (T : Tx K mg) : FnOk P w K mg base CX0 2 T.f_l_call T.fd_l_call ["_law_row", "_law_keys"] (spD K 2 sd_l_call) := by
  have G_l_take := ok_l_take (P := P) (w := w) (base := base) T
  refine fn_D (k := 1) T.d_l_call.F sc_l_call (fun H0 Fm Z0 vs cdv A outer s H Ex hr =>
    have nd := sc_l_call.nd; have u64 := hr.units; have u65 := u65_of hr; have u70 := u70_of hr
    (dss_cons (ds_set 2 nd (de_tup (da_cons (de_tup da_nil) (da_cons (dcall G_l_take T.d_l_take (hr.mono (by decide)) (dm_m 0 (dm_d de_int dm_nil))) da_nil))))
    (dss_join (ds_if (dt_cmp (o_eq u64) (dcall G_l_take T.d_l_take (hr.mono (by decide)) (dm_m 0 (dm_d de_int dm_nil))) de_int) (dss_one (ds_set 2 nd (de_tup (da_cons (de_tup (da_cons (dcall G_l_take T.d_l_take (hr.mono (by decide)) (dm_m 0 (dm_d de_int dm_nil))) da_nil)) (da_cons (dcall G_l_take T.d_l_take (hr.mono (by decide)) (dm_m 0 (dm_d de_int dm_nil))) da_nil))))) dss_nil)
    (dss_join (ds_if (dt_in u65 (de_v 2) (db_v 1)) (dss_one (ds_set 2 nd (de_tup (da_cons (de_tup (da_cons de_int (da_cons (de_b1 b_len T.m_len (db_v 1)) da_nil))) (da_cons (de_op o_add de_int (de_b1 b_len T.m_len (db_v 1))) da_nil))))) dss_nil)
    (dss_join (ds_set 3 nd (de_ix (de_n (dn_lst (da_cons de_str (da_cons de_str (da_cons de_str da_nil))))) (dcall G_l_take T.d_l_take (hr.mono (by decide)) (dm_m 0 (dm_d de_int dm_nil)))))
    (dss_cons (ds_if (dt_cmp (o_eq u64) (de_v 3) de_str) (dss_one (ds_ret (de_tup (da_cons (de_v 2) (da_cons (de_v 3) (da_cons (de_tup da_nil) da_nil)))))) dss_nil)
    (dss_cons (ds_if (dt_cmp (o_eq u64) (de_v 3) de_str) (dss_one (ds_ret (de_tup (da_cons (de_v 2) (da_cons (de_v 3) (da_cons (de_tup (da_cons (de_op o_sub (dcall G_l_take T.d_l_take (hr.mono (by decide)) (dm_m 0 (dm_d de_int dm_nil))) de_int) da_nil)) da_nil)))))) dss_nil)
    (dss_one (ds_ret (de_tup (da_cons (de_v 2) (da_cons (de_v 3) (da_cons (de_tup (da_cons (dcall G_l_take T.d_l_take (hr.mono (by decide)) (dm_m 0 (dm_d de_int dm_nil))) (da_cons (dcall G_l_take T.d_l_take (hr.mono (by decide)) (dm_m 0 (dm_d de_int dm_nil))) da_nil))) da_nil))))))))))))) (fun args Qd hl h => ?_)
  obtain ⟨ns, ks, rfl, hk, hl2, q⟩ := h
  conv => whnf
  refine ⟨rfl, rfl, _, _, rfl, by decide, fun n1 ns1 _ _ _ => ?_⟩
  conv => whnf
  refine ⟨rfl, ?_⟩
  conv => whnf
  refine ⟨fun E => ∃ (k : Ky) (ns : List Int), E = [.mu (.lst (ns.map D.int)), .fr (.lst (ks.map ky)), .fr (ky k), .un] ∧ k.1.length ≤ 1, ?_, ?_⟩
  · conv => whnf
    refine ⟨rfl, rfl, _, _, rfl, by decide, fun n2 ns2 _ _ _ => ?_⟩
    conv => whnf
    refine ⟨⟨rfl, rfl⟩, ?_⟩
    conv => whnf
    refine br (fun _ => ?_) fun _ => ?_
    · conv => whnf
      refine ⟨rfl, rfl, _, _, rfl, by decide, fun n3 ns3 _ _ _ => ?_⟩
      conv => whnf
      refine ⟨rfl, rfl, _, _, rfl, by decide, fun n4 ns4 _ _ _ => ?_⟩
      conv => whnf
      exact ⟨rfl, ([n3], n4), ns4, rfl, (by decide : 1 ≤ 1)⟩
    · exact ⟨([], n1), ns2, rfl, (by decide : 0 ≤ 1)⟩
  · rintro E ⟨k, ns, rfl, hk1⟩
    refine ⟨fun E => ∃ (k : Ky) (ns : List Int), E = [.mu (.lst (ns.map D.int)), .fr (.lst (ks.map ky)), .fr (ky k), .un] ∧ KOk (ks ++ [k]), ?_, ?_⟩
    · conv => whnf
      refine ⟨⟨shp_ky k, shp_kys ks⟩, ?_⟩
      conv => whnf
      rw [any_kys]
      refine br (fun e => ?_) fun e => ?_
      · conv => whnf
        refine ⟨rfl, ([1, (ks.length : Int)], 50 + (ks.length : Int)), ns, ?_, hk.fall⟩
        rw [List.length_map]
        rfl
      · exact ⟨k, ns, rfl, hk.new hk1 (of_decide_eq_false e)⟩
    · rintro E ⟨k, ns, rfl, hk2⟩
      refine ⟨fun E => ∃ (e : Eff) (ns : List Int), E = [.mu (.lst (ns.map D.int)), .fr (.lst (ks.map ky)), .fr (ky k), .fr (.str e.str)], ?_, ?_⟩
      · conv => whnf
        refine ⟨rfl, rfl, _, _, rfl, by decide, fun n5 ns5 h0 h3 _ => ?_⟩
        have hn : n5 = 0 ∨ n5 = 1 ∨ n5 = 2 := by omega
        rcases hn with rfl | rfl | rfl
        · conv => whnf
          exact ⟨rfl, .pay, ns5, rfl⟩
        · conv => whnf
          exact ⟨rfl, .ship, ns5, rfl⟩
        · conv => whnf
          exact ⟨rfl, .tell, ns5, rfl⟩
      · rintro E ⟨e, ns, rfl⟩
        conv => whnf
        refine ⟨⟨shp_eff e, shp_eff .tell⟩, ?_⟩
        conv => whnf
        rw [show (D.str (Str.ofString "tell")) = D.str Eff.tell.str from rfl, eqv_eff]
        refine br (fun he => ?_) fun he => ?_
        · have he := of_decide_eq_true he
          subst he
          conv => whnf
          exact ⟨(by decide : 2 ≤ 4), q ⟨k, .tell, []⟩ ns (fun z => nomatch z) hk2⟩
        · conv => whnf
          refine ⟨⟨shp_eff e, shp_eff .pay⟩, ?_⟩
          conv => whnf
          rw [show (D.str (Str.ofString "pay")) = D.str Eff.pay.str from rfl, eqv_eff]
          refine br (fun he => ?_) fun he => ?_
          · have he := of_decide_eq_true he
            subst he
            conv => whnf
            refine ⟨rfl, rfl, _, _, rfl, by decide, fun n6 ns6 _ _ _ => ?_⟩
            conv => whnf
            exact ⟨(by decide : 2 ≤ 4), q ⟨k, .pay, [n6 - 2]⟩ ns6 (fun _ => ⟨_, rfl⟩) hk2⟩
          · have he := of_decide_eq_false he
            conv => whnf
            refine ⟨rfl, rfl, _, _, rfl, by decide, fun n6 ns6 _ _ _ => ?_⟩
            conv => whnf
            refine ⟨rfl, rfl, _, _, rfl, by decide, fun n7 ns7 _ _ _ => ?_⟩
            conv => whnf
            exact ⟨(by decide : 2 ≤ 4), q ⟨k, e, [n6, n7]⟩ ns7 (fun z => absurd z he) hk2⟩
end K29
set_option Elab.async false
set_option linter.all false
set_option maxRecDepth 100000
set_option maxHeartbeats 4000000
namespace K29
open PySem PySem.Spec PyProof.Rows L2 DL
variable {P : Program} {w : World} {K : Frg} {mg : Str → Option Value} {base : Heap}

def ks (cs : List Cl) : List Ky := cs.map (·.k)
theorem ks_snoc (cs : List Cl) (c : Cl) : ks (cs ++ [c]) = ks cs ++ [c.k] := by unfold ks; rw [List.map_append]; rfl
theorem cl_snoc (cs : List Cl) (c : Cl) : cs.map cl ++ [cl c] = (cs ++ [c]).map cl := by rw [List.map_append]; rfl
theorem ky_snoc (cs : List Cl) (c : Cl) : (ks cs).map ky ++ [ky c.k] = (ks (cs ++ [c])).map ky := by rw [ks_snoc, List.map_append]; rfl
def sd_l_calls : SpD := fun args Q => ∃ (ns : List Int) (m : Int), args = [.mu (.lst (ns.map D.int)), .fr (.int m)] ∧ 0 ≤ m ∧ m ≤ 50 ∧ ∀ (cs : List Cl) (ns' : List Int), (ks cs).Nodup → (∀ c ∈ cs, c.ok) → cs.length ≤ 50 → Q (.ow (.lst (cs.map cl))) [.mu (.lst (ns'.map D.int)), .un]
theorem ok_l_calls (T : Tx K mg) : FnOk P w K mg base CX0 3 T.f_l_calls T.fd_l_calls ["_law_row", "_law_most"] (spD K 2 sd_l_calls) := by
  have G_l_take := ok_l_take (P := P) (w := w) (base := base) T
  have G_l_call := ok_l_call (P := P) (w := w) (base := base) T
  refine fn_D (k := 2) T.d_l_calls.F sc_l_calls (fun H0 Fm Z0 vs cdv A outer s H Ex hr =>
    have nd := sc_l_calls.nd; have u64 := hr.units; have u65 := u65_of hr; have u70 := u70_of hr
    (dss_cons (ds_setn 2 nd (dn_lst da_nil))
    (dss_cons (ds_for PassesOwn.never (di_range1 rfl T.m_range (dcall G_l_take T.d_l_take (hr.mono (by decide)) (dm_m 0 (dm_d (de_op o_add (de_v 1) de_int) dm_nil)))) (dg_n 3 nd) (dss_one (ds_expr (de_append 2 (dcall G_l_call T.d_l_call (hr.mono (by decide)) (dm_m 0 (dm_d (de_n (dn_lcB 2 nd (di_b 2) (blkOk_by (own := [("_law_call_here", 4)]) (N := N_l_calls) (sc := defScope s_l_calls) (by decide +kernel)) (fun _ _ _ _ _ => (dg_n 4 nd)) (fun _ _ _ _ _ => dts_nil) (fun _ _ _ _ _ => (de_ixo 4 de_int)))) dm_nil)))))))
    (dss_one (ds_retv 2))))) (fun args Qd hl h => ?_)
  obtain ⟨ns, m, rfl, h0, h1, q⟩ := h
  conv => whnf
  refine ⟨rfl, ?_⟩
  conv => whnf
  refine ⟨rfl, rfl, ns, m + 1, rfl, by omega, fun k ns1 hk0 hk1 _ => ?_⟩
  conv => whnf
  refine ⟨⟨by decide, by decide, by omega, by omega⟩, ?_⟩
  refine ⟨fun i E => ∃ (cs : List Cl) (ns : List Int) (x3 : S), E = [.mu (.lst (ns.map D.int)), .fr (.int m), .ow (.lst (cs.map cl)), x3, .un] ∧ S.free (some x3) = true ∧ KOk (ks cs) ∧ (∀ c ∈ cs, c.ok) ∧ cs.length ≤ i,
    ⟨[], ns1, .un, rfl, rfl, KOk.nil, (fun c h => by cases h), Nat.le_refl _⟩, fun i d E' hd hi => ?_, fun E' hi => ?_⟩
  · obtain ⟨ik, rfl⟩ := rng_get hd
    obtain ⟨cs, ns, x3, rfl, f3, hk, hok, hl⟩ := hi
    refine ⟨f3, ?_⟩
    conv => whnf
    refine ⟨rfl, ?_⟩
    conv => whnf
    refine ⟨fun j acc E => E = [.mu (.lst (ns.map D.int)), .fr (.int m), .ow (.lst (cs.map cl)), .fr (.int (0 + (i : Int))), .un] ∧ acc = (ks (cs.take j)).map ky, ⟨rfl, rfl⟩, fun j acc E h => ?_, fun j d acc E hd h => ?_, fun acc E h _ => ?_⟩
    · obtain ⟨rfl, _⟩ := h
      exact ⟨_, rfl, rfl⟩
    · obtain ⟨rfl, rfl⟩ := h
      obtain ⟨c, rfl, hc⟩ := map_at hd
      refine ⟨rfl, ?_⟩
      conv => whnf
      refine br (fun _ => ?_) fun z => nomatch z
      conv => whnf
      refine ⟨rfl, ?_⟩
      conv => whnf
      refine ⟨?_, rfl, ?_⟩
      · rw [List.length_map, sizeLine_eq]
        unfold ks
        rw [List.length_map, List.length_take]
        omega
      · rw [take_snoc hc]
        exact ky_snoc _ c
    · obtain ⟨rfl, rfl⟩ := h
      rw [List.length_map, List.take_length]
      conv => whnf
      refine ⟨rfl, ns, ks cs, rfl, hk, ?_, fun c ns' hc hk' => ?_⟩
      · unfold ks; rw [List.length_map]; omega
      · conv => whnf
        refine ⟨by rw [List.length_map, sizeLine_eq]; omega, ?_⟩
        refine ⟨cs ++ [c], ns', _, by rw [← cl_snoc]; rfl, rfl, by rw [ks_snoc]; exact hk', fun x hx => ?_, by rw [List.length_append, List.length_singleton]; omega⟩
        rcases List.mem_append.mp hx with hx | hx
        · exact hok x hx
        · have := List.mem_singleton.mp hx
          subst this
          exact hc
  · obtain ⟨cs, ns, x3, rfl, f3, hk, hok, hl⟩ := hi
    conv => whnf
    refine ⟨(by decide : 2 ≤ 5), q cs ns hk.nd hok ?_⟩
    rw [rng_len] at hl
    omega
end K29
set_option Elab.async false
set_option linter.all false
set_option maxRecDepth 100000
set_option maxHeartbeats 4000000
namespace K29
open PySem PySem.Spec PyProof.Rows L2 DL
variable {P : Program} {w : World} {K : Frg} {mg : Str → Option Value} {base : Heap}

theorem ks_mem {cs : List Cl} {c : Cl} (h : c ∈ cs) : c.k ∈ ks cs := List.mem_map.mpr ⟨c, h, rfl⟩
theorem ks_perm {a b : List Cl} (h : a.Perm b) : (ks a).Perm (ks b) := h.map _
theorem ins_perm (l : List Cl) (c : Cl) (n : Nat) : (l.take n ++ c :: l.drop n).Perm (c :: l) := by
  refine List.perm_middle.trans ?_
  rw [List.take_append_drop]
theorem ins_map (l : List Cl) (c : Cl) (n : Nat) : (l.map cl).take n ++ cl c :: (l.map cl).drop n = (l.take n ++ c :: l.drop n).map cl := by
  rw [← List.map_take, ← List.map_drop, List.map_append]; rfl
def sd_l_near : SpD := fun args Q => ∃ (ns : List Int) (cs : List Cl), args = [.mu (.lst (ns.map D.int)), .fr (.lst (cs.map cl))] ∧ (ks cs).Nodup ∧ (∀ c ∈ cs, c.ok) ∧ cs.length ≤ 50 ∧
  ∀ (ds : List Cl) (ns' : List Int), (ks ds).Nodup → ds.length ≤ 200 → Q (.ow (.lst (ds.map cl))) [.mu (.lst (ns'.map D.int)), .un]
theorem ok_l_near (T : Tx K mg) : FnOk P w K mg base CX0 4 T.f_l_near T.fd_l_near ["_law_row", "_law_calls_here"] (spD K 2 sd_l_near) := by
  have G_l_calls := ok_l_calls (P := P) (w := w) (base := base) T
  have G_l_take := ok_l_take (P := P) (w := w) (base := base) T
  refine fn_D (k := 3) T.d_l_near.F sc_l_near (fun H0 Fm Z0 vs cdv A outer s H Ex hr =>
    have nd := sc_l_near.nd; have u64 := hr.units; have u65 := u65_of hr; have u70 := u70_of hr
    (dss_cons (ds_setn 2 nd (dn_lst da_nil))
    (dss_cons (ds_for PassesOwn.never (di_seq (de_v 1)) (dg_tup (n := 3) (dgs_cons (dg_n 4 nd) (dgs_cons (dg_n 5 nd) (dgs_cons (dg_n 6 nd) dgs_nil)))) (dss_cons (ds_set 7 nd (dcall G_l_take T.d_l_take (hr.mono (by decide)) (dm_m 0 (dm_d de_int dm_nil))))
    (dss_one (ds_if (dt_w (dw_and (dt_cmp (o_eq u64) (de_v 7) de_int) (dw_and1 (dt_cmp (o_eq u64) (de_v 5) de_str)))) (dss_one (ds_expr (de_append 2 (de_tup (da_cons (de_v 4) (da_cons (de_v 5) (da_cons (de_tup (da_cons (de_op o_add (de_ixo 6 de_int) de_int) da_nil)) da_nil))))))) (dss_one (ds_if (dt_cmp (o_eq u64) (de_v 7) de_int) (dss_one (ds_expr (de_append 2 (de_tup (da_cons (de_v 4) (da_cons de_str (da_cons (de_tup da_nil) da_nil))))))) (dss_one (ds_if (dt_cmp (o_ne u64) (de_v 7) de_int) (dss_one (ds_expr (de_append 2 (de_tup (da_cons (de_v 4) (da_cons (de_v 5) (da_cons (de_v 6) da_nil))))))) dss_nil))))))))
    (dss_cons (ds_for PassesOwn.never (di_seq (de_n (dcalln G_l_calls T.d_l_calls (hr.mono (by decide)) (dm_m 0 (dm_d de_int dm_nil))))) (dg_n 3 nd) (dss_one (ds_if (dt_nin u65 (de_ixo 3 de_int) (db_e (de_n (dn_lcB 2 nd (di_b 2) (blkOk_by (own := [("_law_one", 8)]) (N := N_l_near) (sc := defScope s_l_near) (by decide +kernel)) (fun _ _ _ _ _ => (dg_n 8 nd)) (fun _ _ _ _ _ => dts_nil) (fun _ _ _ _ _ => (de_ixo 8 de_int)))))) (dss_one (ds_expr (de_insert 2 (dcall G_l_take T.d_l_take (hr.mono (by decide)) (dm_m 0 (dm_d (de_op o_add (de_b1 b_len T.m_len (db_v 2)) de_int) dm_nil))) (de_v 3)))) dss_nil)))
    (dss_one (ds_retv 2)))))) (fun args Qd hl h => ?_)
  obtain ⟨ns, cs, rfl, hnd, hok, hl, q⟩ := h
  conv => whnf
  refine ⟨rfl, ?_⟩
  conv => whnf
  refine ⟨fun i E => ∃ (ds : List Cl) (ns : List Int) (x3 x4 x5 x6 x7 : S), E = [.mu (.lst (ns.map D.int)), .fr (.lst (cs.map cl)), .ow (.lst (ds.map cl)), x3, x4, x5, x6, x7, .un] ∧ (S.free (some x3) = true ∧ S.free (some x4) = true ∧ S.free (some x5) = true ∧ S.free (some x6) = true ∧ S.free (some x7) = true) ∧
      (ks ds).Sublist (ks (cs.take i)) ∧ ds.length ≤ i,
    ⟨[], ns, .un, .un, .un, .un, .un, rfl, ⟨rfl, rfl, rfl, rfl, rfl⟩, List.Sublist.slnil, Nat.le_refl _⟩, fun i d E' hd hi => ?_, fun E' hi => ?_⟩
  · obtain ⟨c, rfl, hc⟩ := map_at hd
    obtain ⟨ds, ns, x3, x4, x5, x6, x7, rfl, ⟨f3, f4, f5, f6, f7⟩, hs, hl2⟩ := hi
    have i50 : i < 50 := by have := (List.getElem?_eq_some_iff.mp hc).1; omega
    have next : ∀ (c' : Cl), c'.k = c.k → (ks (ds ++ [c'])).Sublist (ks (cs.take (i + 1))) ∧ (ds ++ [c']).length ≤ i + 1 := fun c' e => by
      refine ⟨?_, by rw [List.length_append, List.length_singleton]; omega⟩
      rw [ks_snoc, take_snoc hc, ks_snoc, e]
      exact hs.append (List.Sublist.refl _)
    refine ⟨rfl, f4, ?_⟩
    conv => whnf
    refine ⟨f5, ?_⟩
    conv => whnf
    refine ⟨f6, ?_⟩
    conv => whnf
    refine ⟨rfl, rfl, _, _, rfl, by decide, fun n1 ns1 _ _ _ => ?_⟩
    conv => whnf
    refine ⟨f7, ?_⟩
    conv => whnf
    refine ⟨⟨rfl, rfl⟩, ?_⟩
    have skip : (ks ds).Sublist (ks (cs.take (i + 1))) := by
      rw [take_snoc hc, ks_snoc]
      exact hs.trans (List.sublist_append_left _ _)
    have sz : (ds.map cl).length < sizeLine := by rw [List.length_map, sizeLine_eq]; omega
    rw [eqv_int]
    refine (fun rest => br (fun _ => ?main) (fun _ => rest)) ?rest
    case main =>
      conv => whnf
      refine ⟨⟨shp_eff _, shp_eff .pay⟩, ?_⟩
      conv => whnf
      rw [show (D.str (Str.ofString "pay")) = D.str Eff.pay.str from rfl, eqv_eff]
      refine br (fun he => ?_) fun he => ?_
      · obtain ⟨a, ha⟩ := hok c (List.mem_of_getElem? hc) (of_decide_eq_true he)
        conv => whnf
        refine ⟨rfl, ?_⟩
        rw [ha]
        conv => whnf
        refine ⟨sz, ?_⟩
        exact ⟨ds ++ [⟨c.k, c.e, [a + 1]⟩], ns1, _, _, _, _, _, by rw [← cl_snoc]; rfl, ⟨f3, rfl, rfl, rfl, rfl⟩, next _ rfl⟩
      · exact brB.f rest
    case rest =>
      refine brF rfl ?_
      conv => whnf
      refine ⟨⟨rfl, rfl⟩, ?_⟩
      conv => whnf
      refine br (fun _ => ?_) fun _ => ?_
      · conv => whnf
        refine ⟨sz, ?_⟩
        exact ⟨ds ++ [⟨c.k, .tell, []⟩], ns1, _, _, _, _, _, by rw [← cl_snoc]; rfl, ⟨f3, rfl, rfl, rfl, rfl⟩, next _ rfl⟩
      · conv => whnf
        refine ⟨⟨rfl, rfl⟩, ?_⟩
        conv => whnf
        refine br (fun _ => ?_) fun _ => ?_
        · conv => whnf
          refine ⟨sz, ?_⟩
          exact ⟨ds ++ [c], ns1, _, _, _, _, _, by rw [← cl_snoc]; rfl, ⟨f3, rfl, rfl, rfl, rfl⟩, next _ rfl⟩
        · exact ⟨ds, ns1, _, _, _, _, _, rfl, ⟨f3, rfl, rfl, rfl, rfl⟩, skip, by omega⟩
  · obtain ⟨ds, ns, x3, x4, x5, x6, x7, rfl, ⟨f3, f4, f5, f6, f7⟩, hs, hl2⟩ := hi
    rw [List.length_map] at hs hl2
    rw [List.take_length] at hs
    have hds : (ks ds).Nodup := hnd.sublist hs
    conv => whnf
    refine ⟨rfl, rfl, _, 3, rfl, by decide, by decide, fun es ns1 hes heok hel => ?_⟩
    conv => whnf
    refine ⟨fun i E => ∃ (ds : List Cl) (ns : List Int) (x3 x4 x5 x6 x7 : S), E = [.mu (.lst (ns.map D.int)), .fr (.lst (cs.map cl)), .ow (.lst (ds.map cl)), x3, x4, x5, x6, x7, .un] ∧ (S.free (some x3) = true ∧ S.free (some x4) = true ∧ S.free (some x5) = true ∧ S.free (some x6) = true ∧ S.free (some x7) = true) ∧
        (ks ds).Nodup ∧ ds.length ≤ 50 + i,
      ⟨ds, ns1, _, _, _, _, _, rfl, ⟨f3, f4, f5, f6, f7⟩, hds, by omega⟩, fun i d E' hd hi => ?_, fun E' hi => ?_⟩
    · obtain ⟨c, rfl, hc⟩ := map_at hd
      obtain ⟨ds, ns, x3, x4, x5, x6, x7, rfl, ⟨f3, f4, f5, f6, f7⟩, hs, hl3⟩ := hi
      have i50 : i < 50 := by have := (List.getElem?_eq_some_iff.mp hc).1; omega
      refine ⟨f3, ?_⟩
      conv => whnf
      refine ⟨rfl, ?_⟩
      conv => whnf
      refine ⟨fun j acc E => E = [.mu (.lst (ns.map D.int)), .fr (.lst (cs.map cl)), .ow (.lst (ds.map cl)), .fr (cl c), x4, x5, x6, x7, .un] ∧ acc = (ks (ds.take j)).map ky, ⟨rfl, rfl⟩, fun j acc E h => ?_, fun j d acc E hd h => ?_, fun acc E h _ => ?_⟩
      · obtain ⟨rfl, _⟩ := h
        exact ⟨_, rfl, rfl⟩
      · obtain ⟨rfl, rfl⟩ := h
        obtain ⟨b, rfl, hb⟩ := map_at hd
        refine ⟨rfl, ?_⟩
        conv => whnf
        refine br (fun _ => ?_) fun z => nomatch z
        conv => whnf
        refine ⟨rfl, ?_⟩
        conv => whnf
        refine ⟨?_, rfl, ?_⟩
        · rw [List.length_map, sizeLine_eq]
          unfold ks
          rw [List.length_map, List.length_take]
          omega
        · rw [take_snoc hb]
          exact ky_snoc _ b
      · obtain ⟨rfl, rfl⟩ := h
        rw [List.length_map, List.take_length]
        conv => whnf
        refine ⟨⟨shp_ky c.k, shp_kys (ks ds)⟩, ?_⟩
        conv => whnf
        rw [any_kys]
        refine br (fun he => ?_) fun he => ?_
        · conv => whnf
          refine ⟨rfl, rfl, ns, _, rfl, ?_, fun n1 ns2 hn0 hn1 _ => ?_⟩
          · rw [List.length_map]
            show (0 : Int) < (ds.length : Int) + 1
            omega
          · rw [List.length_map] at hn1
            conv => whnf
            refine ⟨⟨by rw [List.length_map, sizeLine_eq]; omega, hn0, by
              have hn1 : n1 < (ds.length : Int) + 1 := hn1
              omega⟩, ?_⟩
            refine ⟨ds.take n1.toNat ++ c :: ds.drop n1.toNat, ns2, _, _, _, _, _, by rw [← ins_map]; rfl, ⟨rfl, f4, f5, f6, f7⟩, ?_, ?_⟩
            · refine (ks_perm (ins_perm ds c _)).nodup_iff.mpr ?_
              have he' : ¬ c.k ∈ ks ds := by simpa using he
              exact List.nodup_cons.mpr ⟨he', hs⟩
            · rw [(ins_perm ds c _).length_eq, List.length_cons]
              omega
        · exact ⟨ds, ns, _, _, _, _, _, rfl, ⟨rfl, f4, f5, f6, f7⟩, hs, by omega⟩
    · obtain ⟨ds, ns, x3, x4, x5, x6, x7, rfl, _, hs, hl3⟩ := hi
      rw [List.length_map] at hl3
      conv => whnf
      exact ⟨(by decide : 2 ≤ 9), q ds ns hs (by omega)⟩
end K29
set_option Elab.async false
set_option linter.all false
set_option maxRecDepth 100000
set_option maxHeartbeats 4000000
namespace K29
open PySem PySem.Spec PyProof.Rows L2 DL
variable {P : Program} {w : World} {K : Frg} {mg : Str → Option Value} {base : Heap}

def res (a b : List Cl) : D := .tup [.lst ((srt (both a b)).map cl), .lst ((srt (alone a b)).map cl), .lst ((srt (alone b a)).map cl)]
theorem both_snoc {a b : List Cl} {i : Nat} {c : Cl} (h : a[i]? = some c) : both (a.take (i + 1)) b = both (a.take i) b ++ if decide (c ∈ b) = true then [c] else [] := by
  unfold both
  rw [take_snoc h, List.filter_append]
  congr 1
  rw [List.filter_cons]
  rfl
theorem alone_snoc {a b : List Cl} {i : Nat} {c : Cl} (h : a[i]? = some c) : alone (a.take (i + 1)) b = alone (a.take i) b ++ if (!decide (c ∈ b)) = true then [c] else [] := by
  unfold alone
  rw [take_snoc h, List.filter_append]
  congr 1
  rw [List.filter_cons]
  rfl
theorem both_len (a b : List Cl) : (both a b).length ≤ a.length := List.length_filter_le _ _
theorem alone_len (a b : List Cl) : (alone a b).length ≤ a.length := List.length_filter_le _ _
theorem take_len {α : Type} (l : List α) (i : Nat) : (l.take i).length ≤ l.length := by rw [List.length_take]; omega
theorem srt_map (l : List Cl) : sortD (l.map cl) = (srt l).map cl := sort_map l
/-- a comprehension that keeps the calls that both have, that one has alone -/
theorem keep_both {a b : List Cl} {E : Nat → List S} {T : TB} {j : Nat} : True := trivial
def sd_difference : SpD := fun args Q => ∃ (a b : List Cl), args = [.fr (.lst (a.map cl)), .fr (.lst (b.map cl))] ∧ a.length ≤ 1000 ∧ b.length ≤ 1000 ∧ Q (.fr (res a b)) [.un, .un]
theorem ok_difference (T : Tx K mg) : FnOk P w K mg base CX0 1 T.f_difference T.fd_difference ["past", "now"] (spD K 2 sd_difference) := by
  refine fn_D (k := 0) T.d_difference.F sc_difference (fun H0 Fm Z0 vs cdv A outer s H Ex hr =>
    have nd := sc_difference.nd; have u64 := hr.units; have u65 := u65_of hr; have u70 := u70_of hr
    (dss_cons (ds_setlc 2 nd (di_seq (de_v 0)) (blkOk_by (own := [("call", 5)]) (N := N_difference) (sc := defScope s_difference) (by decide +kernel)) (fun _ _ _ _ _ => (dg_n 5 nd)) (fun _ _ _ _ _ => dts_one (dt_in u65 (de_v 5) (db_v 1))) (fun _ _ _ _ _ => (de_v 5)))
    (dss_cons (ds_setlc 3 nd (di_seq (de_v 0)) (blkOk_by (own := [("call", 5)]) (N := N_difference) (sc := defScope s_difference) (by decide +kernel)) (fun _ _ _ _ _ => (dg_n 5 nd)) (fun _ _ _ _ _ => dts_one (dt_nin u65 (de_v 5) (db_v 1))) (fun _ _ _ _ _ => (de_v 5)))
    (dss_cons (ds_setlc 4 nd (di_seq (de_v 1)) (blkOk_by (own := [("call", 5)]) (N := N_difference) (sc := defScope s_difference) (by decide +kernel)) (fun _ _ _ _ _ => (dg_n 5 nd)) (fun _ _ _ _ _ => dts_one (dt_nin u65 (de_v 5) (db_v 0))) (fun _ _ _ _ _ => (de_v 5)))
    (dss_one (ds_ret (de_tup (da_cons (de_n (dn_sorted u70 T.m_sorted (db_v 2))) (da_cons (de_n (dn_sorted u70 T.m_sorted (db_v 3))) (da_cons (de_n (dn_sorted u70 T.m_sorted (db_v 4))) da_nil)))))))))) (fun args Qd hl h => ?_)
  obtain ⟨a, b, rfl, ha, hb, q⟩ := h
  conv => whnf
  refine ⟨fun j acc E => E = [.fr (.lst (a.map cl)), .fr (.lst (b.map cl)), .un, .un, .un, .un] ∧ acc = (both (a.take j) b).map cl, ⟨rfl, rfl⟩, fun j d acc E hd h => ?_, fun acc E h _ => ?_⟩
  · obtain ⟨rfl, rfl⟩ := h
    obtain ⟨c, rfl, hc⟩ := map_at hd
    refine ⟨rfl, ?_⟩
    conv => whnf
    refine ⟨⟨shp_cl c, shp_cls b⟩, ?_⟩
    conv => whnf
    rw [any_cls]
    have sn := both_snoc (b := b) hc
    refine br (fun he => ?_) fun he => ?_
    · rw [if_pos he] at sn
      conv => whnf
      refine ⟨?_, rfl, ?_⟩
      · rw [List.length_map, sizeLine_eq]
        have h1 := both_len (a.take j) b
        have h2 := take_len a j
        omega
      · rw [sn]
        exact cl_snoc _ c
    · rw [if_neg (by rw [he]; exact Bool.false_ne_true), List.append_nil] at sn
      exact ⟨rfl, by rw [sn]⟩
  obtain ⟨rfl, rfl⟩ := h
  rw [List.length_map, List.take_length]
  conv => whnf
  refine ⟨rfl, ?_⟩
  conv => whnf
  refine ⟨fun j acc E => E = [.fr (.lst (a.map cl)), .fr (.lst (b.map cl)), .ow (.lst ((both a b).map cl)), .un, .un, .un] ∧ acc = (alone (a.take j) b).map cl, ⟨rfl, rfl⟩, fun j d acc E hd h => ?_, fun acc E h _ => ?_⟩
  · obtain ⟨rfl, rfl⟩ := h
    obtain ⟨c, rfl, hc⟩ := map_at hd
    refine ⟨rfl, ?_⟩
    conv => whnf
    refine ⟨⟨shp_cl c, shp_cls b⟩, ?_⟩
    conv => whnf
    rw [any_cls]
    have sn := alone_snoc (b := b) hc
    refine br (fun he => ?_) fun he => ?_
    · rw [if_pos he] at sn
      conv => whnf
      refine ⟨?_, rfl, ?_⟩
      · rw [List.length_map, sizeLine_eq]
        have h1 := alone_len (a.take j) b
        have h2 := take_len a j
        omega
      · rw [sn]
        exact cl_snoc _ c
    · rw [if_neg (by rw [he]; exact Bool.false_ne_true), List.append_nil] at sn
      exact ⟨rfl, by rw [sn]⟩
  obtain ⟨rfl, rfl⟩ := h
  rw [List.length_map, List.take_length]
  conv => whnf
  refine ⟨rfl, ?_⟩
  conv => whnf
  refine ⟨fun j acc E => E = [.fr (.lst (a.map cl)), .fr (.lst (b.map cl)), .ow (.lst ((both a b).map cl)), .ow (.lst ((alone a b).map cl)), .un, .un] ∧ acc = (alone (b.take j) a).map cl, ⟨rfl, rfl⟩, fun j d acc E hd h => ?_, fun acc E h _ => ?_⟩
  · obtain ⟨rfl, rfl⟩ := h
    obtain ⟨c, rfl, hc⟩ := map_at hd
    refine ⟨rfl, ?_⟩
    conv => whnf
    refine ⟨⟨shp_cl c, shp_cls a⟩, ?_⟩
    conv => whnf
    rw [any_cls]
    have sn := alone_snoc (b := a) hc
    refine br (fun he => ?_) fun he => ?_
    · rw [if_pos he] at sn
      conv => whnf
      refine ⟨?_, rfl, ?_⟩
      · rw [List.length_map, sizeLine_eq]
        have h1 := alone_len (b.take j) a
        have h2 := take_len b j
        omega
      · rw [sn]
        exact cl_snoc _ c
    · rw [if_neg (by rw [he]; exact Bool.false_ne_true), List.append_nil] at sn
      exact ⟨rfl, by rw [sn]⟩
  obtain ⟨rfl, rfl⟩ := h
  rw [List.length_map, List.take_length]
  conv => whnf
  refine ⟨rfl, ?_⟩
  conv => whnf
  refine ⟨sort_ok _ (Nat.le_trans (both_len a b) ha), ?_⟩
  conv => whnf
  refine ⟨sort_ok _ (Nat.le_trans (alone_len a b) ha), ?_⟩
  conv => whnf
  refine ⟨sort_ok _ (Nat.le_trans (alone_len b a) hb), ?_⟩
  rw [srt_map, srt_map, srt_map]
  exact ⟨(by decide : 2 ≤ 6), q⟩
end K29
set_option Elab.async false
set_option linter.all false
set_option maxRecDepth 100000
set_option maxHeartbeats 4000000
namespace K29
open PySem PySem.Spec PyProof.Rows L2 DL
variable {P : Program} {w : World} {K : Frg} {mg : Str → Option Value} {base : Heap}

theorem eqvAll_cls : ∀ a b : List Cl, PyData.eqvAll (D.pys (a.map cl)) (D.pys (b.map cl)) = decide (a = b)
  | [], [] => rfl
  | [], _ :: _ => rfl
  | _ :: _, [] => rfl
  | a :: l, b :: m => by
    show ((cl a).eqv (cl b) && PyData.eqvAll (D.pys (l.map cl)) (D.pys (m.map cl))) = _
    rw [eqvAll_cls l m, eqv_cl]
    by_cases h : a = b
    · subst h; simp
    · simp [h]
def l3 (a b c : List Cl) : D := .tup [.lst (a.map cl), .lst (b.map cl), .lst (c.map cl)]
def l2 (a b : List Cl) : D := .tup [.lst (a.map cl), .lst (b.map cl)]
theorem eqv_l3 (a b c : List Cl) : (l3 a b c).eqv (l3 a b c) = true := by
  show (PyData.eqvAll _ _ && (PyData.eqvAll _ _ && (PyData.eqvAll _ _ && true))) = true
  rw [eqvAll_cls, eqvAll_cls, eqvAll_cls]
  simp
theorem eqv_l2 (a b : List Cl) : (l2 a b).eqv (l2 a b) = true := by
  show (PyData.eqvAll _ _ && (PyData.eqvAll _ _ && true)) = true
  rw [eqvAll_cls, eqvAll_cls]
  simp
theorem eqv_l1 (a : List Cl) : (D.lst (a.map cl)).eqv (.lst (a.map cl)) = true := by
  show PyData.eqvAll _ _ = true
  rw [eqvAll_cls]
  simp
theorem lay_cls (l : List Cl) : (D.lst (l.map cl)).py.canLay0 = true := lay_list cl lay_cl l
theorem dep_cls (l : List Cl) : (D.lst (l.map cl)).py.depth ≤ 4 := Nat.succ_le_succ (dep_list cl (fun c => by rw [dep_cl]; decide) l)
theorem shp_l3 (a b c : List Cl) : (l3 a b c).shp = true := by
  refine shp_of (show (_ && (_ && (_ && true))) = true by rw [lay_cls, lay_cls, lay_cls]; rfl) ?_
  show max (D.lst (a.map cl)).py.depth (max (D.lst (b.map cl)).py.depth (max (D.lst (c.map cl)).py.depth 0)) + 1 ≤ 64
  have h1 := dep_cls a
  have h2 := dep_cls b
  have h3 := dep_cls c
  omega
theorem shp_l2 (a b : List Cl) : (l2 a b).shp = true := by
  refine shp_of (show (_ && (_ && true)) = true by rw [lay_cls, lay_cls]; rfl) ?_
  show max (D.lst (a.map cl)).py.depth (max (D.lst (b.map cl)).py.depth 0) + 1 ≤ 64
  have h1 := dep_cls a
  have h2 := dep_cls b
  omega
theorem srt_len (l : List Cl) : (srt l).length = l.length := (srt_self l).length_eq
theorem srt_nil : srt [] = [] := by unfold srt; exact List.mergeSort_nil
theorem nt {b : Bool} (h : b = true) : (!b) = false := by rw [h]; rfl
theorem nodup_of_ks {l : List Cl} (h : (ks l).Nodup) : l.Nodup := by
  unfold ks at h
  have := h
  rw [List.nodup_iff_pairwise_ne] at this ⊢
  rw [List.pairwise_map] at this
  exact this.imp fun {a b} h e => h (by rw [e])
abbrev sd_law := DL.sdLaw
theorem ok_law (T : Tx K mg) : FnOk P w K mg base CX0 5 T.f_law T.fd_law ["_law_script"] (spD K 1 sd_law) := by
  have G_l_numbers := ok_l_numbers (P := P) (w := w) (base := base) T
  have G_l_calls := ok_l_calls (P := P) (w := w) (base := base) T
  have G_l_near := ok_l_near (P := P) (w := w) (base := base) T
  have G_difference := ok_difference (P := P) (w := w) (base := base) T
  refine fn_D (k := 4) T.d_law.F sc_law (fun H0 Fm Z0 vs cdv A outer s H Ex hr =>
    have nd := sc_law.nd; have u64 := hr.units; have u65 := u65_of hr; have u70 := u70_of hr
    (dss_cons (ds_setn 1 nd (dcalln G_l_numbers T.d_l_numbers (hr.mono (by decide)) (dm_d (de_v 0) (dm_d de_int dm_nil))))
    (dss_cons (ds_setn 2 nd (dcalln G_l_calls T.d_l_calls (hr.mono (by decide)) (dm_m 1 (dm_d de_int dm_nil))))
    (dss_cons (ds_setn 3 nd (dcalln G_l_near T.d_l_near (hr.mono (by decide)) (dm_m 1 (dm_d (de_v 2) dm_nil))))
    (dss_cons (ds_set 4 nd (de_tup (da_cons (de_n (dn_sorted u70 T.m_sorted (db_e (de_n (dn_lc nd (di_seq (de_v 2)) (blkOk_by (own := [("_law_call_here", 6)]) (N := N_law) (sc := defScope s_law) (by decide +kernel)) (fun _ _ _ _ _ => (dg_n 6 nd)) (fun _ _ _ _ _ => dts_one (dt_in u65 (de_v 6) (db_v 3))) (fun _ _ _ _ _ => (de_v 6))))))) (da_cons (de_n (dn_sorted u70 T.m_sorted (db_e (de_n (dn_lc nd (di_seq (de_v 2)) (blkOk_by (own := [("_law_call_here", 6)]) (N := N_law) (sc := defScope s_law) (by decide +kernel)) (fun _ _ _ _ _ => (dg_n 6 nd)) (fun _ _ _ _ _ => dts_one (dt_nin u65 (de_v 6) (db_v 3))) (fun _ _ _ _ _ => (de_v 6))))))) (da_cons (de_n (dn_sorted u70 T.m_sorted (db_e (de_n (dn_lc nd (di_seq (de_v 3)) (blkOk_by (own := [("_law_call_here", 6)]) (N := N_law) (sc := defScope s_law) (by decide +kernel)) (fun _ _ _ _ _ => (dg_n 6 nd)) (fun _ _ _ _ _ => dts_one (dt_nin u65 (de_v 6) (db_v 2))) (fun _ _ _ _ _ => (de_v 6))))))) da_nil)))))
    (dss_cons (ds_set 5 nd (de_tup (da_cons (de_n (dn_list T.m_list (db_v 2))) (da_cons (de_n (dn_list T.m_list (db_v 3))) da_nil))))
    (dss_cons (ds_if (dt_w (dw_or (dt_cmp (o_ne u64) (dcall G_difference T.d_difference (hr.mono (by decide)) (dm_d (de_ixo 5 de_int) (dm_d (de_ixo 5 de_int) dm_nil))) (de_v 4)) (dw_or1 (dt_cmp (o_ne u64) (de_v 5) (de_tup (da_cons (de_v 2) (da_cons (de_v 3) da_nil))))))) (dss_one (ds_ret de_bl)) dss_nil)
    (dss_cons (ds_if (dt_w (dw_or (dt_cmp (o_ne u64) (dcall G_difference T.d_difference (hr.mono (by decide)) (dm_d (de_v 3) (dm_d (de_v 2) dm_nil))) (de_tup (da_cons (de_ixo 4 de_int) (da_cons (de_ixo 4 de_int) (da_cons (de_ixo 4 de_int) da_nil))))) (dw_or1 (dt_cmp (o_ne u64) (dcall G_difference T.d_difference (hr.mono (by decide)) (dm_d (de_v 2) (dm_d (de_v 2) dm_nil))) (de_tup (da_cons (de_n (dn_sorted u70 T.m_sorted (db_v 2))) (da_cons (de_n (dn_lst da_nil)) (da_cons (de_n (dn_lst da_nil)) da_nil)))))))) (dss_one (ds_ret de_bl)) dss_nil)
    (dss_one (ds_ret (de_and (de_cmp (o_eq u64) (de_n (dn_sorted u70 T.m_sorted (db_e (de_n (dn_cat (de_ixo 4 de_int) (db_e (de_ixo 4 de_int))))))) (de_n (dn_sorted u70 T.m_sorted (db_v 2)))) (de_one (de_cmp (o_eq u64) (dcall G_difference T.d_difference (hr.mono (by decide)) (dm_d (de_n (dn_lst da_nil)) (dm_d (de_n (dn_lst da_nil)) dm_nil))) (de_tup (da_cons (de_n (dn_lst da_nil)) (da_cons (de_n (dn_lst da_nil)) (da_cons (de_n (dn_lst da_nil)) da_nil))))))))))))))))) (fun args Qd hl h => ?_)
  obtain ⟨ns, rfl, hn, q⟩ := h
  conv => whnf
  refine ⟨rfl, ns, 60, rfl, hn, by decide, by decide, fun r1 => ?_⟩
  conv => whnf
  refine ⟨rfl, ?_⟩
  conv => whnf
  refine ⟨rfl, rfl, r1, 6, rfl, by decide, by decide, fun a r2 hka hoa hla => ?_⟩
  conv => whnf
  refine ⟨rfl, ?_⟩
  conv => whnf
  refine ⟨rfl, rfl, r2, a, rfl, hka, hoa, hla, fun b r3 hkb hlb => ?_⟩
  conv => whnf
  refine ⟨rfl, ?_⟩
  conv => whnf
  have na := nodup_of_ks hka
  have nb := nodup_of_ks hkb
  have la : a.length ≤ 1000 := by omega
  have lb : b.length ≤ 1000 := by omega
  refine ⟨fun j acc E => E = [.fr (.scr (ns.map D.int)), .ow (.lst (r3.map D.int)), .fr (.lst (a.map cl)), .ow (.lst (b.map cl)), .un, .un, .un] ∧ acc = (both (a.take j) b).map cl, ⟨rfl, rfl⟩, fun j d acc E hd h => ?_, fun acc E h _ => ?_⟩
  · obtain ⟨rfl, rfl⟩ := h
    obtain ⟨c, rfl, hc⟩ := map_at hd
    refine ⟨rfl, ?_⟩
    conv => whnf
    refine ⟨⟨shp_cl c, shp_cls b⟩, ?_⟩
    conv => whnf
    rw [any_cls]
    have sn := both_snoc (b := b) hc
    refine br (fun he => ?_) fun he => ?_
    · rw [if_pos he] at sn
      conv => whnf
      refine ⟨?_, rfl, ?_⟩
      · rw [List.length_map, sizeLine_eq]
        have h1 := both_len (a.take j) b
        have h2 := take_len a j
        omega
      · rw [sn]
        exact cl_snoc _ c
    · rw [if_neg (by rw [he]; exact Bool.false_ne_true), List.append_nil] at sn
      exact ⟨rfl, by rw [sn]⟩
  obtain ⟨rfl, rfl⟩ := h
  rw [List.length_map, List.take_length]
  conv => whnf
  refine ⟨sort_ok _ (Nat.le_trans (both_len a b) la), ?_⟩
  conv => whnf
  refine ⟨fun j acc E => E = [.fr (.scr (ns.map D.int)), .ow (.lst (r3.map D.int)), .fr (.lst (a.map cl)), .ow (.lst (b.map cl)), .un, .un, .un] ∧ acc = (alone (a.take j) b).map cl, ⟨rfl, rfl⟩, fun j d acc E hd h => ?_, fun acc E h _ => ?_⟩
  · obtain ⟨rfl, rfl⟩ := h
    obtain ⟨c, rfl, hc⟩ := map_at hd
    refine ⟨rfl, ?_⟩
    conv => whnf
    refine ⟨⟨shp_cl c, shp_cls b⟩, ?_⟩
    conv => whnf
    rw [any_cls]
    have sn := alone_snoc (b := b) hc
    refine br (fun he => ?_) fun he => ?_
    · rw [if_pos he] at sn
      conv => whnf
      refine ⟨?_, rfl, ?_⟩
      · rw [List.length_map, sizeLine_eq]
        have h1 := alone_len (a.take j) b
        have h2 := take_len a j
        omega
      · rw [sn]
        exact cl_snoc _ c
    · rw [if_neg (by rw [he]; exact Bool.false_ne_true), List.append_nil] at sn
      exact ⟨rfl, by rw [sn]⟩
  obtain ⟨rfl, rfl⟩ := h
  rw [List.length_map, List.take_length]
  conv => whnf
  refine ⟨sort_ok _ (Nat.le_trans (alone_len a b) la), ?_⟩
  conv => whnf
  refine ⟨fun j acc E => E = [.fr (.scr (ns.map D.int)), .ow (.lst (r3.map D.int)), .fr (.lst (a.map cl)), .fr (.lst (b.map cl)), .un, .un, .un] ∧ acc = (alone (b.take j) a).map cl, ⟨rfl, rfl⟩, fun j d acc E hd h => ?_, fun acc E h _ => ?_⟩
  · obtain ⟨rfl, rfl⟩ := h
    obtain ⟨c, rfl, hc⟩ := map_at hd
    refine ⟨rfl, ?_⟩
    conv => whnf
    refine ⟨⟨shp_cl c, shp_cls a⟩, ?_⟩
    conv => whnf
    rw [any_cls]
    have sn := alone_snoc (b := a) hc
    refine br (fun he => ?_) fun he => ?_
    · rw [if_pos he] at sn
      conv => whnf
      refine ⟨?_, rfl, ?_⟩
      · rw [List.length_map, sizeLine_eq]
        have h1 := alone_len (b.take j) a
        have h2 := take_len b j
        omega
      · rw [sn]
        exact cl_snoc _ c
    · rw [if_neg (by rw [he]; exact Bool.false_ne_true), List.append_nil] at sn
      exact ⟨rfl, by rw [sn]⟩
  obtain ⟨rfl, rfl⟩ := h
  rw [List.length_map, List.take_length]
  conv => whnf
  refine ⟨sort_ok _ (Nat.le_trans (alone_len b a) lb), ?_⟩
  rw [srt_map, srt_map, srt_map]
  conv => whnf
  refine ⟨rfl, ?_⟩
  conv => whnf
  refine ⟨rfl, ?_⟩
  conv => whnf
  refine ⟨rfl, rfl, rfl, a, b, rfl, la, lb, ?_⟩
  conv => whnf
  refine ⟨⟨shp_l3 _ _ _, shp_l3 _ _ _⟩, ?_⟩
  conv => whnf
  refine brF (nt (eqv_l3 _ _ _)) ?_
  conv => whnf
  refine ⟨⟨shp_l2 a b, shp_l2 a b⟩, ?_⟩
  conv => whnf
  refine brF (nt (eqv_l2 a b)) ?_
  conv => whnf
  refine ⟨rfl, b, a, rfl, lb, la, ?_⟩
  conv => whnf
  refine ⟨rfl, ?_⟩
  conv => whnf
  refine ⟨rfl, ?_⟩
  conv => whnf
  refine ⟨rfl, ?_⟩
  conv => whnf
  refine ⟨⟨shp_l3 _ _ _, shp_l3 (srt (both a b)) (srt (alone b a)) (srt (alone a b))⟩, ?_⟩
  conv => whnf
  have e1 : (res b a).eqv (l3 (srt (both a b)) (srt (alone b a)) (srt (alone a b))) = true := by
    have e : res b a = l3 (srt (both a b)) (srt (alone b a)) (srt (alone a b)) := by
      unfold res l3
      rw [srt_perm (both_comm na nb)]
    rw [e]
    exact eqv_l3 _ _ _
  refine brF (nt e1) ?_
  conv => whnf
  refine ⟨rfl, a, a, rfl, la, la, ?_⟩
  conv => whnf
  refine ⟨sort_ok _ la, ?_⟩
  conv => whnf
  rw [srt_map]
  refine ⟨⟨shp_l3 _ _ _, shp_l3 (srt a) [] []⟩, ?_⟩
  conv => whnf
  have e2 : (res a a).eqv (l3 (srt a) [] []) = true := by
    have e : res a a = l3 (srt a) [] [] := by
      unfold res l3
      rw [both_self, alone_self, srt_nil]
    rw [e]
    exact eqv_l3 _ _ _
  refine brF (nt e2) ?_
  conv => whnf
  refine ⟨rfl, ?_⟩
  conv => whnf
  refine ⟨rfl, ?_⟩
  conv => whnf
  have s1 := srt_len (both a b)
  have s2 := srt_len (alone a b)
  have s3 := both_len a b
  have s4 := alone_len a b
  refine ⟨by rw [List.length_map, List.length_map, sizeLine_eq]; omega, ?_⟩
  rw [← List.map_append]
  conv => whnf
  refine ⟨sort_ok _ (by rw [List.length_append]; omega), ?_⟩
  conv => whnf
  rw [srt_map, srt_parts]
  refine ⟨sort_ok _ la, ?_⟩
  conv => whnf
  rw [srt_map]
  refine ⟨⟨shp_cls _, shp_cls _⟩, ?_⟩
  conv => whnf
  refine brT (eqv_l1 _) ?_
  conv => whnf
  refine ⟨rfl, [], [], rfl, by decide, by decide, ?_⟩
  conv => whnf
  refine ⟨⟨shp_l3 _ _ _, shp_l3 [] [] []⟩, ?_⟩
  have e3 : (res [] []).eqv (l3 [] [] []) = true := by
    have e : res [] [] = l3 [] [] [] := by
      unfold res l3
      rw [both_self, alone_self, srt_nil]
    rw [e]
    exact eqv_l3 _ _ _
  have q2 := q
  rw [← e3] at q2
  exact ⟨(by decide : 1 ≤ 7), q2⟩
end K29
set_option Elab.async false
set_option linter.all false
set_option maxRecDepth 100000
set_option maxHeartbeats 4000000
namespace K29
open PySem PySem.Spec PyProof.Rows L2 DL
variable {P : Program} {w : World} {K : Frg} {mg : Str → Option Value} {base : Heap}
theorem all_mk {l : PySem.W.OpenLaw} {w : World} {K : PySem.W.Frag} {h : Heap} {mg : Str → Option Value} {fa f0 f1 f2 f3 f4 f5 f6 f7 : Addr} (X : K.In h) (G : h.Ns mainGlobals mg) (hfa : mg "law" = some (.ref fa))
    {od0 an0 od1 an1 od2 an2 od3 an3 od4 an4 od5 an5 od6 an6 od7 an7 : Option Addr} {sl0 sl1 sl2 sl3 sl4 sl5 sl6 sl7 : Array (Option Value)} {oc0 kV0 dc0 pm0 cd0 ct0 oc1 kV1 dc1 pm1 cd1 ct1 oc2 kV2 dc2 pm2 cd2 ct2 oc3 kV3 dc3 pm3 cd3 ct3 oc4 kV4 dc4 pm4 cd4 ct4 oc5 kV5 dc5 pm5 cd5 ct5 oc6 kV6 dc6 pm6 cd6 ct6 oc7 kV7 dc7 pm7 cd7 ct7 : Value}
    (a0 : PySem.W.nsIn K mainGlobals "_law_mix" = some (some (.ref f0))) (l0 : K.lookup f0 = some ⟨oc0, od0, .func (PySem.W.fnOf "_law_mix" "_law_mix" (defArgs s_l_mix) (defBody s_l_mix) (defScope s_l_mix) .none kV0 dc0 pm0 an0 cd0 ct0), sl0⟩) (c0 : PySem.W.codeIn K cd0 "_law_mix" = true) (k0 : PySem.W.keepIn K (.ref f0) = true)
    (a1 : PySem.W.nsIn K mainGlobals "_law_numbers" = some (some (.ref f1))) (l1 : K.lookup f1 = some ⟨oc1, od1, .func (PySem.W.fnOf "_law_numbers" "_law_numbers" (defArgs s_l_numbers) (defBody s_l_numbers) (defScope s_l_numbers) .none kV1 dc1 pm1 an1 cd1 ct1), sl1⟩) (c1 : PySem.W.codeIn K cd1 "_law_numbers" = true) (k1 : PySem.W.keepIn K (.ref f1) = true)
    (a2 : PySem.W.nsIn K mainGlobals "_law_take" = some (some (.ref f2))) (l2 : K.lookup f2 = some ⟨oc2, od2, .func (PySem.W.fnOf "_law_take" "_law_take" (defArgs s_l_take) (defBody s_l_take) (defScope s_l_take) .none kV2 dc2 pm2 an2 cd2 ct2), sl2⟩) (c2 : PySem.W.codeIn K cd2 "_law_take" = true) (k2 : PySem.W.keepIn K (.ref f2) = true)
    (a3 : PySem.W.nsIn K mainGlobals "_law_call" = some (some (.ref f3))) (l3 : K.lookup f3 = some ⟨oc3, od3, .func (PySem.W.fnOf "_law_call" "_law_call" (defArgs s_l_call) (defBody s_l_call) (defScope s_l_call) .none kV3 dc3 pm3 an3 cd3 ct3), sl3⟩) (c3 : PySem.W.codeIn K cd3 "_law_call" = true) (k3 : PySem.W.keepIn K (.ref f3) = true)
    (a4 : PySem.W.nsIn K mainGlobals "_law_calls" = some (some (.ref f4))) (l4 : K.lookup f4 = some ⟨oc4, od4, .func (PySem.W.fnOf "_law_calls" "_law_calls" (defArgs s_l_calls) (defBody s_l_calls) (defScope s_l_calls) .none kV4 dc4 pm4 an4 cd4 ct4), sl4⟩) (c4 : PySem.W.codeIn K cd4 "_law_calls" = true) (k4 : PySem.W.keepIn K (.ref f4) = true)
    (a5 : PySem.W.nsIn K mainGlobals "_law_near" = some (some (.ref f5))) (l5 : K.lookup f5 = some ⟨oc5, od5, .func (PySem.W.fnOf "_law_near" "_law_near" (defArgs s_l_near) (defBody s_l_near) (defScope s_l_near) .none kV5 dc5 pm5 an5 cd5 ct5), sl5⟩) (c5 : PySem.W.codeIn K cd5 "_law_near" = true) (k5 : PySem.W.keepIn K (.ref f5) = true)
    (a6 : PySem.W.nsIn K mainGlobals "difference" = some (some (.ref f6))) (l6 : K.lookup f6 = some ⟨oc6, od6, .func (PySem.W.fnOf "difference" "difference" (defArgs s_difference) (defBody s_difference) (defScope s_difference) .none kV6 dc6 pm6 an6 cd6 ct6), sl6⟩) (c6 : PySem.W.codeIn K cd6 "difference" = true) (k6 : PySem.W.keepIn K (.ref f6) = true)
    (a7 : PySem.W.nsIn K mainGlobals "law" = some (some (.ref f7))) (l7 : K.lookup f7 = some ⟨oc7, od7, .func (PySem.W.fnOf "law" "law" (defArgs s_law) (defBody s_law) (defScope s_law) .none kV7 dc7 pm7 an7 cd7 ct7), sl7⟩) (c7 : PySem.W.codeIn K cd7 "law" = true) (k7 : PySem.W.keepIn K (.ref f7) = true)
    (z0 : PySem.W.nsIn K mainGlobals "sorted" = some none)
    (z1 : PySem.W.nsIn K mainGlobals "int" = some none)
    (z2 : PySem.W.nsIn K mainGlobals "range" = some none)
    (z3 : PySem.W.nsIn K mainGlobals "len" = some none)
    (z4 : PySem.W.nsIn K mainGlobals "list" = some none)
    : ∃ fd : FuncData, (∀ (s : Shared) (v : Value), BindsTo s fd ⟨[v], []⟩ [("_law_script", v)]) ∧ ∀ base : Heap, K.In base → base.Ns mainGlobals mg → FnOk l.prog w K mg base CX0 5 fa fd ["_law_script"] (spD K 1 sdLaw) := by
  have e := hfa.symm.trans (PySem.W.mg_of X G a7)
  cases e
  have F0 := fun_mk (st := s_l_mix) l0 c0 k0
  have b0 := F0.binds (ps := ["_law_number", "_law_k"]) fun _ _ _ _ _ _ us hl => match us, hl with | [_, _], _ => rfl
  have F1 := fun_mk (st := s_l_numbers) l1 c1 k1
  have b1 := F1.binds (ps := ["_law_script", "_law_count"]) fun _ _ _ _ _ _ us hl => match us, hl with | [_, _], _ => rfl
  have F2 := fun_mk (st := s_l_take) l2 c2 k2
  have b2 := F2.binds (ps := ["_law_row", "_law_bound"]) fun _ _ _ _ _ _ us hl => match us, hl with | [_, _], _ => rfl
  have F3 := fun_mk (st := s_l_call) l3 c3 k3
  have b3 := F3.binds (ps := ["_law_row", "_law_keys"]) fun _ _ _ _ _ _ us hl => match us, hl with | [_, _], _ => rfl
  have F4 := fun_mk (st := s_l_calls) l4 c4 k4
  have b4 := F4.binds (ps := ["_law_row", "_law_most"]) fun _ _ _ _ _ _ us hl => match us, hl with | [_, _], _ => rfl
  have F5 := fun_mk (st := s_l_near) l5 c5 k5
  have b5 := F5.binds (ps := ["_law_row", "_law_calls_here"]) fun _ _ _ _ _ _ us hl => match us, hl with | [_, _], _ => rfl
  have F6 := fun_mk (st := s_difference) l6 c6 k6
  have b6 := F6.binds (ps := ["past", "now"]) fun _ _ _ _ _ _ us hl => match us, hl with | [_, _], _ => rfl
  have F7 := fun_mk (st := s_law) l7 c7 k7
  have b7 := F7.binds (ps := ["_law_script"]) fun _ _ _ _ _ _ us hl => match us, hl with | [_], _ => rfl
  let T : Tx K mg := ⟨_, _, ⟨F0, PySem.W.mg_of X G a0, b0⟩, _, _, ⟨F1, PySem.W.mg_of X G a1, b1⟩, _, _, ⟨F2, PySem.W.mg_of X G a2, b2⟩, _, _, ⟨F3, PySem.W.mg_of X G a3, b3⟩, _, _, ⟨F4, PySem.W.mg_of X G a4, b4⟩, _, _, ⟨F5, PySem.W.mg_of X G a5, b5⟩, _, _, ⟨F6, PySem.W.mg_of X G a6, b6⟩, _, _, ⟨F7, PySem.W.mg_of X G a7, b7⟩, PySem.W.mg_none_of X G z0, PySem.W.mg_none_of X G z1, PySem.W.mg_none_of X G z2, PySem.W.mg_none_of X G z3, PySem.W.mg_none_of X G z4⟩
  exact ⟨_, fun s v => .of_eq rfl, fun base _ _ => ok_law T⟩
end K29
open PySem PySem.W PyProof.Rows
set_option maxHeartbeats 0 in
theorem PySem.Challenge.cw_retroact_k29_differences_of_calls_holds : PySem.Challenge.rw_retroact_k29_differences_of_calls.Holds := by
  w_on; o_law; k_head; (case hw => w_witness2)
  k_fill
  refine L2.walk_of (l := PySem.Challenge.rw_retroact_k29_differences_of_calls) (n := 63) (k := 5) (x := "_law_script") (CX := fun _ => L2.CX0) (sp := fun w => DL.spD _ 1 DL.sdLaw) rfl (by decide) rfl ⟨rfl, by decide, by decide⟩ (fun w h Y => PySem.W.kIn_of Y) ?F (fun _ _ a ns hl _ hS => DL.law_sp hl hS) (fun _ _ _ _ _ h => h)
  case F =>
    intro w mg fa h KX G hmg
    refine' K29.all_mk KX G hmg ?a0 ?l0 ?c0 ?k0 ?a1 ?l1 ?c1 ?k1 ?a2 ?l2 ?c2 ?k2 ?a3 ?l3 ?c3 ?k3 ?a4 ?l4 ?c4 ?k4 ?a5 ?l5 ?c5 ?k5 ?a6 ?l6 ?c6 ?k6 ?a7 ?l7 ?c7 ?k7 ?z0 ?z1 ?z2 ?z3 ?z4
    (case a0 => k_is); (case l0 => k_is); (case c0 => k_is); (case k0 => k_is); (case a1 => k_is); (case l1 => k_is); (case c1 => k_is); (case k1 => k_is); (case a2 => k_is); (case l2 => k_is); (case c2 => k_is); (case k2 => k_is); (case a3 => k_is); (case l3 => k_is); (case c3 => k_is); (case k3 => k_is); (case a4 => k_is); (case l4 => k_is); (case c4 => k_is); (case k4 => k_is); (case a5 => k_is); (case l5 => k_is); (case c5 => k_is); (case k5 => k_is); (case a6 => k_is); (case l6 => k_is); (case c6 => k_is); (case k6 => k_is); (case a7 => k_is); (case l7 => k_is); (case c7 => k_is); (case k7 => k_is); (case z0 => k_is); (case z1 => k_is); (case z2 => k_is); (case z3 => k_is); (case z4 => k_is)
