import PyProof.Rows.All
import Wide.All
import OpenK.AllK
import Wide.FinOn
import HandS.ForMost
import HandS.Deep
import HandS.Conv
import HandS.Wide
import KE.SortData
import KE.SortLaws
import HandS.More
import HandS.RevTup
import HandS.IsInst
import HandS.Exc
import HandS.ExcOwn
import HandS.CallSlots
import HandS.ExcInit
import HandS.ExcField
import HandS.WordsExc
import HandS.DeepEq
import HandS.Zip
import HandS.CallLocal
import PySem.Challenge.RW_retroact_k30_prices_of_deeds
set_option Elab.async false
set_option linter.all false
set_option maxRecDepth 100000
set_option maxHeartbeats 4000000
/-! DL: readings over data, without the heap. Part a: data, what stands for it, worlds. -/
namespace DL
open PySem PySem.Spec PyProof.Rows L2

abbrev Frg := PySem.W.Frag
abbrev Sg := L2.St
/-- data -/
inductive D where
  | non | bl (b : Bool) | int (i : Int) | str (x : Str)
  | tup (ds : List D) | lst (ds : List D)
  | dic (ks : List Key) (ds : List D) | obj (C : Addr) (ns : List Str) (ds : List D)
  | scr (ds : List D)
  | kon (a : Addr)
  deriving Inhabited

/-- a list that stays as it is -/
def LsR (Z : Addr → Prop) (H : Hp) (a : Addr) (vs : List V) : Prop := (Z a ∧ H a = some (.lst vs)) ∨ ∃ o, H a = some (.frz o (.lst vs))
/-- .., it may be an object of the written part (the script) -/
def LsS (K : Frg) (Z : Addr → Prop) (H : Hp) (a : Addr) (vs : List V) : Prop := LsR Z H a vs ∨
    ∃ (o : Obj) (its : Array Value) (n : Nat), K.lookup a = some o ∧ o.cls = .type "list" ∧ o.dict = none ∧ o.data = .seq its n ∧ its.size ≤ sizeLine ∧ Vals vs its.toList
theorem LsR.rd {Z : Addr → Prop} {H : Hp} {a : Addr} {vs : List V} (h : LsR Z H a vs) : Rd H a (.lst vs) := by
  rcases h with ⟨_, h⟩ | ⟨o, h⟩
  · exact .inl h
  · exact .inr ⟨o, h⟩
theorem LsR.sq {K : Frg} {Z : Addr → Prop} {H : Hp} {a : Addr} {vs : List V} (h : LsR Z H a vs) : SqL K H a vs := .inl h.rd
theorem LsS.sq {K : Frg} {Z : Addr → Prop} {H : Hp} {a : Addr} {vs : List V} (h : LsS K Z H a vs) : SqL K H a vs := by
  rcases h with h | h
  · exact h.sq
  · exact .inr h

mutual
inductive Rep (K : Frg) (Z : Addr → Prop) (H : Hp) : V → D → Prop
  | non : Rep K Z H .non .non
  | bl (b : Bool) : Rep K Z H (.bl b) (.bl b)
  | int (i : Int) : Rep K Z H (.int i) (.int i)
  | str (x : Str) : Rep K Z H (.str x) (.str x)
  | tup {a : Addr} {vs : List V} {ds : List D} : SqT K H a vs → Reps K Z H vs ds → Rep K Z H (.ref a) (.tup ds)
  | lst {a : Addr} {vs : List V} {ds : List D} : LsR Z H a vs → Reps K Z H vs ds → Rep K Z H (.ref a) (.lst ds)
  | scr {a : Addr} {vs : List V} {ds : List D} : LsS K Z H a vs → Reps K Z H vs ds → Rep K Z H (.ref a) (.scr ds)
  | kon (a : Addr) : Rep K Z H (.ref a) (.kon a)
  | dic {a : Addr} {kvs : List (Key × V)} {ks : List Key} {ds : List D} : Z a → H a = some (.dK kvs) → kvs.map (·.1) = ks → Reps K Z H (kvs.map (·.2)) ds → Rep K Z H (.ref a) (.dic ks ds)
  | obj {a C dx : Addr} {fs : List (Str × V)} {ns : List Str} {ds : List D} : Z a → H a = some (.ins C dx fs) → fs.map (·.1) = ns → Reps K Z H (fs.map (·.2)) ds → Rep K Z H (.ref a) (.obj C ns ds)
inductive Reps (K : Frg) (Z : Addr → Prop) (H : Hp) : List V → List D → Prop
  | nil : Reps K Z H [] []
  | cons {v : V} {vs : List V} {d : D} {ds : List D} : Rep K Z H v d → Reps K Z H vs ds → Reps K Z H (v :: vs) (d :: ds)
end

/-- the world goes on: what is frozen stays, tuples stay -/
structure Stp (Z : Addr → Prop) (H : Hp) (Z' : Addr → Prop) (H' : Hp) : Prop where
  zz : ∀ a, Z a → Z' a
  ke : ∀ a, Z a → H' a = H a
  tu : ∀ a xs, H a = some (.tup xs) → H' a = some (.tup xs)
  fz : ∀ a o u, H a = some (.frz o u) → H' a = some (.frz o u)
theorem Stp.refl (Z : Addr → Prop) (H : Hp) : Stp Z H Z H := ⟨fun _ h => h, fun _ _ => rfl, fun _ _ h => h, fun _ _ _ h => h⟩
theorem Stp.trans {Z1 Z2 Z3 : Addr → Prop} {H1 H2 H3 : Hp} (a : Stp Z1 H1 Z2 H2) (b : Stp Z2 H2 Z3 H3) : Stp Z1 H1 Z3 H3 :=
  ⟨fun x h => b.zz x (a.zz x h), fun x h => (b.ke x (a.zz x h)).trans (a.ke x h), fun x xs h => b.tu x xs (a.tu x xs h), fun x o u h => b.fz x o u (a.fz x o u h)⟩

section
variable {K : Frg} {Z Z' : Addr → Prop} {H H' : Hp}
theorem LsR.mono (st : Stp Z H Z' H') {a : Addr} {vs : List V} (h : LsR Z H a vs) : LsR Z' H' a vs := by
  rcases h with ⟨z, h⟩ | ⟨o, h⟩
  · exact .inl ⟨st.zz a z, (st.ke a z).trans h⟩
  · exact .inr ⟨o, st.fz _ _ _ h⟩
theorem LsS.mono (st : Stp Z H Z' H') {a : Addr} {vs : List V} (h : LsS K Z H a vs) : LsS K Z' H' a vs := by
  rcases h with h | h
  · exact .inl (h.mono st)
  · exact .inr h
theorem sqT_mono (st : Stp Z H Z' H') {a : Addr} {vs : List V} (h : SqT K H a vs) : SqT K H' a vs := by
  rcases h with (h | ⟨o, h⟩) | h
  · exact .inl (.inl (st.tu _ _ h))
  · exact .inl (.inr ⟨o, st.fz _ _ _ h⟩)
  · exact .inr h
mutual
theorem Rep.mono (st : Stp Z H Z' H') : ∀ {v : V} {d : D}, Rep K Z H v d → Rep K Z' H' v d
  | _, _, .non => .non
  | _, _, .bl b => .bl b
  | _, _, .int i => .int i
  | _, _, .str x => .str x
  | _, _, .tup h hs => .tup (sqT_mono st h) (Reps.mono st hs)
  | _, _, .lst h hs => .lst (h.mono st) (Reps.mono st hs)
  | _, _, .scr h hs => .scr (h.mono st) (Reps.mono st hs)
  | _, _, .kon a => .kon a
  | _, _, .dic z h e hs => .dic (st.zz _ z) ((st.ke _ z).trans h) e (Reps.mono st hs)
  | _, _, .obj z h e hs => .obj (st.zz _ z) ((st.ke _ z).trans h) e (Reps.mono st hs)
theorem Reps.mono (st : Stp Z H Z' H') : ∀ {vs : List V} {ds : List D}, Reps K Z H vs ds → Reps K Z' H' vs ds
  | _, _, .nil => .nil
  | _, _, .cons h hs => .cons (Rep.mono st h) (Reps.mono st hs)
end
theorem Reps.length : ∀ {vs : List V} {ds : List D}, Reps K Z H vs ds → vs.length = ds.length
  | _, _, .nil => rfl
  | _, _, .cons _ hs => by rw [List.length_cons, List.length_cons, Reps.length hs]
theorem Reps.get : ∀ {vs : List V} {ds : List D} {i : Nat} {d : D}, Reps K Z H vs ds → ds[i]? = some d → ∃ v, vs[i]? = some v ∧ Rep K Z H v d
  | _, _, _, _, .nil, e => by simp at e
  | _, _, 0, _, .cons h _, e => by simp at e; subst e; exact ⟨_, rfl, h⟩
  | _, _, i + 1, _, .cons _ hs, e => by
    obtain ⟨v, e1, e2⟩ := Reps.get (i := i) hs (by simpa using e)
    exact ⟨v, by simpa using e1, e2⟩
theorem Reps.getv : ∀ {vs : List V} {ds : List D} {i : Nat} {v : V}, Reps K Z H vs ds → vs[i]? = some v → ∃ d, ds[i]? = some d ∧ Rep K Z H v d
  | _, _, _, _, .nil, e => by simp at e
  | _, _, 0, _, .cons h _, e => by simp at e; subst e; exact ⟨_, rfl, h⟩
  | _, _, i + 1, _, .cons _ hs, e => by
    obtain ⟨v, e1, e2⟩ := Reps.getv (i := i) hs (by simpa using e)
    exact ⟨v, by simpa using e1, e2⟩
theorem Reps.append : ∀ {vs ws : List V} {ds es : List D}, Reps K Z H vs ds → Reps K Z H ws es → Reps K Z H (vs ++ ws) (ds ++ es)
  | _, _, _, _, .nil, r => r
  | _, _, _, _, .cons h hs, r => .cons h (Reps.append hs r)
theorem Reps.one {v : V} {d : D} (h : Rep K Z H v d) : Reps K Z H [v] [d] := .cons h .nil
theorem Reps.take : ∀ {vs : List V} {ds : List D} (n : Nat), Reps K Z H vs ds → Reps K Z H (vs.take n) (ds.take n)
  | _, _, 0, _ => .nil
  | _, _, _ + 1, .nil => .nil
  | _, _, n + 1, .cons h hs => .cons h (Reps.take n hs)
theorem Reps.drop : ∀ {vs : List V} {ds : List D} (n : Nat), Reps K Z H vs ds → Reps K Z H (vs.drop n) (ds.drop n)
  | _, _, 0, r => r
  | _, _, _ + 1, .nil => .nil
  | _, _, n + 1, .cons _ hs => Reps.drop n hs
theorem Reps.set : ∀ {vs : List V} {ds : List D} (i : Nat) {v : V} {d : D}, Reps K Z H vs ds → Rep K Z H v d → Reps K Z H (vs.set i v) (ds.set i d)
  | _, _, _, _, _, .nil, _ => .nil
  | _, _, 0, _, _, .cons _ hs, r => .cons r hs
  | _, _, i + 1, _, _, .cons h hs, r => .cons h (Reps.set i hs r)
theorem Reps.dropLast {vs : List V} {ds : List D} (h : Reps K Z H vs ds) : Reps K Z H vs.dropLast ds.dropLast := by
  rw [List.dropLast_eq_take, List.dropLast_eq_take, h.length]
  exact h.take _
theorem Reps.reverse : ∀ {vs : List V} {ds : List D}, Reps K Z H vs ds → Reps K Z H vs.reverse ds.reverse
  | _, _, .nil => .nil
  | _, _, .cons h hs => by
    rw [List.reverse_cons, List.reverse_cons]
    exact (Reps.reverse hs).append (Reps.one h)
theorem Reps.eraseIdx : ∀ {vs : List V} {ds : List D} (i : Nat), Reps K Z H vs ds → Reps K Z H (vs.eraseIdx i) (ds.eraseIdx i)
  | _, _, _, .nil => .nil
  | _, _, 0, .cons _ hs => hs
  | _, _, i + 1, .cons h hs => .cons h (Reps.eraseIdx i hs)
theorem Reps.insertIdx {vs : List V} {ds : List D} (i : Nat) {v : V} {d : D} (h : Reps K Z H vs ds) (r : Rep K Z H v d) : Reps K Z H (vs.take i ++ v :: vs.drop i) (ds.take i ++ d :: ds.drop i) :=
  (h.take i).append (.cons r (h.drop i))
end

/-- what one owns: a tree of objects that nobody else reaches -/
inductive T where
  | fr (d : D) | lst (ds : List D) | dic (ks : List Key) (ds : List D) | obj (C : Addr) (ns : List Str) (ts : List T)
  deriving Inhabited
mutual
def T.fz : T → D
  | .fr d => d
  | .lst ds => .lst ds
  | .dic ks ds => .dic ks ds
  | .obj C ns ts => .obj C ns (T.fzs ts)
def T.fzs : List T → List D
  | [] => []
  | t :: ts => t.fz :: T.fzs ts
end
mutual
inductive TRep (K : Frg) (Z : Addr → Prop) (H : Hp) : V → T → List Addr → Prop
  | fr {v : V} {d : D} : Rep K Z H v d → TRep K Z H v (.fr d) []
  | lst {a : Addr} {vs : List V} {ds : List D} : H a = some (.lst vs) → Reps K Z H vs ds → TRep K Z H (.ref a) (.lst ds) [a]
  | dic {a : Addr} {kvs : List (Key × V)} {ks : List Key} {ds : List D} : H a = some (.dK kvs) → kvs.map (·.1) = ks → Reps K Z H (kvs.map (·.2)) ds → TRep K Z H (.ref a) (.dic ks ds) [a]
  | obj {a C dx : Addr} {fs : List (Str × V)} {ns : List Str} {ts : List T} {F : List Addr} : H a = some (.ins C dx fs) → fs.map (·.1) = ns → TReps K Z H (fs.map (·.2)) ts F → TRep K Z H (.ref a) (.obj C ns ts) (a :: F)
inductive TReps (K : Frg) (Z : Addr → Prop) (H : Hp) : List V → List T → List Addr → Prop
  | nil : TReps K Z H [] [] []
  | cons {v : V} {vs : List V} {t : T} {ts : List T} {F G : List Addr} : TRep K Z H v t F → TReps K Z H vs ts G → TReps K Z H (v :: vs) (t :: ts) (F ++ G)
end
/-- an object that may be owned -/
def MutK : HO → Prop
  | .lst _ => True
  | .dK _ => True
  | .ins _ _ _ => True
  | _ => False
section
variable {K : Frg} {Z Z' : Addr → Prop} {H H' : Hp}
mutual
theorem TRep.mono (st : Stp Z H Z' H') : ∀ {v : V} {t : T} {F : List Addr}, TRep K Z H v t F → (∀ a ∈ F, H' a = H a) → TRep K Z' H' v t F
  | _, _, _, .fr h, _ => .fr (h.mono st)
  | _, _, _, .lst h hs, k => .lst ((k _ (by simp)).trans h) (hs.mono st)
  | _, _, _, .dic h e hs, k => .dic ((k _ (by simp)).trans h) e (hs.mono st)
  | _, _, _, .obj h e hs, k => .obj ((k _ (by simp)).trans h) e (TReps.mono st hs fun a ha => k a (by simp [ha]))
theorem TReps.mono (st : Stp Z H Z' H') : ∀ {vs : List V} {ts : List T} {F : List Addr}, TReps K Z H vs ts F → (∀ a ∈ F, H' a = H a) → TReps K Z' H' vs ts F
  | _, _, _, .nil, _ => .nil
  | _, _, _, .cons h hs, k => .cons (TRep.mono st h fun a ha => k a (by simp [ha])) (TReps.mono st hs fun a ha => k a (by simp [ha]))
end
mutual
theorem TRep.kind : ∀ {v : V} {t : T} {F : List Addr}, TRep K Z H v t F → ∀ a ∈ F, ∃ o, H a = some o ∧ MutK o
  | _, _, _, .fr _, a, ha => by cases ha
  | _, _, _, .lst h _, a, ha => by
    have e := List.mem_singleton.mp ha
    subst e
    exact ⟨_, h, trivial⟩
  | _, _, _, .dic h _ _, a, ha => by
    have e := List.mem_singleton.mp ha
    subst e
    exact ⟨_, h, trivial⟩
  | _, _, _, .obj h _ hs, a, ha => by
    rcases List.mem_cons.mp ha with e | ha
    · subst e
      exact ⟨_, h, trivial⟩
    · exact TReps.kind hs a ha
theorem TReps.kind : ∀ {vs : List V} {ts : List T} {F : List Addr}, TReps K Z H vs ts F → ∀ a ∈ F, ∃ o, H a = some o ∧ MutK o
  | _, _, _, .nil, a, ha => by cases ha
  | _, _, _, .cons h hs, a, ha => by
    rcases List.mem_append.mp ha with ha | ha
    · exact TRep.kind h a ha
    · exact TReps.kind hs a ha
end
mutual
/-- what is owned is frozen -/
theorem TRep.froze : ∀ {v : V} {t : T} {F : List Addr}, TRep K Z H v t F → (∀ a, Z a → Z' a) → (∀ a ∈ F, Z' a) → Rep K Z' H v t.fz
  | _, _, _, .fr h, zz, _ => h.mono ⟨zz, fun _ _ => rfl, fun _ _ h => h, fun _ _ _ h => h⟩
  | _, _, _, .lst h hs, zz, zf => .lst (.inl ⟨zf _ (by simp), h⟩) (hs.mono ⟨zz, fun _ _ => rfl, fun _ _ h => h, fun _ _ _ h => h⟩)
  | _, _, _, .dic h e hs, zz, zf => .dic (zf _ (by simp)) h e (hs.mono ⟨zz, fun _ _ => rfl, fun _ _ h => h, fun _ _ _ h => h⟩)
  | _, _, _, .obj h e hs, zz, zf => .obj (zf _ (by simp)) h e (TReps.froze hs zz fun a ha => zf a (by simp [ha]))
theorem TReps.froze : ∀ {vs : List V} {ts : List T} {F : List Addr}, TReps K Z H vs ts F → (∀ a, Z a → Z' a) → (∀ a ∈ F, Z' a) → Reps K Z' H vs (T.fzs ts)
  | _, _, _, .nil, _, _ => .nil
  | _, _, _, .cons h hs, zz, zf => .cons (TRep.froze h zz fun a ha => zf a (by simp [ha])) (TReps.froze hs zz fun a ha => zf a (by simp [ha]))
end
theorem Stp.grow (zz : ∀ a, Z a → Z' a) : Stp Z H Z' H := ⟨zz, fun _ _ => rfl, fun _ _ h => h, fun _ _ _ h => h⟩
/-- a new object -/
theorem Stp.new {p : Addr} {o : HO} (zt : ∀ a, Z a → H a ≠ none) (hp : H p = none) : Stp Z H Z (upd H p o) :=
  ⟨fun _ h => h, fun a z => upd_ne fun e => zt a z (e ▸ hp), fun a xs h => by rw [upd_ne (ne_of_none h hp)]; exact h, fun a o u h => by rw [upd_ne (ne_of_none h hp)]; exact h⟩
/-- an owned object is written -/
theorem Stp.put {p : Addr} {o u : HO} (nz : ¬ Z p) (hp : H p = some u) (k : MutK u) : Stp Z H Z (upd H p o) :=
  ⟨fun _ h => h, fun a z => upd_ne fun e => nz (e ▸ z), fun a xs h => by
    rw [upd_ne fun e => by rw [e, hp] at h; cases h; exact k]
    exact h, fun a o u h => by
    rw [upd_ne fun e => by rw [e, hp] at h; cases h; exact k]
    exact h⟩
end

/-- a name's place: nothing known; data; an owned tree; a parameter's tree -/
inductive S where
  | un | fr (d : D) | ow (t : T) | mu (t : T)
  deriving Inhabited
def SRep (K : Frg) (Z : Addr → Prop) (H : Hp) (o : Option V) (s : S) (F : List Addr) : Prop :=
  match s with
  | .un => F = []
  | .fr d => F = [] ∧ ∃ v, o = some v ∧ Rep K Z H v d
  | .ow t => ∃ v, o = some v ∧ TRep K Z H v t F
  | .mu t => ∃ v, o = some v ∧ TRep K Z H v t F
theorem SRep.kind {K : Frg} {Z : Addr → Prop} {H : Hp} {o : Option V} {s : S} {F : List Addr} (h : SRep K Z H o s F) : ∀ a ∈ F, ∃ o, H a = some o ∧ MutK o := by
  cases s with
  | un => intro a ha; rw [show F = [] from h] at ha; cases ha
  | fr d => intro a ha; rw [h.1] at ha; cases ha
  | ow t => obtain ⟨v, _, h⟩ := h; exact h.kind
  | mu t => obtain ⟨v, _, h⟩ := h; exact h.kind
theorem SRep.mono {K : Frg} {Z Z' : Addr → Prop} {H H' : Hp} {o : Option V} {s : S} {F : List Addr} (st : Stp Z H Z' H') (h : SRep K Z H o s F) (k : ∀ a ∈ F, H' a = H a) : SRep K Z' H' o s F := by
  cases s with
  | un => exact h
  | fr d => obtain ⟨e, v, e1, r⟩ := h; exact ⟨e, v, e1, r.mono st⟩
  | ow t => obtain ⟨v, e, h⟩ := h; exact ⟨v, e, h.mono st k⟩
  | mu t => obtain ⟨v, e, h⟩ := h; exact ⟨v, e, h.mono st k⟩

abbrev Foot := Nat → List Addr
structure Slots (K : Frg) (Z : Addr → Prop) (H : Hp) (σ : Sg) (E : List S) (F : Foot) : Prop where
  len : σ.length = E.length
  rep : ∀ (i : Nat) s, E[i]? = some s → SRep K Z H (σ.getD i none) s (F i)
  out : ∀ (i : Nat), E.length ≤ i → F i = []
  nd : ∀ i, (F i).Nodup
  dj : ∀ i j a, a ∈ F i → a ∈ F j → i = j

/-- the entry of a def: what stood, the parameters' trees, what was frozen, the arguments; the floor: what was frozen and stood where the innermost try began -/
structure Ctx where
  K : Frg
  H0 : Hp
  Fm : Foot
  Z0 : Addr → Prop
  vs : List V
  fZ : Addr → Prop
  fH : Hp
structure WdF (C : Ctx) (Z : Addr → Prop) (σ : Sg) (E : List S) (H : Hp) (F : Foot) : Prop where
  sl : Slots C.K Z H σ E F
  nz : ∀ i a, a ∈ F i → ¬ Z a
  own : ∀ (i : Nat) t a, E[i]? = some (S.ow t) → a ∈ F i → C.H0 a = none
  mum : ∀ (i : Nat) t a, E[i]? = some (S.mu t) → a ∈ F i → a ∈ C.Fm i ∨ C.H0 a = none
  mus : ∀ (i : Nat) t, E[i]? = some (S.mu t) → ∃ v, C.vs[i]? = some v ∧ σ[i]? = some (some v)
  fr : ∀ b o, C.H0 b = some o → (∀ i, b ∉ C.Fm i) → H b = some o
  z0 : ∀ a, C.Z0 a → Z a
  zn : ∀ a, Z a → C.Z0 a ∨ C.H0 a = none
  zt : ∀ a, Z a → H a ≠ none
  kt : ∀ b, C.H0 b ≠ none → H b ≠ none
  fl : Stp C.fZ C.fH Z H
def Wd (C : Ctx) (Z : Addr → Prop) (σ : Sg) (E : List S) (H : Hp) : Prop := ∃ F, WdF C Z σ E H F

section
variable {C : Ctx} {Z Z' : Addr → Prop} {σ : Sg} {E : List S} {H H' : Hp} {F : Foot}
theorem WdF.kind (w : WdF C Z σ E H F) {i : Nat} {a : Addr} (ha : a ∈ F i) : ∃ o, H a = some o ∧ MutK o := by
  by_cases h : i < E.length
  · exact (w.sl.rep i _ (List.getElem?_eq_getElem h)).kind a ha
  · rw [w.sl.out i (by omega)] at ha
    cases ha
/-- footprints are kept, the world goes on -/
theorem WdF.go (w : WdF C Z σ E H F) (st : Stp Z H Z' H') (k : ∀ i, ∀ a ∈ F i, H' a = H a) (nz : ∀ i a, a ∈ F i → ¬ Z' a) (fr : ∀ b o, C.H0 b = some o → (∀ i, b ∉ C.Fm i) → H b = some o → H' b = some o)
    (zn : ∀ a, Z' a → Z a ∨ C.H0 a = none) (zt : ∀ a, Z' a → H' a ≠ none) (kt : ∀ b, H b ≠ none → H' b ≠ none) : WdF C Z' σ E H' F :=
  ⟨⟨w.sl.len, fun i s e => (w.sl.rep i s e).mono st (k i), w.sl.out, w.sl.nd, w.sl.dj⟩, nz, w.own, w.mum, w.mus, fun b o e n => fr b o e n (w.fr b o e n), fun a h => st.zz a (w.z0 a h),
    fun a h => (zn a h).elim (w.zn a) .inr, zt, fun b h => kt b (w.kt b h), w.fl.trans st⟩
theorem upd_kt {p : Addr} {o : HO} : ∀ b, H b ≠ none → upd H p o b ≠ none := fun b h => by
  by_cases e : b = p
  · subst e; rw [upd_same]; intro q; cases q
  · rw [upd_ne e]; exact h
theorem WdF.new (w : WdF C Z σ E H F) {p : Addr} {o : HO} (hp : H p = none) : WdF C Z σ E (upd H p o) F :=
  w.go (Stp.new w.zt hp) (fun i a ha => by
      obtain ⟨u, e, _⟩ := w.kind ha
      exact upd_ne (ne_of_none e hp))
    w.nz (fun b u _ _ e => by rw [upd_ne (ne_of_none e hp)]; exact e) (fun a h => .inl h) (fun a z => by
      by_cases e : a = p
      · subst e; rw [upd_same]; intro q; cases q
      · rw [upd_ne e]; exact w.zt a z) upd_kt
theorem Wd.zt (w : Wd C Z σ E H) : ∀ a, Z a → H a ≠ none := let ⟨_, w⟩ := w; w.zt
theorem Wd.len (w : Wd C Z σ E H) : σ.length = E.length := let ⟨_, w⟩ := w; w.sl.len
theorem Wd.new (w : Wd C Z σ E H) {p : Addr} {o : HO} (hp : H p = none) : Wd C Z σ E (upd H p o) := let ⟨F, w⟩ := w; ⟨F, w.new hp⟩
/-- data at a name -/
theorem Wd.get (w : Wd C Z σ E H) {i : Nat} {d : D} (e : E[i]? = some (.fr d)) : ∃ v, σ[i]? = some (some v) ∧ Rep C.K Z H v d := by
  obtain ⟨F, w⟩ := w
  obtain ⟨_, v, e1, r⟩ := w.sl.rep i _ e
  refine ⟨v, ?_, r⟩
  rw [List.getD_eq_getElem?_getD] at e1
  cases q : σ[i]? with
  | none => rw [q] at e1; cases e1
  | some x => rw [q] at e1; exact congrArg some e1
theorem getD_some {i : Nat} {v : V} (e : σ.getD i none = some v) : σ[i]? = some (some v) := by
  rw [List.getD_eq_getElem?_getD] at e
  cases q : σ[i]? with
  | none => rw [q] at e; cases e
  | some x => rw [q] at e; exact congrArg some e
theorem of_getD {i : Nat} {v : V} (e : σ[i]? = some (some v)) : σ.getD i none = some v := by
  rw [List.getD_eq_getElem?_getD, e]
  rfl
/-- an owned tree at a name is frozen -/
theorem Wd.freeze (w : Wd C Z σ E H) {i : Nat} {t : T} (e : E[i]? = some (.ow t)) : ∃ v Z', σ[i]? = some (some v) ∧ Stp Z H Z' H ∧ Wd C Z' σ (E.set i (.fr t.fz)) H ∧ Rep C.K Z' H v t.fz := by
  obtain ⟨F, w⟩ := w
  obtain ⟨v, e1, r⟩ := w.sl.rep i _ e
  have hi : i < E.length := (List.getElem?_eq_some_iff.mp e).1
  have zz : ∀ a, Z a → Z a ∨ a ∈ F i := fun a h => .inl h
  have rz := r.froze (Z' := fun a => Z a ∨ a ∈ F i) zz fun a h => .inr h
  refine ⟨v, fun a => Z a ∨ a ∈ F i, getD_some e1, Stp.grow zz, ⟨fun j => if j = i then [] else F j, ⟨⟨?_, fun j s ej => ?_, fun j hj => ?_, fun j => ?_, fun j k a h1 h2 => ?_⟩, fun j a h => ?_, fun j u a ej ha => ?_, fun j u a ej ha => ?_, fun j u ej => ?_, w.fr, fun a h => .inl (w.z0 a h), fun a h => ?_, fun a h => ?_, w.kt, w.fl.trans (Stp.grow zz)⟩⟩, rz⟩
  · rw [List.length_set]; exact w.sl.len
  · by_cases q : j = i
    · subst q
      rw [List.getElem?_set_self hi] at ej
      cases ej
      rw [if_pos rfl]
      exact ⟨rfl, v, e1, rz⟩
    · rw [List.getElem?_set_ne (Ne.symm q)] at ej
      rw [if_neg q]
      exact (w.sl.rep j s ej).mono (Stp.grow zz) fun _ _ => rfl
  · rw [List.length_set] at hj
    rw [if_neg (by omega)]
    exact w.sl.out j hj
  · by_cases q : j = i
    · rw [if_pos q]; exact List.nodup_nil
    · rw [if_neg q]; exact w.sl.nd j
  · by_cases q : j = i
    · rw [if_pos q] at h1; cases h1
    · by_cases q2 : k = i
      · rw [if_pos q2] at h2; cases h2
      · rw [if_neg q] at h1
        rw [if_neg q2] at h2
        exact w.sl.dj j k a h1 h2
  · by_cases q : j = i
    · rw [if_pos q] at h; cases h
    · rw [if_neg q] at h
      rintro (z | z)
      · exact w.nz j a h z
      · exact q (w.sl.dj j i a h z)
  · by_cases q : j = i
    · rw [if_pos q] at ha; cases ha
    · rw [if_neg q] at ha
      rw [List.getElem?_set_ne (Ne.symm q)] at ej
      exact w.own j u a ej ha
  · by_cases q : j = i
    · rw [if_pos q] at ha; cases ha
    · rw [if_neg q] at ha
      rw [List.getElem?_set_ne (Ne.symm q)] at ej
      exact w.mum j u a ej ha
  · by_cases q : j = i
    · subst q; rw [List.getElem?_set_self hi] at ej; cases ej
    · rw [List.getElem?_set_ne (Ne.symm q)] at ej
      exact w.mus j u ej
  · rcases h with z | z
    · exact w.zn a z
    · exact .inr (w.own i t a e z)
  · rcases h with z | z
    · exact w.zt a z
    · obtain ⟨o, q, _⟩ := w.kind z
      rw [q]; intro q; cases q
end
end DL
set_option Elab.async false
set_option linter.all false
set_option maxRecDepth 100000
set_option maxHeartbeats 4000000
/-! DL, part b: worlds that go on; judgements; the first rules. -/
namespace DL
open PySem PySem.Spec PyProof.Rows L2

def S.tree? : S → Option T
  | .ow t => some t
  | .mu t => some t
  | _ => none
def S.put (s : S) (t : T) : S := match s with
  | .mu _ => .mu t
  | _ => .ow t
def S.isMu : S → Bool
  | .mu _ => true
  | _ => false

section
variable {C : Ctx} {Z Z' : Addr → Prop} {σ : Sg} {E : List S} {H H' : Hp} {F : Foot}
theorem SRep.tree {K : Frg} {o : Option V} {s : S} {t : T} {G : List Addr} (h : SRep K Z H o s G) (e : s.tree? = some t) : ∃ v, o = some v ∧ TRep K Z H v t G := by
  cases s with
  | un => cases e
  | fr d => cases e
  | ow u => cases e; exact h
  | mu u => cases e; exact h
/-- a new tree at a place, footprints F' (others as they were, or less) -/
theorem WdF.put (w : WdF C Z σ E H F) {i : Nat} {s : S} {t t' : T} {v : V} {G : List Addr} (e : E[i]? = some s) (et : s.tree? = some t) (st : Stp Z H Z H') (hv : σ[i]? = some (some v)) (hr : TRep C.K Z H' v t' G)
    (sub : ∀ a ∈ G, a ∈ F i ∨ (H a = none ∧ C.H0 a = none)) (nd : G.Nodup) (k : ∀ j, j ≠ i → ∀ a ∈ F j, H' a = H a) (fr : ∀ b o, C.H0 b = some o → (∀ i, b ∉ C.Fm i) → H b = some o → H' b = some o) (zt : ∀ a, Z a → H' a ≠ none) (kt : ∀ b, H b ≠ none → H' b ≠ none) :
    Wd C Z σ (E.set i (s.put t')) H' := by
  have hi : i < E.length := (List.getElem?_eq_some_iff.mp e).1
  refine ⟨fun j => if j = i then G else F j, ⟨⟨?_, fun j u ej => ?_, fun j hj => ?_, fun j => ?_, fun j l a h1 h2 => ?_⟩, fun j a h => ?_, fun j u a ej ha => ?_, fun j u a ej ha => ?_, fun j u ej => ?_, fun b o e n => fr b o e n (w.fr b o e n), w.z0, w.zn, zt, fun b h => kt b (w.kt b h), w.fl.trans st⟩⟩
  · rw [List.length_set]; exact w.sl.len
  · by_cases q : j = i
    · subst q
      rw [List.getElem?_set_self hi] at ej
      cases ej
      rw [if_pos rfl]
      have z : ∃ v', σ.getD j none = some v' ∧ TRep C.K Z H' v' t' G := ⟨v, of_getD hv, hr⟩
      cases s <;> exact z
    · rw [List.getElem?_set_ne (Ne.symm q)] at ej
      rw [if_neg q]
      exact (w.sl.rep j u ej).mono st (k j q)
  · rw [List.length_set] at hj
    rw [if_neg (by omega)]
    exact w.sl.out j hj
  · by_cases q : j = i
    · rw [if_pos q]; exact nd
    · rw [if_neg q]; exact w.sl.nd j
  · have no : ∀ l, l ≠ i → a ∈ G → a ∈ F l → False := fun l hl g f => by
      rcases sub a g with z | z
      · exact hl (w.sl.dj l i a f z)
      · obtain ⟨o, q, _⟩ := w.kind f
        rw [z.1] at q; cases q
    by_cases q : j = i
    · by_cases q2 : l = i
      · rw [q, q2]
      · rw [if_pos q] at h1
        rw [if_neg q2] at h2
        exact (no l q2 h1 h2).elim
    · by_cases q2 : l = i
      · rw [if_neg q] at h1
        rw [if_pos q2] at h2
        exact (no j q h2 h1).elim
      · rw [if_neg q] at h1
        rw [if_neg q2] at h2
        exact w.sl.dj j l a h1 h2
  · by_cases q : j = i
    · rw [if_pos q] at h
      rcases sub a h with z | z
      · exact w.nz i a z
      · intro hz; exact w.zt a hz z.1
    · rw [if_neg q] at h
      exact w.nz j a h
  · by_cases q : j = i
    · subst q
      rw [List.getElem?_set_self hi] at ej
      rw [if_pos rfl] at ha
      rcases sub a ha with z | z
      · cases s with
        | un => cases et
        | fr d => cases et
        | ow x => exact w.own j x a e z
        | mu x => cases ej
      · exact z.2
    · rw [if_neg q] at ha
      rw [List.getElem?_set_ne (Ne.symm q)] at ej
      exact w.own j u a ej ha
  · by_cases q : j = i
    · subst q
      rw [List.getElem?_set_self hi] at ej
      rw [if_pos rfl] at ha
      rcases sub a ha with z | z
      · cases s with
        | un => cases et
        | fr d => cases et
        | ow x => cases ej
        | mu x => exact w.mum j x a e z
      · exact .inr z.2
    · rw [if_neg q] at ha
      rw [List.getElem?_set_ne (Ne.symm q)] at ej
      exact w.mum j u a ej ha
  · by_cases q : j = i
    · subst q
      rw [List.getElem?_set_self hi] at ej
      cases s with
      | un => cases et
      | fr d => cases et
      | ow x => cases ej
      | mu x => exact w.mus j x e
    · rw [List.getElem?_set_ne (Ne.symm q)] at ej
      exact w.mus j u ej
/-- the last place is dropped -/
theorem WdF.drop {x : Option V} {s : S} (w : WdF C Z (σ ++ [x]) (E ++ [s]) H F) : Wd C Z σ E H := by
  have hl : σ.length = E.length := by
    have q := w.sl.len
    simp at q
    exact q
  have up : ∀ (j : Nat) u, E[j]? = some u → (E ++ [s])[j]? = some u := fun j u e => by
    rw [List.getElem?_append_left (List.getElem?_eq_some_iff.mp e).1]
    exact e
  refine ⟨fun j => if j < E.length then F j else [], ⟨⟨hl, fun j u ej => ?_, fun j hj => ?_, fun j => ?_, fun j l a h1 h2 => ?_⟩, fun j a h => ?_, fun j u a ej ha => ?_, fun j u a ej ha => ?_, fun j u ej => ?_, w.fr, w.z0, w.zn, w.zt, w.kt, w.fl⟩⟩
  · have hj := (List.getElem?_eq_some_iff.mp ej).1
    rw [if_pos hj]
    have q := w.sl.rep j u (up j u ej)
    rw [List.getD_eq_getElem?_getD, List.getElem?_append_left (by omega), ← List.getD_eq_getElem?_getD] at q
    exact q
  · rw [if_neg (by omega)]
  · split
    · exact w.sl.nd j
    · exact List.nodup_nil
  · split at h1
    · split at h2
      · exact w.sl.dj j l a h1 h2
      · cases h2
    · cases h1
  · split at h
    · exact w.nz j a h
    · cases h
  · split at ha
    · exact w.own j u a (up j _ ej) ha
    · cases ha
  · split at ha
    · exact w.mum j u a (up j _ ej) ha
    · cases ha
  · obtain ⟨v, e1, e2⟩ := w.mus j u (up j _ ej)
    refine ⟨v, e1, ?_⟩
    have hj := (List.getElem?_eq_some_iff.mp ej).1
    rw [List.getElem?_append_left (by omega)] at e2
    exact e2
/-- the last place moves to place i -/
theorem WdF.move {v : V} {t : T} {i : Nat} (w : WdF C Z (σ ++ [some v]) (E ++ [.ow t]) H F) (hi : i < E.length) (nm : ∀ t, E[i]? ≠ some (.mu t)) : Wd C Z (σ.set i (some v)) (E.set i (.ow t)) H := by
  have hl : σ.length = E.length := by
    have q := w.sl.len
    simp at q
    exact q
  have up : ∀ (j : Nat) u, E[j]? = some u → (E ++ [S.ow t])[j]? = some u := fun j u e => by
    rw [List.getElem?_append_left (List.getElem?_eq_some_iff.mp e).1]
    exact e
  have lastE : (E ++ [S.ow t])[E.length]? = some (.ow t) := by rw [List.getElem?_append_right (Nat.le_refl _), Nat.sub_self]; rfl
  have lastR := w.sl.rep E.length _ lastE
  have gl : (σ ++ [some v]).getD E.length none = some v := by
    rw [List.getD_eq_getElem?_getD, List.getElem?_append_right (by omega), hl, Nat.sub_self]
    rfl
  rw [gl] at lastR
  refine ⟨fun j => if j = i then F E.length else if j < E.length then F j else [], ⟨⟨?_, fun j u ej => ?_, fun j hj => ?_, fun j => ?_, fun j l a h1 h2 => ?_⟩, fun j a h => ?_, fun j u a ej ha => ?_, fun j u a ej ha => ?_, fun j u ej => ?_, w.fr, w.z0, w.zn, w.zt, w.kt, w.fl⟩⟩
  · rw [List.length_set, List.length_set]; exact hl
  · by_cases q : j = i
    · subst q
      rw [List.getElem?_set_self hi] at ej
      cases ej
      rw [if_pos rfl, List.getD_eq_getElem?_getD, List.getElem?_set_self (by omega)]
      exact lastR
    · rw [List.getElem?_set_ne (Ne.symm q)] at ej
      have hj := (List.getElem?_eq_some_iff.mp ej).1
      rw [if_neg q, if_pos hj]
      have z := w.sl.rep j u (up j u ej)
      rw [List.getD_eq_getElem?_getD, List.getElem?_append_left (by omega)] at z
      rw [List.getD_eq_getElem?_getD, List.getElem?_set_ne (Ne.symm q)]
      exact z
  · rw [List.length_set] at hj
    rw [if_neg (by omega), if_neg (by omega)]
  · split
    · exact w.sl.nd _
    · split
      · exact w.sl.nd j
      · exact List.nodup_nil
  · split at h1
    · split at h2
      · omega
      · split at h2
        · have := w.sl.dj _ _ a h1 h2; omega
        · cases h2
    · split at h1
      · split at h2
        · have := w.sl.dj _ _ a h1 h2; omega
        · split at h2
          · exact w.sl.dj _ _ a h1 h2
          · cases h2
      · cases h1
  · split at h
    · exact w.nz _ a h
    · split at h
      · exact w.nz j a h
      · cases h
  · by_cases q : j = i
    · rw [if_pos q] at ha
      exact w.own E.length t a lastE ha
    · rw [List.getElem?_set_ne (Ne.symm q)] at ej
      rw [if_neg q] at ha
      split at ha
      · exact w.own j u a (up j _ ej) ha
      · cases ha
  · by_cases q : j = i
    · subst q
      rw [List.getElem?_set_self hi] at ej
      cases ej
    · rw [List.getElem?_set_ne (Ne.symm q)] at ej
      rw [if_neg q] at ha
      split at ha
      · exact w.mum j u a (up j _ ej) ha
      · cases ha
  · by_cases q : j = i
    · subst q
      rw [List.getElem?_set_self hi] at ej
      cases ej
    · rw [List.getElem?_set_ne (Ne.symm q)] at ej
      obtain ⟨x, e1, e2⟩ := w.mus j u (up j _ ej)
      have hj := (List.getElem?_eq_some_iff.mp ej).1
      rw [List.getElem?_append_left (by omega)] at e2
      exact ⟨x, e1, by rw [List.getElem?_set_ne (Ne.symm q)]; exact e2⟩
/-- data is stored at place i -/
theorem WdF.setD {v : V} {d : D} {i : Nat} (w : WdF C Z σ E H F) (r : Rep C.K Z H v d) (hi : i < E.length) (nm : ∀ t, E[i]? ≠ some (.mu t)) : Wd C Z (σ.set i (some v)) (E.set i (.fr d)) H := by
  have hl := w.sl.len
  refine ⟨fun j => if j = i then [] else F j, ⟨⟨?_, fun j u ej => ?_, fun j hj => ?_, fun j => ?_, fun j l a h1 h2 => ?_⟩, fun j a h => ?_, fun j u a ej ha => ?_, fun j u a ej ha => ?_, fun j u ej => ?_, w.fr, w.z0, w.zn, w.zt, w.kt, w.fl⟩⟩
  · rw [List.length_set, List.length_set]; exact hl
  · by_cases q : j = i
    · subst q
      rw [List.getElem?_set_self hi] at ej
      cases ej
      rw [if_pos rfl]
      refine ⟨rfl, v, ?_, r⟩
      rw [List.getD_eq_getElem?_getD, List.getElem?_set_self (by omega)]
      rfl
    · rw [List.getElem?_set_ne (Ne.symm q)] at ej
      rw [if_neg q, List.getD_eq_getElem?_getD, List.getElem?_set_ne (Ne.symm q), ← List.getD_eq_getElem?_getD]
      exact w.sl.rep j u ej
  · rw [List.length_set] at hj
    rw [if_neg (by omega)]
    exact w.sl.out j hj
  · split
    · exact List.nodup_nil
    · exact w.sl.nd j
  · split at h1
    · cases h1
    · split at h2
      · cases h2
      · exact w.sl.dj j l a h1 h2
  · split at h
    · cases h
    · exact w.nz j a h
  · by_cases q : j = i
    · rw [if_pos q] at ha; cases ha
    · rw [List.getElem?_set_ne (Ne.symm q)] at ej
      rw [if_neg q] at ha
      exact w.own j u a ej ha
  · by_cases q : j = i
    · rw [if_pos q] at ha; cases ha
    · rw [List.getElem?_set_ne (Ne.symm q)] at ej
      rw [if_neg q] at ha
      exact w.mum j u a ej ha
  · by_cases q : j = i
    · subst q
      rw [List.getElem?_set_self hi] at ej
      cases ej
    · rw [List.getElem?_set_ne (Ne.symm q)] at ej
      obtain ⟨x, e1, e2⟩ := w.mus j u ej
      exact ⟨x, e1, by rw [List.getElem?_set_ne (Ne.symm q)]; exact e2⟩
/-- a place is forgotten -/
theorem WdF.forget {i : Nat} {x : Option V} (w : WdF C Z σ E H F) : Wd C Z (σ.set i x) (E.set i .un) H := by
  have hl := w.sl.len
  by_cases hi : i < E.length
  · refine ⟨fun j => if j = i then [] else F j, ⟨⟨?_, fun j u ej => ?_, fun j hj => ?_, fun j => ?_, fun j l a h1 h2 => ?_⟩, fun j a h => ?_, fun j u a ej ha => ?_, fun j u a ej ha => ?_, fun j u ej => ?_, w.fr, w.z0, w.zn, w.zt, w.kt, w.fl⟩⟩
    · rw [List.length_set, List.length_set]; exact hl
    · by_cases q : j = i
      · subst q
        rw [List.getElem?_set_self hi] at ej
        cases ej
        rw [if_pos rfl]
        exact rfl
      · rw [List.getElem?_set_ne (Ne.symm q)] at ej
        rw [if_neg q, List.getD_eq_getElem?_getD, List.getElem?_set_ne (Ne.symm q), ← List.getD_eq_getElem?_getD]
        exact w.sl.rep j u ej
    · rw [List.length_set] at hj
      rw [if_neg (by omega)]
      exact w.sl.out j hj
    · split
      · exact List.nodup_nil
      · exact w.sl.nd j
    · split at h1
      · cases h1
      · split at h2
        · cases h2
        · exact w.sl.dj j l a h1 h2
    · split at h
      · cases h
      · exact w.nz j a h
    · by_cases q : j = i
      · rw [if_pos q] at ha; cases ha
      · rw [List.getElem?_set_ne (Ne.symm q)] at ej
        rw [if_neg q] at ha
        exact w.own j u a ej ha
    · by_cases q : j = i
      · rw [if_pos q] at ha; cases ha
      · rw [List.getElem?_set_ne (Ne.symm q)] at ej
        rw [if_neg q] at ha
        exact w.mum j u a ej ha
    · by_cases q : j = i
      · subst q
        rw [List.getElem?_set_self hi] at ej
        cases ej
      · rw [List.getElem?_set_ne (Ne.symm q)] at ej
        obtain ⟨x, e1, e2⟩ := w.mus j u ej
        exact ⟨x, e1, by rw [List.getElem?_set_ne (Ne.symm q)]; exact e2⟩
  · rw [List.set_eq_of_length_le (by omega), List.set_eq_of_length_le (by omega)]
    exact ⟨F, w⟩
/-- a new list of one's own, as the last place -/
theorem WdF.push (w : WdF C Z σ E H F) {p : Addr} {o : HO} {t : T} (hp : H p = none) (r : TRep C.K Z (upd H p o) (.ref p) t [p]) : Wd C Z (σ ++ [some (.ref p)]) (E ++ [.ow t]) (upd H p o) := by
  have w' := w.new (o := o) hp
  have hl := w.sl.len
  have pF : ∀ i, p ∉ F i := fun i h => by
    obtain ⟨o, e, _⟩ := w.kind h
    rw [hp] at e; cases e
  have pz : ¬ Z p := fun h => w.zt p h hp
  have p0 : C.H0 p = none := Classical.byContradiction fun n => w.kt p n hp
  have lastE : (E ++ [S.ow t])[E.length]? = some (.ow t) := by rw [List.getElem?_append_right (Nat.le_refl _), Nat.sub_self]; rfl
  have low : ∀ (j : Nat) u, (E ++ [S.ow t])[j]? = some u → j ≠ E.length → E[j]? = some u ∧ j < E.length := fun j u e q => by
    have h := (List.getElem?_eq_some_iff.mp e).1
    rw [List.length_append] at h
    have h : j < E.length := by
      have : ([S.ow t]).length = 1 := rfl
      omega
    rw [List.getElem?_append_left h] at e
    exact ⟨e, h⟩
  refine ⟨fun j => if j = E.length then [p] else F j, ⟨⟨?_, fun j u ej => ?_, fun j hj => ?_, fun j => ?_, fun j l a h1 h2 => ?_⟩, fun j a h => ?_, fun j u a ej ha => ?_, fun j u a ej ha => ?_, fun j u ej => ?_, w'.fr, w.z0, w.zn, w'.zt, w'.kt, w'.fl⟩⟩
  · rw [List.length_append, List.length_append, hl]; rfl
  · by_cases q : j = E.length
    · subst q
      rw [lastE] at ej
      cases ej
      rw [if_pos rfl, List.getD_eq_getElem?_getD, List.getElem?_append_right (by omega), hl, Nat.sub_self]
      exact ⟨_, rfl, r⟩
    · obtain ⟨e, h⟩ := low j u ej q
      rw [if_neg q, List.getD_eq_getElem?_getD, List.getElem?_append_left (by omega), ← List.getD_eq_getElem?_getD]
      exact w'.sl.rep j u e
  · rw [List.length_append] at hj
    have : ([S.ow t]).length = 1 := rfl
    rw [if_neg (by omega)]
    exact w.sl.out j (by omega)
  · split
    · simp
    · exact w.sl.nd j
  · split at h1
    · split at h2
      · omega
      · have e := List.mem_singleton.mp h1
        subst e
        exact absurd h2 (pF l)
    · split at h2
      · have e := List.mem_singleton.mp h2
        subst e
        exact absurd h1 (pF j)
      · exact w.sl.dj j l a h1 h2
  · split at h
    · have e := List.mem_singleton.mp h
      subst e
      exact pz
    · exact w.nz j a h
  · by_cases q : j = E.length
    · rw [if_pos q] at ha
      have e := List.mem_singleton.mp ha
      subst e
      exact p0
    · rw [if_neg q] at ha
      exact w.own j u a (low j _ ej q).1 ha
  · by_cases q : j = E.length
    · subst q; rw [lastE] at ej; cases ej
    · rw [if_neg q] at ha
      exact w.mum j u a (low j _ ej q).1 ha
  · by_cases q : j = E.length
    · subst q; rw [lastE] at ej; cases ej
    · obtain ⟨e, h⟩ := low j _ ej q
      obtain ⟨v, e1, e2⟩ := w.mus j u e
      exact ⟨v, e1, by rw [List.getElem?_append_left (by omega)]; exact e2⟩
end

/-! ### at a place of the proof: the names, and what is pending -/
def At (C : Ctx) (ps : Sg) (Ep : List S) (Z : Addr → Prop) (σ : Sg) (E : List S) (H : Hp) : Prop := σ.length = E.length ∧ Wd C Z (σ ++ ps) (E ++ Ep) H
section
variable {C : Ctx} {ps : Sg} {Ep : List S} {Z Z' : Addr → Prop} {σ : Sg} {E : List S} {H H' : Hp}
theorem up_get {s : S} {i : Nat} (e : E[i]? = some s) : (E ++ Ep)[i]? = some s := by
  rw [List.getElem?_append_left (List.getElem?_eq_some_iff.mp e).1]
  exact e
theorem At.low {x : V} {i : Nat} (hl : σ.length = E.length) (hi : i < E.length) (e : (σ ++ ps)[i]? = some (some x)) : σ[i]? = some (some x) := by
  rw [List.getElem?_append_left (by omega)] at e
  exact e
theorem At.high {x : V} {i : Nat} (e : σ[i]? = some (some x)) : (σ ++ ps)[i]? = some (some x) := by
  rw [List.getElem?_append_left (List.getElem?_eq_some_iff.mp e).1]
  exact e
theorem At.get (w : At C ps Ep Z σ E H) {i : Nat} {d : D} (e : E[i]? = some (.fr d)) : ∃ v, σ[i]? = some (some v) ∧ Rep C.K Z H v d := by
  obtain ⟨v, e1, r⟩ := w.2.get (up_get e)
  exact ⟨v, At.low w.1 (List.getElem?_eq_some_iff.mp e).1 e1, r⟩
theorem At.freeze (w : At C ps Ep Z σ E H) {i : Nat} {t : T} (e : E[i]? = some (.ow t)) : ∃ v Z', σ[i]? = some (some v) ∧ Stp Z H Z' H ∧ At C ps Ep Z' σ (E.set i (.fr t.fz)) H ∧ Rep C.K Z' H v t.fz := by
  obtain ⟨v, Z', e1, st, w', r⟩ := w.2.freeze (up_get e)
  have hi := (List.getElem?_eq_some_iff.mp e).1
  rw [List.set_append_left _ _ hi] at w'
  exact ⟨v, Z', At.low w.1 hi e1, st, ⟨by rw [List.length_set]; exact w.1, w'⟩, r⟩
theorem At.new (w : At C ps Ep Z σ E H) {p : Addr} {o : HO} (hp : H p = none) : At C ps Ep Z σ E (upd H p o) := ⟨w.1, w.2.new hp⟩
theorem At.zt (w : At C ps Ep Z σ E H) : ∀ a, Z a → H a ≠ none := w.2.zt
theorem At.tree (w : At C ps Ep Z σ E H) {i : Nat} {s : S} {t : T} (e : E[i]? = some s) (et : s.tree? = some t) : ∃ v F, σ[i]? = some (some v) ∧ TRep C.K Z H v t F := by
  obtain ⟨F, f⟩ := w.2
  obtain ⟨v, e1, r⟩ := (f.sl.rep i s (up_get e)).tree et
  exact ⟨v, F i, At.low w.1 (List.getElem?_eq_some_iff.mp e).1 (getD_some e1), r⟩
/-- an owned list at a name: read, and written -/
theorem At.list (w : At C ps Ep Z σ E H) {i : Nat} {s : S} {ds : List D} (e : E[i]? = some s) (et : s.tree? = some (.lst ds)) :
    ∃ a vs, σ[i]? = some (some (.ref a)) ∧ H a = some (.lst vs) ∧ Reps C.K Z H vs ds ∧ ∀ vs' ds', Reps C.K Z H vs' ds' → Stp Z H Z (upd H a (.lst vs')) ∧ At C ps Ep Z σ (E.set i (s.put (.lst ds'))) (upd H a (.lst vs')) := by
  obtain ⟨F, f⟩ := w.2
  obtain ⟨v, e1, r⟩ := (f.sl.rep i s (up_get e)).tree et
  have hi := (List.getElem?_eq_some_iff.mp e).1
  generalize hF : F i = G at r
  cases r with
  | lst h hs =>
    rename_i a vs
    have ha : a ∈ F i := by rw [hF]; simp
    refine ⟨a, vs, At.low w.1 hi (getD_some e1), h, hs, fun vs' ds' r' => ?_⟩
    have st : Stp Z H Z (upd H a (.lst vs')) := Stp.put (f.nz i a ha) h trivial
    refine ⟨st, by rw [List.length_set]; exact w.1, ?_⟩
    have q := f.put (up_get e) et st (getD_some e1) (TRep.lst upd_same (r'.mono st)) (fun b hb => .inl (by rw [hF]; exact hb)) (by simp) (fun j hj b hb => ?_) (fun b o e0 n q => ?_) (fun b z => ?_) upd_kt
    · rw [List.set_append_left _ _ hi] at q
      exact q
    · exact upd_ne fun q => hj (f.sl.dj j i b hb (by rw [q]; exact ha))
    · rw [upd_ne]
      · exact q
      · rintro rfl
        have ei := up_get (Ep := Ep) e
        cases s with
        | un => cases et
        | fr d => cases et
        | ow x =>
          have := f.own i x b ei ha
          rw [e0] at this; cases this
        | mu x =>
          rcases f.mum i x b ei ha with z | z
          · exact n i z
          · rw [e0] at z; cases z
    · by_cases q : b = a
      · rw [q, upd_same]; intro q; cases q
      · rw [upd_ne q]; exact f.zt b z
theorem At.setD (w : At C ps Ep Z σ E H) {v : V} {d : D} {i : Nat} (r : Rep C.K Z H v d) (hi : i < E.length) (nm : ∀ t, E[i]? ≠ some (.mu t)) : At C ps Ep Z (σ.set i (some v)) (E.set i (.fr d)) H := by
  obtain ⟨F, f⟩ := w.2
  refine ⟨by rw [List.length_set, List.length_set]; exact w.1, ?_⟩
  have q := f.setD (i := i) r (by rw [List.length_append]; omega) fun t => by rw [List.getElem?_append_left hi]; exact nm t
  rw [List.set_append_left _ _ hi, List.set_append_left _ _ (by have := w.1; omega)] at q
  exact q
theorem At.forget (w : At C ps Ep Z σ E H) {x : Option V} {i : Nat} (hi : i < E.length) : At C ps Ep Z (σ.set i x) (E.set i .un) H := by
  obtain ⟨F, f⟩ := w.2
  refine ⟨by rw [List.length_set, List.length_set]; exact w.1, ?_⟩
  have q := f.forget (i := i) (x := x)
  rw [List.set_append_left _ _ hi, List.set_append_left _ _ (by have := w.1; omega)] at q
  exact q
/-- what is pending is stored -/
theorem At.setP {v : V} {t : T} (w : At C (ps ++ [some v]) (Ep ++ [.ow t]) Z σ E H) {i : Nat} (hi : i < E.length) (nm : ∀ t, E[i]? ≠ some (.mu t)) : At C ps Ep Z (σ.set i (some v)) (E.set i (.ow t)) H := by
  obtain ⟨F, f⟩ := w.2
  refine ⟨by rw [List.length_set, List.length_set]; exact w.1, ?_⟩
  rw [← List.append_assoc, ← List.append_assoc] at f
  have q := f.move (i := i) (by rw [List.length_append]; omega) fun t => by rw [List.getElem?_append_left hi]; exact nm t
  rw [List.set_append_left _ _ hi, List.set_append_left _ _ (by have := w.1; omega)] at q
  exact q
/-- .. or frozen -/
theorem At.frP {v : V} {t : T} (w : At C (ps ++ [some v]) (Ep ++ [.ow t]) Z σ E H) : ∃ Z', Stp Z H Z' H ∧ At C ps Ep Z' σ E H ∧ Rep C.K Z' H v t.fz := by
  have w2 := w.2
  rw [← List.append_assoc, ← List.append_assoc] at w2
  have hl : (σ ++ ps).length = (E ++ Ep).length := by
    have q := w2.len
    simp only [List.length_append, List.length_singleton] at q ⊢
    omega
  have le : ((E ++ Ep) ++ [S.ow t])[(E ++ Ep).length]? = some (.ow t) := by rw [List.getElem?_append_right (Nat.le_refl _), Nat.sub_self]; rfl
  obtain ⟨v', Z', e, st, w', r⟩ := w2.freeze le
  rw [List.getElem?_append_right (by omega), hl, Nat.sub_self] at e
  have ev : v = v' := by
    have q : some (some v) = some (some v') := e
    exact Option.some.inj (Option.some.inj q)
  subst ev
  rw [List.set_append_right _ _ (Nat.le_refl _), Nat.sub_self] at w'
  obtain ⟨F, f⟩ := w'
  exact ⟨Z', st, ⟨w.1, WdF.drop (s := .fr t.fz) f⟩, r⟩
theorem At.push (w : At C ps Ep Z σ E H) {p : Addr} {vs : List V} {ds : List D} (hp : H p = none) (r : Reps C.K Z H vs ds) :
    Stp Z H Z (upd H p (.lst vs)) ∧ At C (ps ++ [some (.ref p)]) (Ep ++ [.ow (.lst ds)]) Z σ E (upd H p (.lst vs)) := by
  obtain ⟨F, f⟩ := w.2
  have st : Stp Z H Z (upd H p (.lst vs)) := Stp.new f.zt hp
  refine ⟨st, w.1, ?_⟩
  rw [← List.append_assoc, ← List.append_assoc]
  exact f.push hp (.lst upd_same (r.mono st))
end
end DL
set_option Elab.async false
set_option linter.all false
set_option maxRecDepth 100000
set_option maxHeartbeats 4000000
/-! DL, part c: judgements; names, constants, displays, operators, tests, subscripts. -/
namespace DL
open PySem PySem.Spec PyProof.Rows L2

/-- by a truth value; never unfolded by itself -/
@[irreducible] def brB (b : Bool) (A B : Prop) : Prop := (b = true → A) ∧ (b = false → B)
theorem brB.t {A B : Prop} (h : brB true A B) : A := by unfold brB at h; exact h.1 rfl
theorem brB.f {A B : Prop} (h : brB false A B) : B := by unfold brB at h; exact h.2 rfl
theorem br {b : Bool} {A B : Prop} (h1 : b = true → A) (h2 : b = false → B) : brB b A B := by unfold brB; exact ⟨h1, h2⟩
theorem brT {b : Bool} {A B : Prop} (e : b = true) (h : A) : brB b A B := br (fun _ => h) fun q => by rw [e] at q; cases q
theorem brF {b : Bool} {A B : Prop} (e : b = false) (h : B) : brB b A B := br (fun q => by rw [e] at q; cases q) fun _ => h
abbrev TD := List S → (D → List S → Prop) → Prop
abbrev TN := List S → (T → List S → Prop) → Prop
abbrev TB := List S → (Bool → List S → Prop) → Prop
abbrev TL := List S → (List D → List S → Prop) → Prop

/-- read now: data, or an owned tree -/
def BRep (K : Frg) (Z : Addr → Prop) (H : Hp) (v : V) (d : D) : Prop := Rep K Z H v d ∨ ∃ t F, TRep K Z H v t F ∧ t.fz = d

def teOf (C : Ctx) (t : TD) : TE := fun σ H Q => ∃ ps Ep E Z Qd, At C ps Ep Z σ E H ∧ t E Qd ∧ ∀ d E' Z' H' v, At C ps Ep Z' σ E' H' → Stp Z H Z' H' → Rep C.K Z' H' v d → Qd d E' → Q v H'
def tbOf (C : Ctx) (t : TD) : TE := fun σ H Q => ∃ ps Ep E Z Qd, At C ps Ep Z σ E H ∧ t E Qd ∧ ∀ d E' Z' H' v, At C ps Ep Z' σ E' H' → Stp Z H Z' H' → BRep C.K Z' H' v d → Qd d E' → Q v H'
def neOf (C : Ctx) (t : TN) : TE := fun σ H Q => ∃ ps Ep E Z Qd, At C ps Ep Z σ E H ∧ t E Qd ∧ ∀ tr E' Z' H' v, At C (ps ++ [some v]) (Ep ++ [.ow tr]) Z' σ E' H' → Stp Z H Z' H' → Qd tr E' → Q v H'
def ttOf (C : Ctx) (t : TB) : TT := fun σ H Q => ∃ ps Ep E Z Qd, At C ps Ep Z σ E H ∧ t E Qd ∧ ∀ b E' Z' H', At C ps Ep Z' σ E' H' → Stp Z H Z' H' → Qd b E' → Q b H'
def tlOf (C : Ctx) (n : Nat) (t : TL) : TA := fun σ H Q => ∃ ps Ep E Z Qd, At C ps Ep Z σ E H ∧ t E Qd ∧ ∀ ds E' Z' H' vs, At C ps Ep Z' σ E' H' → Stp Z H Z' H' → Reps C.K Z' H' vs ds → ds.length = n → Qd ds E' → Q vs H'

abbrev DE (C : Ctx) (X : Cx) (e : Expr) (t : TD) : Prop := PE X e (teOf C t)
abbrev DB (C : Ctx) (X : Cx) (e : Expr) (t : TD) : Prop := PE X e (tbOf C t)
abbrev DN (C : Ctx) (X : Cx) (e : Expr) (t : TN) : Prop := PE X e (neOf C t)
abbrev DT (C : Ctx) (X : Cx) (e : Expr) (t : TB) : Prop := PT X e (ttOf C t)
abbrev DW (C : Ctx) (X : Cx) (e : Expr) (t : TB) : Prop := PW X e (ttOf C t)
abbrev DA (C : Ctx) (X : Cx) (es : List Expr) (t : TL) : Prop := PA X es (tlOf C es.length t)

theorem _root_.L2.PE.imp {X : Cx} {e : Expr} {t t' : TE} (h : PE X e t) (k : ∀ σ H Q, t' σ H Q → t σ H Q) : PE X e t' := ⟨fun pins s σ H Q I q => h.run pins s σ H Q I (k σ H Q q)⟩
theorem _root_.L2.PT.imp {X : Cx} {e : Expr} {t t' : TT} (h : PT X e t) (k : ∀ σ H Q, t' σ H Q → t σ H Q) : PT X e t' := ⟨fun pins s σ H Q I q => h.run pins s σ H Q I (k σ H Q q)⟩
theorem _root_.L2.PW.imp {X : Cx} {e : Expr} {t t' : TT} (h : PW X e t) (k : ∀ σ H Q, t' σ H Q → t σ H Q) : PW X e t' := ⟨fun wh pins s σ H Q I q => h.run wh pins s σ H Q I (k σ H Q q)⟩
theorem _root_.L2.PA.imp {X : Cx} {es : List Expr} {t t' : TA} (h : PA X es t) (k : ∀ σ H Q, t' σ H Q → t σ H Q) : PA X es t' := ⟨fun pos pins s σ H Q I q => h.run pos pins s σ H Q I (k σ H Q q)⟩
theorem _root_.L2.PS.imp {X : Cx} {st : Stmt} {t t' : TS} (h : PS X st t) (k : ∀ D σ H, t' D σ H → t D σ H) : PS X st t' := ⟨fun pins s σ H D I q => h.run pins s σ H D I (k D σ H q)⟩
theorem _root_.L2.PSs.imp {X : Cx} {st : List Stmt} {t t' : TS} (h : PSs X st t) (k : ∀ D σ H, t' D σ H → t D σ H) : PSs X st t' := ⟨fun pins s σ H D I q => h.run pins s σ H D I (k D σ H q)⟩
theorem _root_.L2.PG.imp {X : Cx} {e : Expr} {t t' : TG} (h : PG X e t) (k : ∀ v σ H Q, t' v σ H Q → t v σ H Q) : PG X e t' := ⟨fun pins s σ H v u Q I r q => h.run pins s σ H v u Q I r (k v σ H Q q)⟩
theorem _root_.L2.PI.imp {X : Cx} {tg e : Expr} {t t' : TI} (h : PI X tg e t) (k : ∀ σ H R, t' σ H R → t σ H R) : PI X tg e t' := ⟨fun pins s σ H R I q => h.run pins s σ H R I (k σ H R q)⟩

/-! ### data as the library's data -/
mutual
def D.py : D → PyData
  | .non => .none
  | .bl b => .bool b
  | .int i => .int i
  | .str x => .str x
  | .tup ds => .tuple (D.pys ds)
  | .lst ds => .list (D.pys ds)
  | .scr ds => .list (D.pys ds)
  | .dic _ _ => .dict []
  | .obj _ _ _ => .dict []
  | .kon _ => .dict []
def D.pys : List D → List PyData
  | [] => []
  | d :: ds => d.py :: D.pys ds
end
theorem pys_map : ∀ ds : List D, D.pys ds = ds.map D.py
  | [] => rfl
  | d :: ds => by rw [D.pys, pys_map ds]; rfl
def D.shp (d : D) : Bool := SeqAt.shaped d.py
def D.eqv (d e : D) : Bool := PyData.eqv d.py e.py
mutual
theorem Rep.dp {K : Frg} {Z : Addr → Prop} {H : Hp} : ∀ {v : V} {d : D}, Rep K Z H v d → d.py.canLay0 = true → Dp K H v d.py
  | _, _, .non, _ => .non
  | _, _, .bl b, _ => .bl b
  | _, _, .int i, _ => .int i
  | _, _, .str x, _ => .str x
  | _, _, .tup h hs, c => .tup h (Reps.dp hs c)
  | _, _, .lst h hs, c => .lst h.sq (Reps.dp hs c)
  | _, _, .scr h hs, c => .lst h.sq (Reps.dp hs c)
  | _, _, .dic _ _ _ _, c => by simp [D.py, PyData.canLay0] at c
  | _, _, .obj _ _ _ _, c => by simp [D.py, PyData.canLay0] at c
  | _, _, .kon _, c => by simp [D.py, PyData.canLay0] at c
theorem Reps.dp {K : Frg} {Z : Addr → Prop} {H : Hp} : ∀ {vs : List V} {ds : List D}, Reps K Z H vs ds → PyData.canLayAll0 (D.pys ds) = true → DpAll K H vs (D.pys ds)
  | _, _, .nil, _ => .nil
  | _, _, .cons h hs, c => by
    have c' := Bool.and_eq_true_iff.mp (show (PyData.canLay0 _ && PyData.canLayAll0 _) = true from c)
    exact .cons (Rep.dp h c'.1) (Reps.dp hs c'.2)
end
theorem BRep.dp {K : Frg} {Z : Addr → Prop} {H : Hp} {v : V} {d : D} (h : BRep K Z H v d) (c : d.py.canLay0 = true) : Dp K H v d.py := by
  rcases h with h | ⟨t, F, h, e⟩
  · exact h.dp c
  · cases h with
    | fr h => rw [← e] at c ⊢; exact h.dp c
    | lst h hs => rw [← e] at c ⊢; exact .lst (.of h) (Reps.dp hs c)
    | dic h e1 hs => rw [← e] at c; simp [T.fz, D.py, PyData.canLay0] at c
    | obj h e1 hs => rw [← e] at c; simp [T.fz, D.py, PyData.canLay0] at c
theorem BRep.lst {K : Frg} {Z : Addr → Prop} {H : Hp} {v : V} {ds : List D} (h : BRep K Z H v (.lst ds)) : ∃ a vs, v = .ref a ∧ SqL K H a vs ∧ Reps K Z H vs ds := by
  rcases h with h | ⟨t, F, h, e⟩
  · cases h with
    | lst h hs => exact ⟨_, _, rfl, h.sq, hs⟩
  · cases h with
    | fr h =>
      rw [show (T.fr _).fz = _ from rfl] at e
      subst e
      cases h with
      | lst h hs => exact ⟨_, _, rfl, h.sq, hs⟩
    | lst h hs => cases e; exact ⟨_, _, rfl, .of h, hs⟩
    | dic h e1 hs => cases e
    | obj h e1 hs => cases e
theorem BRep.tup {K : Frg} {Z : Addr → Prop} {H : Hp} {v : V} {ds : List D} (h : BRep K Z H v (.tup ds)) : ∃ a vs, v = .ref a ∧ SqT K H a vs ∧ Reps K Z H vs ds := by
  rcases h with h | ⟨t, F, h, e⟩
  · cases h with
    | tup h hs => exact ⟨_, _, rfl, h, hs⟩
  · cases h with
    | fr h =>
      rw [show (T.fr _).fz = _ from rfl] at e
      subst e
      cases h with
      | tup h hs => exact ⟨_, _, rfl, h, hs⟩
    | lst h hs => cases e
    | dic h e1 hs => cases e
    | obj h e1 hs => cases e
theorem BRep.str {K : Frg} {Z : Addr → Prop} {H : Hp} {v : V} {x : Str} (h : BRep K Z H v (.str x)) : v = .str x := by
  rcases h with h | ⟨t, F, h, e⟩
  · cases h; rfl
  · cases h with
    | fr h =>
      rw [show (T.fr _).fz = _ from rfl] at e
      subst e
      cases h; rfl
    | lst h hs => cases e
    | dic h e1 hs => cases e
    | obj h e1 hs => cases e

section
variable {C : Ctx} {X : Cx}
/-! ### names -/
def tv (i : Nat) : TD := fun E Q => match E[i]? with
  | some (.fr d) => Q d E
  | some (.ow t) => Q t.fz (E.set i (.fr t.fz))
  | _ => False
theorem de_v (i : Nat) {x : Str} {pos : Pos} (hN : X.N[i]? = some x := by rfl) (hv : Vis X.env.scope x := by first | exact Or.inl rfl | exact Or.inr (Or.inl rfl) | exact Or.inr (Or.inr rfl)) (hd : (x == ("__debug__" : Str)) = false := by decide)
    (hcd : (x == ("__classdict__" : Str)) = false := by decide) : DE C X (.Name x pos) (tv i) := (pe_var hN hv hd hcd).imp fun σ H Q ⟨ps, Ep, E, Z, Qd, w, h, post⟩ => by
  unfold tv at h
  split at h
  · rename_i d e
    obtain ⟨v, e1, r⟩ := w.get e
    exact ⟨v, e1, post d E Z H v w (Stp.refl _ _) r h⟩
  · rename_i t e
    obtain ⟨v, Z', e1, st, w', r⟩ := w.freeze e
    exact ⟨v, e1, post _ _ Z' H v w' st r h⟩
  · cases h
/-- a name that is only looked at -/
def tbv (i : Nat) : TD := fun E Q => match E[i]? with
  | some (.fr d) => Q d E
  | some (.ow t) => Q t.fz E
  | some (.mu t) => Q t.fz E
  | _ => False
theorem db_v (i : Nat) {x : Str} {pos : Pos} (hN : X.N[i]? = some x := by rfl) (hv : Vis X.env.scope x := by first | exact Or.inl rfl | exact Or.inr (Or.inl rfl) | exact Or.inr (Or.inr rfl)) (hd : (x == ("__debug__" : Str)) = false := by decide)
    (hcd : (x == ("__classdict__" : Str)) = false := by decide) : DB C X (.Name x pos) (tbv i) := (pe_var hN hv hd hcd).imp fun σ H Q ⟨ps, Ep, E, Z, Qd, w, h, post⟩ => by
  unfold tbv at h
  split at h
  · rename_i d e
    obtain ⟨v, e1, r⟩ := w.get e
    exact ⟨v, e1, post d E Z H v w (Stp.refl _ _) (.inl r) h⟩
  · rename_i t e
    obtain ⟨v, F, e1, r⟩ := w.tree e (t := t) rfl
    exact ⟨v, e1, post _ _ Z H v w (Stp.refl _ _) (.inr ⟨t, F, r, rfl⟩) h⟩
  · rename_i t e
    obtain ⟨v, F, e1, r⟩ := w.tree e (t := t) rfl
    exact ⟨v, e1, post _ _ Z H v w (Stp.refl _ _) (.inr ⟨t, F, r, rfl⟩) h⟩
  · cases h
theorem db_e {e : Expr} {t : TD} (h : DE C X e t) : DB C X e t := h.imp fun σ H Q ⟨ps, Ep, E, Z, Qd, w, ht, post⟩ => ⟨ps, Ep, E, Z, Qd, w, ht, fun d E' Z' H' v w' st r q => post d E' Z' H' v w' st (.inl r) q⟩

/-! ### constants -/
def tc (d : D) : TD := fun E Q => Q d E
theorem de_of {e : Expr} {v : V} {d : D} (h : PE X e (tC v)) (r : ∀ Z H, Rep C.K Z H v d) : DE C X e (tc d) := h.imp fun σ H Q ⟨ps, Ep, E, Z, Qd, w, h, post⟩ => post d E Z H v w (Stp.refl _ _) (r _ _) h
theorem de_int {i : Int} {j pos} : DE C X (.Constant (.int i) j pos) (tc (.int i)) := de_of pe_int fun _ _ => .int i
theorem de_bl {b : Bool} {j pos} : DE C X (.Constant (.bool b) j pos) (tc (.bl b)) := de_of pe_bl fun _ _ => .bl b
theorem de_non {j pos} : DE C X (.Constant .none j pos) (tc .non) := de_of pe_non fun _ _ => .non
theorem de_str {x : Str} {j pos} : DE C X (.Constant (.str x) j pos) (tc (.str x)) := de_of pe_str fun _ _ => .str x
theorem de_glob {x : Str} {v : V} {d : D} {u : Value} {pos : Pos} (hg : Gl X x) (hm : X.mg x = some u) (rv : RelV v u) (r : ∀ Z H, Rep C.K Z H v d) (hd : (x == ("__debug__" : Str)) = false := by decide) : DE C X (.Name x pos) (tc d) := de_of (pe_glob hg hm rv hd) r

/-! ### argument lists, displays -/
def tlNil : TL := fun E Q => Q [] E
def tlCons (t : TD) (u : TL) : TL := fun E Q => t E fun d E1 => u E1 fun ds E2 => Q (d :: ds) E2
theorem da_nil : DA C X [] tlNil := pa_nil.imp fun σ H Q ⟨ps, Ep, E, Z, Qd, w, h, post⟩ => post [] E Z H [] w (Stp.refl _ _) .nil rfl h
theorem da_cons {e : Expr} {es : List Expr} {t : TD} {u : TL} (ha : DE C X e t) (hr : DA C X es u) (hs : starEach (e :: es) X.env = (false, eval e X.env) :: starEach es X.env := by rfl) : DA C X (e :: es) (tlCons t u) :=
  (pa_cons ha hr hs).imp fun σ H Q ⟨ps, Ep, E, Z, Qd, w, h, post⟩ => ⟨ps, Ep, E, Z, _, w, h, fun d E1 Z1 H1 v w1 st1 r1 h1 => ⟨ps, Ep, E1, Z1, _, w1, h1, fun ds E2 Z2 H2 vs w2 st2 r2 n h2 =>
    post _ E2 Z2 H2 _ w2 (st1.trans st2) (.cons (r1.mono st2) r2) (by rw [List.length_cons, List.length_cons, n]) h2⟩⟩
def tTupD (t : TL) : TD := fun E Q => t E fun ds E1 => Q (.tup ds) E1
theorem de_tup {es : List Expr} {t : TL} {x1} {pos : Pos} (h : DA C X es t) (hn : es.length ≤ 16777216 := by decide) : DE C X (.Tuple es x1 pos) (tTupD t) :=
  (pe_tup h).imp fun σ H Q ⟨ps, Ep, E, Z, Qd, w, h, post⟩ => ⟨ps, Ep, E, Z, _, w, h, fun ds E1 Z1 H1 vs w1 st1 r1 n h1 => ⟨by rw [r1.length, n, sizeLine_eq]; exact hn, fun p hp =>
    have st2 := Stp.new (o := .tup vs) w1.zt hp
    post _ E1 Z1 _ _ (w1.new hp) (st1.trans st2) (.tup (.of upd_same) (r1.mono st2)) h1⟩⟩
def tLstD (t : TL) : TN := fun E Q => t E fun ds E1 => Q (.lst ds) E1
theorem dn_lst {es : List Expr} {t : TL} {pos : Pos} (h : DA C X es t) (hn : es.length ≤ 16777216 := by decide) : DN C X (.List es pos) (tLstD t) :=
  (pe_lst h).imp fun σ H Q ⟨ps, Ep, E, Z, Qd, w, h, post⟩ => ⟨ps, Ep, E, Z, _, w, h, fun ds E1 Z1 H1 vs w1 st1 r1 n h1 => ⟨by rw [r1.length, n, sizeLine_eq]; exact hn, fun p hp => by
    obtain ⟨st2, w2⟩ := w1.push hp r1
    exact post _ E1 Z1 _ _ w2 (st1.trans st2) h1⟩⟩
/-- what is new is frozen -/
def tFz (t : TN) : TD := fun E Q => t E fun tr E1 => Q tr.fz E1
theorem de_n {e : Expr} {t : TN} (h : DN C X e t) : DE C X e (tFz t) := h.imp fun σ H Q ⟨ps, Ep, E, Z, Qd, w, h, post⟩ => ⟨ps, Ep, E, Z, _, w, h, fun tr E1 Z1 H1 v w1 st1 h1 => by
  obtain ⟨Z2, st2, w2, r2⟩ := w1.frP
  exact post _ E1 Z2 H1 v w2 (st1.trans st2) r2 h1⟩

/-! ### operators -/
abbrev O2 := D → D → (D → Prop) → Prop
def tOp2 (o : O2) (ta tb : TD) : TD := fun E Q => ta E fun x E1 => tb E1 fun y E2 => o x y fun z => Q z E2
/-- what a library's rule asks is met by o, the heap stays -/
def Meets (C : Ctx) (o : O2) (r : R2) : Prop := ∀ (Z : Addr → Prop) (H : Hp) (v w : V) (x y : D) (q : D → Prop) (Q : VK), Rep C.K Z H v x → Rep C.K Z H w y → o x y q → (∀ z d, Rep C.K Z H z d → q d → Q z H) → r v w H Q
theorem op2_imp {o : O2} {r : R2} (m : Meets C o r) {ta tb : TD} (σ : Sg) (H : Hp) (Q : VK) (h : teOf C (tOp2 o ta tb) σ H Q) : tOp r (teOf C ta) (teOf C tb) σ H Q := by
  obtain ⟨ps, Ep, E, Z, Qd, w, h, post⟩ := h
  exact ⟨ps, Ep, E, Z, _, w, h, fun x E1 Z1 H1 v w1 st1 r1 h1 => ⟨ps, Ep, E1, Z1, _, w1, h1, fun y E2 Z2 H2 u w2 st2 r2 h2 => m Z2 H2 v u x y _ Q (r1.mono st2) r2 h2 fun z d rz q => post d E2 Z2 H2 z w2 (st1.trans st2) rz q⟩⟩
theorem de_op {op : Operator} {o : O2} {r : R2} {a b : Expr} {ta tb : TD} {pos : Pos} (ho : OpR X (binaryOp op) r ∧ Meets C o r) (ha : DE C X a ta) (hb : DE C X b tb) : DE C X (.BinOp a op b pos) (tOp2 o ta tb) :=
  (pe_op ho.1 ha hb).imp (op2_imp ho.2)
theorem de_cmp {op : CmpOp} {o : O2} {r : R2} {a b : Expr} {ta tb : TD} {pos : Pos} (ho : OpR X (compareOp op) r ∧ Meets C o r) (ha : DE C X a ta) (hb : DE C X b tb) (hm : behindInMarks op b = false := by first | exact nomark _ | rfl) : DE C X (.Compare a [op] [b] pos) (tOp2 o ta tb) :=
  (pe_cmpR ho.1 ha hb hm).imp (op2_imp ho.2)
def tOp2B (o : O2) (ta tb : TD) : TB := fun E Q => ta E fun x E1 => tb E1 fun y E2 => o x y fun z => match z with
  | .bl k => Q k E2
  | _ => False
theorem dt_cmp {op : CmpOp} {o : O2} {r : R2} {a b : Expr} {ta tb : TD} {pos : Pos} (ho : OpR X (compareOp op) r ∧ Meets C o r) (ha : DE C X a ta) (hb : DE C X b tb) (hm : behindInMarks op b = false := by first | exact nomark _ | rfl) : DT C X (.Compare a [op] [b] pos) (tOp2B o ta tb) :=
  (pt_cmpR ho.1 ha hb hm).imp fun σ H Q ⟨ps, Ep, E, Z, Qd, w, h, post⟩ => ⟨ps, Ep, E, Z, _, w, h, fun x E1 Z1 H1 v w1 st1 r1 h1 => ⟨ps, Ep, E1, Z1, _, w1, h1, fun y E2 Z2 H2 u w2 st2 r2 h2 => ho.2 Z2 H2 v u x y _ _ (r1.mono st2) r2 h2 fun z d rz q => by
    cases rz with
    | bl k => exact ⟨k, rfl, post k E2 Z2 H2 w2 (st1.trans st2) q⟩
    | _ => cases q⟩⟩

def oI (f : Int → Int → D) : O2 := fun x y q => match x, y with
  | .int i, .int j => q (f i j)
  | _, _ => False
def oIc (c : Int → Int → Prop) (f : Int → Int → D) : O2 := fun x y q => match x, y with
  | .int i, .int j => c i j ∧ q (f i j)
  | _, _ => False
theorem meets_I {f : Int → Int → D} {g : Int → Int → V} (hr : ∀ K Z H i j, Rep K Z H (g i j) (f i j)) : Meets C (oI f) (rI0 g) := fun Z H v w x y q Q rx ry h k => by
  unfold oI at h
  split at h
  · cases rx; cases ry
    exact ⟨_, _, rfl, rfl, k _ _ (hr _ _ _ _ _) h⟩
  · cases h
theorem meets_Ic {c c' : Int → Int → Prop} {f : Int → Int → D} {g : Int → Int → V} (hr : ∀ K Z H i j, Rep K Z H (g i j) (f i j)) (hc : ∀ i j, c i j → c' i j) : Meets C (oIc c f) (rI c' g) := fun Z H v w x y q Q rx ry h k => by
  unfold oIc at h
  split at h
  · cases rx; cases ry
    exact ⟨_, _, rfl, rfl, hc _ _ h.1, k _ _ (hr _ _ _ _ _) h.2⟩
  · cases h
abbrev iInt (f : Int → Int → Int) : Int → Int → D := fun i j => .int (f i j)
abbrev iBl (f : Int → Int → Bool) : Int → Int → D := fun i j => .bl (f i j)
theorem o_sub : OpR X (binaryOp .Sub) (rI0 fun i j => .int (i - j)) ∧ Meets C (oI (iInt fun i j => i - j)) (rI0 fun i j => .int (i - j)) := ⟨op_sub, meets_I fun _ _ _ _ _ => .int _⟩
theorem o_mul : OpR X (binaryOp .Mult) (rI CMul fun i j => .int (i * j)) ∧ Meets C (oIc CMul (iInt fun i j => i * j)) (rI CMul fun i j => .int (i * j)) := ⟨op_mul, meets_Ic (fun _ _ _ _ _ => .int _) fun _ _ h => h⟩
theorem o_fdiv : OpR X (binaryOp .FloorDiv) (rI CDiv fun i j => .int (i / j)) ∧ Meets C (oIc CDiv (iInt fun i j => i / j)) (rI CDiv fun i j => .int (i / j)) := ⟨op_fdiv, meets_Ic (fun _ _ _ _ _ => .int _) fun _ _ h => h⟩
theorem o_mod : OpR X (binaryOp .Mod) (rI (fun _ j => 0 < j) fun i j => .int (i % j)) ∧ Meets C (oIc (fun _ j => 0 < j) (iInt fun i j => i % j)) (rI (fun _ j => 0 < j) fun i j => .int (i % j)) := ⟨op_mod, meets_Ic (fun _ _ _ _ _ => .int _) fun _ _ h => h⟩
theorem o_pow : OpR X (binaryOp .Pow) (rI CPow fun i j => .int (i ^ j.toNat)) ∧ Meets C (oIc CPow (iInt fun i j => i ^ j.toNat)) (rI CPow fun i j => .int (i ^ j.toNat)) := ⟨op_pow, meets_Ic (fun _ _ _ _ _ => .int _) fun _ _ h => h⟩
theorem o_lt : OpR X (compareOp .Lt) (rI0 fun i j => .bl (decide (i < j))) ∧ Meets C (oI (iBl fun i j => decide (i < j))) (rI0 fun i j => .bl (decide (i < j))) := ⟨op_lt, meets_I fun _ _ _ _ _ => .bl _⟩
theorem o_le : OpR X (compareOp .LtE) (rI0 fun i j => .bl (decide (i ≤ j))) ∧ Meets C (oI (iBl fun i j => decide (i ≤ j))) (rI0 fun i j => .bl (decide (i ≤ j))) := ⟨op_le, meets_I fun _ _ _ _ _ => .bl _⟩
theorem o_gt : OpR X (compareOp .Gt) (rI0 fun i j => .bl (decide (j < i))) ∧ Meets C (oI (iBl fun i j => decide (j < i))) (rI0 fun i j => .bl (decide (j < i))) := ⟨op_gt, meets_I fun _ _ _ _ _ => .bl _⟩
theorem o_ge : OpR X (compareOp .GtE) (rI0 fun i j => .bl (decide (j ≤ i))) ∧ Meets C (oI (iBl fun i j => decide (j ≤ i))) (rI0 fun i j => .bl (decide (j ≤ i))) := ⟨op_ge, meets_I fun _ _ _ _ _ => .bl _⟩
/-- + of ints, of texts -/
def oAdd : O2 := fun x y q => match x, y with
  | .int i, .int j => q (.int (i + j))
  | .str a, .str b => a.length + b.length ≤ sizeLine ∧ q (.str (a ++ b))
  | _, _ => False
def rAddA : R2 := fun x y H Q => (∃ i j, x = .int i ∧ y = .int j ∧ Q (.int (i + j)) H) ∨ ∃ i j, x = .str i ∧ y = .str j ∧ i.length + j.length ≤ sizeLine ∧ Q (.str (i ++ j)) H
theorem o_add : OpR X (binaryOp .Add) rAddA ∧ Meets C oAdd rAddA := ⟨op_add.or op_add_str, fun Z H v w x y q Q rx ry h k => by
  unfold oAdd at h
  split at h
  · cases rx; cases ry
    exact .inl ⟨_, _, rfl, rfl, k _ _ (.int _) h⟩
  · cases rx; cases ry
    exact .inr ⟨_, _, rfl, rfl, h.1, k _ _ (.str _) h.2⟩
  · cases h⟩
/-- == and != of data -/
def oEq : O2 := fun x y q => (x.shp = true ∧ y.shp = true) ∧ q (.bl (x.eqv y))
def oNe : O2 := fun x y q => (x.shp = true ∧ y.shp = true) ∧ q (.bl (!x.eqv y))
theorem shp_lay {d : D} (h : d.shp = true) : d.py.canLay0 = true := SeqAt.canLay_of_shaped h
theorem o_eq (hu : X.A.units + 64 < cLine) (hK : X.K = C.K := by rfl) : OpR X (compareOp .Eq) (rEqD X.K) ∧ Meets C oEq (rEqD X.K) := ⟨op_eqD hu, fun Z H v w x y q Q rx ry h k => by
  rw [hK]
  exact ⟨_, _, rx.dp (shp_lay h.1.1), ry.dp (shp_lay h.1.2), h.1.1, h.1.2, k _ _ (.bl _) h.2⟩⟩
theorem o_ne (hu : X.A.units + 64 < cLine) (hK : X.K = C.K := by rfl) : OpR X (compareOp .NotEq) (rNeD X.K) ∧ Meets C oNe (rNeD X.K) := ⟨op_neD hu, fun Z H v w x y q Q rx ry h k => by
  rw [hK]
  exact ⟨_, _, rx.dp (shp_lay h.1.1), ry.dp (shp_lay h.1.2), h.1.1, h.1.2, k _ _ (.bl _) h.2⟩⟩
/-- is None -/
def D.isN : D → Bool
  | .non => true
  | _ => false
theorem Rep.isN {K : Frg} {Z : Addr → Prop} {H : Hp} {v : V} {d : D} (h : Rep K Z H v d) : decide (v = .non) = d.isN := by cases h <;> rfl
def oIs : O2 := fun x y q => match y with
  | .non => q (.bl x.isN)
  | _ => False
def oIsnt : O2 := fun x y q => match y with
  | .non => q (.bl (!x.isN))
  | _ => False
theorem o_is : OpR X (compareOp .Is) (fun x y H Q => y = .non ∧ Q (.bl (decide (x = .non))) H) ∧ Meets C oIs (fun x y H Q => y = .non ∧ Q (.bl (decide (x = .non))) H) := ⟨op_isN, fun Z H v w x y q Q rx ry h k => by
  unfold oIs at h
  split at h
  · cases ry
    exact ⟨rfl, by rw [rx.isN]; exact k _ _ (.bl _) h⟩
  · cases h⟩
theorem o_isnt : OpR X (compareOp .IsNot) (fun x y H Q => y = .non ∧ Q (.bl (!decide (x = .non))) H) ∧ Meets C oIsnt (fun x y H Q => y = .non ∧ Q (.bl (!decide (x = .non))) H) := ⟨op_notN, fun Z H v w x y q Q rx ry h k => by
  unfold oIsnt at h
  split at h
  · cases ry
    exact ⟨rfl, by rw [rx.isN]; exact k _ _ (.bl _) h⟩
  · cases h⟩

/-! ### one operand -/
def tUn1 (o : D → (D → Prop) → Prop) (t : TD) : TD := fun E Q => t E fun x E1 => o x fun z => Q z E1
def oNeg : D → (D → Prop) → Prop := fun x q => match x with
  | .int i => q (.int (-i))
  | _ => False
theorem de_neg {a : Expr} {t : TD} {pos : Pos} (ha : DE C X a t) : DE C X (.UnaryOp .USub a pos) (tUn1 oNeg t) := (pe_un un_neg ha).imp fun σ H Q ⟨ps, Ep, E, Z, Qd, w, h, post⟩ => ⟨ps, Ep, E, Z, _, w, h, fun x E1 Z1 H1 v w1 st1 r1 h1 => by
  unfold oNeg at h1
  split at h1
  · cases r1
    exact ⟨_, rfl, post _ E1 Z1 H1 _ w1 st1 (.int _) h1⟩
  · cases h1⟩

/-! ### tests -/
/-- the truth of data -/
def truD (d : D) (q : Bool → Prop) : Prop := match d with
  | .non => q false
  | .bl b => q b
  | .int i => q (i != 0)
  | .str x => x.length ≤ sizeLine ∧ q ((x.length : Int) != 0)
  | .tup ds => q (!ds.isEmpty)
  | .lst ds => q (!ds.isEmpty)
  | .scr ds => q (!ds.isEmpty)
  | .dic ks _ => q (!ks.isEmpty)
  | .obj _ _ _ => False
  | .kon _ => False
theorem isEmpty_reps {K : Frg} {Z : Addr → Prop} {H : Hp} {vs : List V} {ds : List D} (h : Reps K Z H vs ds) : vs.isEmpty = ds.isEmpty := by cases h <;> rfl
theorem BRep.tru {K : Frg} {Z : Addr → Prop} {H : Hp} {v : V} {d : D} {q : Bool → Prop} (r : BRep K Z H v d) (h : truD d q) : ∃ k, TruV K v H k ∧ q k := by
  have main : ∀ {v : V} {d : D}, Rep K Z H v d → truD d q → ∃ k, TruV K v H k ∧ q k := by
    intro v d r h
    cases r with
    | non => exact ⟨_, rfl, h⟩
    | bl b => exact ⟨_, rfl, h⟩
    | int i => exact ⟨_, rfl, h⟩
    | str x => exact ⟨_, ⟨h.1, rfl⟩, h.2⟩
    | tup hs rs =>
      refine ⟨_, .inr (.inl ⟨_, hs, rfl⟩), ?_⟩
      rw [isEmpty_reps rs]; exact h
    | lst hs rs =>
      refine ⟨_, .inl ⟨_, hs.sq, rfl⟩, ?_⟩
      rw [isEmpty_reps rs]; exact h
    | scr hs rs =>
      refine ⟨_, .inl ⟨_, hs.sq, rfl⟩, ?_⟩
      rw [isEmpty_reps rs]; exact h
    | dic z hs e rs =>
      refine ⟨_, .inr (.inr ⟨_, hs, rfl⟩), ?_⟩
      subst e
      have q2 : q (!(List.map (fun x : Key × V => x.1) _).isEmpty) := h
      rw [List.isEmpty_map] at q2
      exact q2
    | obj z hs e rs => cases h
    | kon a => cases h
  rcases r with r | ⟨t, F, r, e⟩
  · exact main r h
  · cases r with
    | fr r => subst e; exact main r h
    | lst hs rs =>
      subst e
      refine ⟨_, .inl ⟨_, .of hs, rfl⟩, ?_⟩
      rw [isEmpty_reps rs]; exact h
    | dic hs e1 rs =>
      subst e
      refine ⟨_, .inr (.inr ⟨_, hs, rfl⟩), ?_⟩
      subst e1
      have q2 : q (!(List.map (fun x : Key × V => x.1) _).isEmpty) := h
      rw [List.isEmpty_map] at q2
      exact q2
    | obj hs e1 rs => subst e; cases h
def tTru (t : TD) : TB := fun E Q => t E fun d E1 => truD d fun k => Q k E1
theorem dt_b {e : Expr} {t : TD} (ha : DB C X e t) (he : ∀ whole, isTrue e X.env whole = (do let v ← whole; standAt e.pos; holding [v] (truthy v)) := by intro _; rfl) (hK : X.K = C.K := by rfl) : DT C X e (tTru t) :=
  (pt_truth ha he).imp fun σ H Q ⟨ps, Ep, E, Z, Qd, w, h, post⟩ => ⟨ps, Ep, E, Z, _, w, h, fun d E1 Z1 H1 v w1 st1 r1 h1 => by
    obtain ⟨k, tk, q⟩ := r1.tru h1
    rw [hK]
    exact ⟨k, tk, post k E1 Z1 H1 w1 st1 q⟩⟩
theorem dt_e {e : Expr} {t : TD} (ha : DE C X e t) (he : ∀ whole, isTrue e X.env whole = (do let v ← whole; standAt e.pos; holding [v] (truthy v)) := by intro _; rfl) (hK : X.K = C.K := by rfl) : DT C X e (tTru t) := dt_b (db_e ha) he hK
def tAndD (t u : TB) : TB := fun E Q => t E fun c E1 => brB c (u E1 Q) (Q false E1)
def tOrD (t u : TB) : TB := fun E Q => t E fun c E1 => brB c (Q true E1) (u E1 Q)
def tNotD (t : TB) : TB := fun E Q => t E fun c E1 => Q (!c) E1
theorem dw_and1 {a : Expr} {t : TB} {pos : Pos} (ha : DT C X a t) : DW C X (.BoolOp .And [a] pos) t := pw_and1 ha
theorem dw_or1 {a : Expr} {t : TB} {pos : Pos} (ha : DT C X a t) : DW C X (.BoolOp .Or [a] pos) t := pw_or1 ha
theorem dw_and {a b : Expr} {rest : List Expr} {t u : TB} {pos : Pos} (ha : DT C X a t) (hb : DW C X (.BoolOp .And (b :: rest) pos) u) : DW C X (.BoolOp .And (a :: b :: rest) pos) (tAndD t u) :=
  (pw_and ha hb).imp fun σ H Q ⟨ps, Ep, E, Z, Qd, w, h, post⟩ => ⟨ps, Ep, E, Z, _, w, h, fun c E1 Z1 H1 w1 st1 h1 => by
    cases c with
    | true =>
      have h1 : u E1 Qd := (by first | exact h1.t | exact h1.f)
      exact ⟨ps, Ep, E1, Z1, Qd, w1, h1, fun b E2 Z2 H2 w2 st2 h2 => post b E2 Z2 H2 w2 (st1.trans st2) h2⟩
    | false => exact post false E1 Z1 H1 w1 st1 h1.f⟩
theorem dw_or {a b : Expr} {rest : List Expr} {t u : TB} {pos : Pos} (ha : DT C X a t) (hb : DW C X (.BoolOp .Or (b :: rest) pos) u) : DW C X (.BoolOp .Or (a :: b :: rest) pos) (tOrD t u) :=
  (pw_or ha hb).imp fun σ H Q ⟨ps, Ep, E, Z, Qd, w, h, post⟩ => ⟨ps, Ep, E, Z, _, w, h, fun c E1 Z1 H1 w1 st1 h1 => by
    cases c with
    | false =>
      have h1 : u E1 Qd := (by first | exact h1.t | exact h1.f)
      exact ⟨ps, Ep, E1, Z1, Qd, w1, h1, fun b E2 Z2 H2 w2 st2 h2 => post b E2 Z2 H2 w2 (st1.trans st2) h2⟩
    | true => exact post true E1 Z1 H1 w1 st1 h1.t⟩
theorem dt_w {e : Expr} {t : TB} (h : DW C X e t) : DT C X e t := PW.pt h
theorem dt_not {a : Expr} {t : TB} {pos : Pos} (ha : DT C X a t) : DT C X (.UnaryOp .Not a pos) (tNotD t) :=
  (pt_not ha).imp fun σ H Q ⟨ps, Ep, E, Z, Qd, w, h, post⟩ => ⟨ps, Ep, E, Z, _, w, h, fun c E1 Z1 H1 w1 st1 h1 => post _ E1 Z1 H1 w1 st1 h1⟩
/-- as values, of bools -/
def tAndV' (t u : TD) : TD := fun E Q => t E fun d E1 => match d with
  | .bl c => brB c (u E1 Q) (Q (.bl false) E1)
  | _ => False
def tOrV' (t u : TD) : TD := fun E Q => t E fun d E1 => match d with
  | .bl c => brB c (Q (.bl true) E1) (u E1 Q)
  | _ => False
theorem de_one {op} {a : Expr} {t : TD} {pos : Pos} (h : DE C X a t) : DE C X (.BoolOp op [a] pos) t := pe_one h
theorem de_and {a b : Expr} {rest : List Expr} {t u : TD} {pos : Pos} (ha : DE C X a t) (hb : DE C X (.BoolOp .And (b :: rest) pos) u) : DE C X (.BoolOp .And (a :: b :: rest) pos) (tAndV' t u) :=
  (pe_and ha hb).imp fun σ H Q ⟨ps, Ep, E, Z, Qd, w, h, post⟩ => ⟨ps, Ep, E, Z, _, w, h, fun d E1 Z1 H1 v w1 st1 r1 h1 => by
    cases r1 with
    | bl c =>
      refine ⟨c, rfl, ?_⟩
      cases c with
      | true =>
        have h1 : u E1 Qd := (by first | exact h1.t | exact h1.f)
        exact ⟨ps, Ep, E1, Z1, Qd, w1, h1, fun b E2 Z2 H2 v2 w2 st2 r2 h2 => post b E2 Z2 H2 v2 w2 (st1.trans st2) r2 h2⟩
      | false => exact post _ E1 Z1 H1 _ w1 st1 (.bl _) h1.f
    | _ => cases h1⟩
theorem de_or {a b : Expr} {rest : List Expr} {t u : TD} {pos : Pos} (ha : DE C X a t) (hb : DE C X (.BoolOp .Or (b :: rest) pos) u) : DE C X (.BoolOp .Or (a :: b :: rest) pos) (tOrV' t u) :=
  (pe_or ha hb).imp fun σ H Q ⟨ps, Ep, E, Z, Qd, w, h, post⟩ => ⟨ps, Ep, E, Z, _, w, h, fun d E1 Z1 H1 v w1 st1 r1 h1 => by
    cases r1 with
    | bl c =>
      refine ⟨c, rfl, ?_⟩
      cases c with
      | false =>
        have h1 : u E1 Qd := (by first | exact h1.t | exact h1.f)
        exact ⟨ps, Ep, E1, Z1, Qd, w1, h1, fun b E2 Z2 H2 v2 w2 st2 r2 h2 => post b E2 Z2 H2 v2 w2 (st1.trans st2) r2 h2⟩
      | true => exact post _ E1 Z1 H1 _ w1 st1 (.bl _) h1.t
    | _ => cases h1⟩
def oNotV : D → (D → Prop) → Prop := fun x q => match x with
  | .bl c => q (.bl (!c))
  | _ => False
theorem de_not {a : Expr} {t : TD} {pos : Pos} (ha : DE C X a t) : DE C X (.UnaryOp .Not a pos) (tUn1 oNotV t) := (pe_not ha).imp fun σ H Q ⟨ps, Ep, E, Z, Qd, w, h, post⟩ => ⟨ps, Ep, E, Z, _, w, h, fun d E1 Z1 H1 v w1 st1 r1 h1 => by
    cases r1 with
    | bl c => exact ⟨c, rfl, post _ E1 Z1 H1 _ w1 st1 (.bl _) h1⟩
    | _ => cases h1⟩
def tIfE (c : TB) (t u : TD) : TD := fun E Q => c E fun b E1 => brB b (t E1 Q) (u E1 Q)
theorem de_if {c a b : Expr} {tc : TB} {t u : TD} {pos : Pos} (hc : DT C X c tc) (ha : DE C X a t) (hb : DE C X b u) : DE C X (.IfExp c a b pos) (tIfE tc t u) :=
  (pe_ifExp hc ha hb).imp fun σ H Q ⟨ps, Ep, E, Z, Qd, w, h, post⟩ => ⟨ps, Ep, E, Z, _, w, h, fun c E1 Z1 H1 w1 st1 h1 => by
    cases c with
    | true => exact ⟨ps, Ep, E1, Z1, Qd, w1, h1.t, fun b E2 Z2 H2 v2 w2 st2 r2 h2 => post b E2 Z2 H2 v2 w2 (st1.trans st2) r2 h2⟩
    | false => exact ⟨ps, Ep, E1, Z1, Qd, w1, h1.f, fun b E2 Z2 H2 v2 w2 st2 r2 h2 => post b E2 Z2 H2 v2 w2 (st1.trans st2) r2 h2⟩⟩

/-! ### subscripts -/
def oIx : O2 := fun x y q => match x, y with
  | .tup ds, .int i => (match atI ds i with | some d => q d | none => False)
  | .lst ds, .int i => (match atI ds i with | some d => q d | none => False)
  | .str z, .int i => z.length ≤ sizeLine ∧ (match atI z.cps.toList i with | some c => q (.str ⟨#[c]⟩) | none => False)
  | _, _ => False
theorem Reps.atI {K : Frg} {Z : Addr → Prop} {H : Hp} {vs : List V} {ds : List D} {i : Int} {d : D} (r : Reps K Z H vs ds) (h : atI ds i = some d) : ∃ v, L2.atI vs i = some v ∧ Rep K Z H v d := by
  unfold L2.atI at h ⊢
  rw [r.length]
  cases q : ixN ds.length i with
  | none => rw [q] at h; cases h
  | some j =>
    rw [q] at h
    exact r.get (i := j) h
theorem meets_ix : Meets C oIx (rIx C.K) := fun Z H v w x y q Q rx ry h k => by
  unfold oIx at h
  split at h
  · split at h
    · rename_i e
      cases ry
      cases rx with
      | tup hs rs =>
        obtain ⟨v, e1, r⟩ := rs.atI e
        exact .inr (.inl ⟨_, _, _, v, rfl, rfl, hs, e1, k _ _ r h⟩)
    · cases h
  · split at h
    · rename_i e
      cases ry
      cases rx with
      | lst hs rs =>
        obtain ⟨v, e1, r⟩ := rs.atI e
        exact .inl ⟨_, _, _, v, rfl, rfl, hs.sq, e1, k _ _ r h⟩
    · cases h
  · obtain ⟨hz, h⟩ := h
    split at h
    · rename_i e
      cases ry
      cases rx
      exact .inr (.inr ⟨_, _, _, rfl, rfl, hz, e, k _ _ (.str _) h⟩)
    · cases h
  · cases h
theorem de_ix {a b : Expr} {ta tb : TD} {pos : Pos} (ha : DE C X a ta) (hb : DE C X b tb) (hs : PlainIx b := by exact fun _ _ => rfl) (hK : X.K = C.K := by rfl) : DE C X (.Subscript a b pos) (tOp2 oIx ta tb) :=
  (pe_ix ix_seq ha hb hs).imp fun σ H Q h => by
    rw [hK]
    exact op2_imp meets_ix σ H Q h
def S.knownB : S → Bool
  | .un => false
  | _ => true
/-- an item of what stands at a name, not taken over -/
def tIxO (i : Nat) (ti : TD) : TD := fun E Q => (match E[i]? with | some s => s.knownB = true | none => False) ∧ ti E fun k E1 => match E1[i]? with
  | some (.fr x) => oIx x k fun d => Q d E1
  | some (.ow t) => oIx t.fz k fun d => Q d E1
  | some (.mu t) => oIx t.fz k fun d => Q d E1
  | _ => False
theorem At.known {ps : Sg} {Ep : List S} {Z : Addr → Prop} {σ : Sg} {E : List S} {H : Hp} (w : At C ps Ep Z σ E H) {i : Nat} {s : S} (e : E[i]? = some s) (h : s.knownB = true) : ∃ v, σ[i]? = some (some v) := by
  cases s with
  | un => cases h
  | fr d => obtain ⟨v, e1, _⟩ := w.get e; exact ⟨v, e1⟩
  | ow t => obtain ⟨v, _, e1, _⟩ := w.tree e (t := t) rfl; exact ⟨v, e1⟩
  | mu t => obtain ⟨v, _, e1, _⟩ := w.tree e (t := t) rfl; exact ⟨v, e1⟩
theorem BRep.ix {Z : Addr → Prop} {H : Hp} {K : Frg} {v w : V} {x y : D} {q : D → Prop} {Q : VK} (rx : BRep K Z H v x) (ry : Rep K Z H w y) (h : oIx x y q) (k : ∀ z d, Rep K Z H z d → q d → Q z H) : rIx K v w H Q := by
  unfold oIx at h
  split at h
  · split at h
    · rename_i e
      cases ry
      obtain ⟨a, vs, rfl, hs, rs⟩ := rx.tup
      obtain ⟨v, e1, r⟩ := rs.atI e
      exact .inr (.inl ⟨_, _, _, v, rfl, rfl, hs, e1, k _ _ r h⟩)
    · cases h
  · split at h
    · rename_i e
      cases ry
      obtain ⟨a, vs, rfl, hs, rs⟩ := rx.lst
      obtain ⟨v, e1, r⟩ := rs.atI e
      exact .inl ⟨_, _, _, v, rfl, rfl, hs, e1, k _ _ r h⟩
    · cases h
  · obtain ⟨hz, h⟩ := h
    split at h
    · rename_i e
      cases ry
      cases rx.str
      exact .inr (.inr ⟨_, _, _, rfl, rfl, hz, e, k _ _ (.str _) h⟩)
    · cases h
  · cases h
theorem At.brep {ps : Sg} {Ep : List S} {Z : Addr → Prop} {σ : Sg} {E : List S} {H : Hp} (w : At C ps Ep Z σ E H) {i : Nat} {s : S} {t : T} (e : E[i]? = some s) (et : s.tree? = some t) {v : V} (hv : σ[i]? = some (some v)) : BRep C.K Z H v t.fz := by
  obtain ⟨v', F, e1, r⟩ := w.tree e et
  rw [hv] at e1
  cases e1
  exact .inr ⟨t, F, r, rfl⟩
theorem de_ixo (i : Nat) {x : Str} {b : Expr} {tb : TD} {pos pos' : Pos} (hb : DE C X b tb) (hN : X.N[i]? = some x := by rfl) (hv : Vis X.env.scope x := by first | exact Or.inl rfl | exact Or.inr (Or.inl rfl) | exact Or.inr (Or.inr rfl)) (hd : (x == ("__debug__" : Str)) = false := by decide)
    (hcd : (x == ("__classdict__" : Str)) = false := by decide) (hs : PlainIx b := by exact fun _ _ => rfl) (hK : X.K = C.K := by rfl) : DE C X (.Subscript (.Name x pos') b pos) (tIxO i tb) :=
  (pe_ix ix_seq (pe_var hN hv hd hcd) hb hs).imp fun σ H Q ⟨ps, Ep, E, Z, Qd, w, ⟨hk, h⟩, post⟩ => by
    rw [hK]
    split at hk
    · rename_i s e
      obtain ⟨v, e1⟩ := w.known e hk
      refine ⟨v, e1, ps, Ep, E, Z, _, w, h, fun k E1 Z1 H1 u w1 st1 r1 h1 => ?_⟩
      split at h1
      · rename_i d e2
        obtain ⟨v', e3, r3⟩ := w1.get e2
        rw [e1] at e3; cases e3
        exact meets_ix Z1 H1 v u d k _ Q r3 r1 h1 fun z d rz q => post d E1 Z1 H1 z w1 st1 rz q
      · rename_i t e2
        exact (w1.brep e2 rfl e1).ix r1 h1 fun z d rz q => post d E1 Z1 H1 z w1 st1 rz q
      · rename_i t e2
        exact (w1.brep e2 rfl e1).ix r1 h1 fun z d rz q => post d E1 Z1 H1 z w1 st1 rz q
      · cases h1
    · cases hk
end
end DL
set_option Elab.async false
set_option linter.all false
set_option maxRecDepth 100000
set_option maxHeartbeats 4000000
/-! DL, part d: targets, what a loop walks, statements, comprehensions. -/
namespace DL
open PySem PySem.Spec PyProof.Rows L2

/-! ### targets -/
abbrev TGD := D → List S → (List S → Prop) → Prop
abbrev TGsD := List D → List S → (List S → Prop) → Prop
def tgOf (C : Ctx) (gs : List Nat) (t : TGD) : TG := fun v σ H Q => ∃ ps Ep E Z d Qe, At C ps Ep Z σ E H ∧ Rep C.K Z H v d ∧ t d E Qe ∧ ∀ σ' E', At C ps Ep Z σ' E' H → (σ'.length = σ.length ∧ ∀ j : Nat, j ∉ gs → σ'[j]? = σ[j]?) → Qe E' → Q σ' H
def tgsOf (C : Ctx) (gs : List Nat) (t : TGsD) : TGs := fun vs σ H Q => ∃ ps Ep E Z ds Qe, At C ps Ep Z σ E H ∧ Reps C.K Z H vs ds ∧ t ds E Qe ∧ ∀ σ' E', At C ps Ep Z σ' E' H → (σ'.length = σ.length ∧ ∀ j : Nat, j ∉ gs → σ'[j]? = σ[j]?) → Qe E' → Q σ' H
abbrev DG (C : Ctx) (X : Cx) (gs : List Nat) (e : Expr) (t : TGD) : Prop := PG X e (tgOf C gs t)
abbrev DGs (C : Ctx) (X : Cx) (gs : List Nat) (es : List Expr) (t : TGsD) : Prop := PGs X es (tgsOf C gs t)
theorem _root_.L2.PGs.imp {X : Cx} {es : List Expr} {t t' : TGs} (h : PGs X es t) (k : ∀ v σ H Q, t' v σ H Q → t v σ H Q) : PGs X es t' := ⟨fun pins s σ H v u Q I r q => h.run pins s σ H v u Q I r (k v σ H Q q)⟩
/-- a place that may be stored to -/
def S.free : Option S → Bool
  | some (.mu _) => false
  | some _ => true
  | none => false
theorem free_lt {E : List S} {i : Nat} (h : S.free E[i]? = true) : i < E.length ∧ ∀ t, E[i]? ≠ some (.mu t) := by
  refine ⟨Classical.byContradiction fun n => ?_, fun t e => ?_⟩
  · rw [List.getElem?_eq_none (by omega)] at h; cases h
  · rw [e] at h; cases h
def gN (i : Nat) : TGD := fun d E Q => S.free E[i]? = true ∧ Q (E.set i (.fr d))
section
variable {C : Ctx} {X : Cx} {pos : Pos}
theorem dg_n (i : Nat) {x : Str} (hN : X.N.Nodup) (hi : X.N[i]? = some x := by rfl) (hx : Loc X.env.scope x := by first | exact .inl rfl | exact .inr rfl) (hf : X.fn x = true ∨ X.env.scope.names.lookup x = some .local := by first | exact .inl rfl | exact .inr rfl | assumption) :
    DG C X [i] (.Name x pos) (gN i) := (pg_name hN hi hx hf).imp fun v σ H Q ⟨ps, Ep, E, Z, d, Qe, w, r, ⟨h1, h⟩, post⟩ => by
  obtain ⟨f1, f2⟩ := free_lt h1
  exact post _ _ (w.setD r f1 f2) ⟨List.length_set, fun j hj => List.getElem?_set_ne (fun e => hj (by simp [e]))⟩ h
def gsNil : TGsD := fun ds E Q => match ds with
  | [] => Q E
  | _ => False
def gsCons (t : TGD) (u : TGsD) : TGsD := fun ds E Q => match ds with
  | d :: r => t d E fun E1 => u r E1 Q
  | [] => False
theorem dgs_nil : DGs C X [] [] gsNil := pgs_nil.imp fun vs σ H Q ⟨ps, Ep, E, Z, ds, Qe, w, r, h, post⟩ => by
  unfold gsNil at h
  split at h
  · cases r
    exact ⟨rfl, post _ _ w ⟨rfl, fun _ _ => rfl⟩ h⟩
  · cases h
theorem dgs_cons {e : Expr} {es : List Expr} {gs hs' : List Nat} {t : TGD} {u : TGsD} (h1 : DG C X gs e t) (h2 : DGs C X hs' es u) (hs : (assignEach (e :: es) X.env).map (·.2) = assign e X.env :: (assignEach es X.env).map (·.2) := by rfl) :
    DGs C X (gs ++ hs') (e :: es) (gsCons t u) := (pgs_cons h1 h2 hs).imp fun vs σ H Q ⟨ps, Ep, E, Z, ds, Qe, w, r, h, post⟩ => by
  unfold gsCons at h
  split at h
  · cases r with
    | cons rv rr =>
      refine ⟨_, _, rfl, ps, Ep, E, Z, _, _, w, rv, h, fun σ1 E1 w1 k1 h1 => ⟨ps, Ep, E1, Z, _, _, w1, rr, h1, fun σ2 E2 w2 k2 h2 => post σ2 E2 w2 ⟨k2.1.trans k1.1, fun j hj => ?_⟩ h2⟩⟩
      rw [k2.2 j fun m => hj (List.mem_append_right _ m), k1.2 j fun m => hj (List.mem_append_left _ m)]
  · cases h
def gTupD (n : Nat) (t : TGsD) : TGD := fun d E Q => match d with
  | .tup ds => ds.length = n ∧ t ds E Q
  | _ => False
theorem dg_tup {es : List Expr} {k : Nat} {gs : List Nat} {t : TGsD} {n : Nat} (h : DGs C X gs es t) (hc : X.calm = true := by rfl) (hn : (assignEach es X.env).length = n := by rfl) (hst : (assignEach es X.env).findIdx? (·.1) = none := by rfl) (hK : X.K = C.K := by rfl) :
    DG C X gs (.Tuple es k pos) (gTupD n t) := (pg_tup hc h hn hst).imp fun v σ H Q ⟨ps, Ep, E, Z, d, Qe, w, r, h, post⟩ => by
  unfold gTupD at h
  split at h
  · cases r with
    | tup hs rs =>
      rw [hK]
      exact ⟨_, _, rfl, hs, rs.length.trans h.1, ps, Ep, E, Z, _, Qe, w, rs, h.2, post⟩
  · cases h
end

/-! ### what a loop walks -/
structure Walks (C : Ctx) (J : It) (Z : Addr → Prop) (H : Hp) (ds : List D) (hold : Sg → List S → Prop) : Prop where
  stop : ∀ (Z2 : Addr → Prop) (σ2 : Sg) (E2 : List S) (H2 : Hp) (ps : Sg) (Ep : List S), Stp Z H Z2 H2 → At C ps Ep Z2 σ2 E2 H2 → hold σ2 E2 → ∀ i, ds.length ≤ i → J.stop i H2
  go : ∀ (Z2 : Addr → Prop) (σ2 : Sg) (E2 : List S) (H2 : Hp) (ps : Sg) (Ep : List S), Stp Z H Z2 H2 → At C ps Ep Z2 σ2 E2 H2 → hold σ2 E2 → ∀ (i : Nat) d, ds[i]? = some d → J.go i H2 ∧ ∀ x H3, J.yld i H2 x H3 →
    (H3 = H2 ∨ ∃ p o, H2 p = none ∧ H3 = upd H2 p o) ∧ Rep C.K Z2 H3 x d
abbrev TIt := List S → (List D → List S → Prop) → Prop
def tiOf (C : Ctx) (t : TIt) : TI := fun σ H R => ∃ ps Ep E Z Qi, At C ps Ep Z σ E H ∧ t E Qi ∧ ∀ J ds E' Z' H', At C ps Ep Z' σ E' H' → Stp Z H Z' H' → Walks C J Z' H' ds (fun _ _ => True) → Qi ds E' → R J H'
abbrev DI (C : Ctx) (X : Cx) (tg e : Expr) (t : TIt) : Prop := PI X tg e (tiOf C t)
section
variable {C : Ctx} {X : Cx} {tg : Expr}
def iSeq (K : Frg) (tl : TE) : TI := fun σ H R => tl σ H fun x H1 => ∃ a, x = .ref a ∧ (((∃ xs, SqL K H1 a xs) ∧ R (Itl K a) H1) ∨ ((∃ xs, SqT K H1 a xs) ∧ R (Itt K a) H1))
theorem pi_seq {l : Expr} {tl : TE} (hl : PE X l tl) : PI X tg l (iSeq X.K tl) := by
  refine ⟨fun pins s σ H R I h => ?_⟩
  refine thn (hl.run pins s σ H _ I h) fun v s1 ⟨x, H1, I1, r1, q1⟩ => ?_
  obtain ⟨a, e, q⟩ := q1
  subst e
  cases r1
  rcases q with ⟨⟨xs, hq⟩, q⟩ | ⟨⟨xs, hq⟩, q⟩
  · obtain ⟨its, rv, p, hz⟩ := I1.list hq
    refine wpAny_pyIter_list p.isList ?_
    refine ⟨s1.heap.objs.size, [s1.heap.objs.size], _, _, H1, rfl, I1.kept (t' := s1.toks) fun b o e => Heap.get?_push_of_some _ e, turn_list a _, ⟨_, Heap.get?_push_size _ rfl, rfl, rfl⟩, fun b hb => ?_, q⟩
    have e : b = s1.heap.objs.size := by simpa using hb
    subst e
    exact I1.fpOk (Nat.le_refl _) (I1.hok.fresh (Nat.le_refl _))
  · obtain ⟨its, rv, p, hz⟩ := I1.tuple hq
    refine wpAny_pyIter_tuple (show s1.heap.IsTuple a its.toArray from p) ?_
    refine ⟨s1.heap.objs.size, [s1.heap.objs.size], _, _, H1, rfl, I1.kept (t' := s1.toks) fun b o e => Heap.get?_push_of_some _ e, turn_tuple a _, ⟨_, Heap.get?_push_size _ rfl, rfl, rfl⟩, fun b hb => ?_, q⟩
    have e : b = s1.heap.objs.size := by simpa using hb
    subst e
    exact I1.fpOk (Nat.le_refl _) (I1.hok.fresh (Nat.le_refl _))
theorem walks_lst {Z : Addr → Prop} {H : Hp} {a : Addr} {vs : List V} {ds : List D} (h : LsS C.K Z H a vs) (r : Reps C.K Z H vs ds) : Walks C (Itl C.K a) Z H ds (fun _ _ => True) :=
  ⟨fun Z2 σ2 E2 H2 ps Ep st w _ i hi => ⟨vs, (h.mono st).sq, by rw [r.length]; exact hi⟩, fun Z2 σ2 E2 H2 ps Ep st w _ i d e => by
    obtain ⟨v, e1, rv⟩ := (r.mono st).get e
    refine ⟨⟨vs, v, (h.mono st).sq, e1⟩, fun x H3 y => ?_⟩
    obtain ⟨y1, y2⟩ := y
    subst y1
    have := y2 vs (h.mono st).sq
    rw [e1] at this
    cases this
    exact ⟨.inl rfl, rv⟩⟩
theorem walks_tup {Z : Addr → Prop} {H : Hp} {a : Addr} {vs : List V} {ds : List D} (h : SqT C.K H a vs) (r : Reps C.K Z H vs ds) : Walks C (Itt C.K a) Z H ds (fun _ _ => True) :=
  ⟨fun Z2 σ2 E2 H2 ps Ep st w _ i hi => ⟨vs, sqT_mono st h, by rw [r.length]; exact hi⟩, fun Z2 σ2 E2 H2 ps Ep st w _ i d e => by
    obtain ⟨v, e1, rv⟩ := (r.mono st).get e
    refine ⟨⟨vs, v, sqT_mono st h, e1⟩, fun x H3 y => ?_⟩
    obtain ⟨y1, y2⟩ := y
    subst y1
    have := y2 vs (sqT_mono st h)
    rw [e1] at this
    cases this
    exact ⟨.inl rfl, rv⟩⟩
def tiSeq (t : TD) : TIt := fun E Q => t E fun d E1 => match d with
  | .lst ds => Q ds E1
  | .tup ds => Q ds E1
  | .scr ds => Q ds E1
  | _ => False
theorem di_seq {l : Expr} {t : TD} (hl : DE C X l t) (hK : X.K = C.K := by rfl) : DI C X tg l (tiSeq t) := (pi_seq hl).imp fun σ H R ⟨ps, Ep, E, Z, Qd, w, h, post⟩ => by
  rw [hK]
  refine ⟨ps, Ep, E, Z, _, w, h, fun d E1 Z1 H1 v w1 st1 r1 h1 => ?_⟩
  split at h1
  · cases r1 with
    | lst hs rs => exact ⟨_, rfl, .inl ⟨⟨_, hs.sq⟩, post _ _ E1 Z1 H1 w1 st1 (walks_lst (.inl hs) rs) h1⟩⟩
  · cases r1 with
    | tup hs rs => exact ⟨_, rfl, .inr ⟨⟨_, hs⟩, post _ _ E1 Z1 H1 w1 st1 (walks_tup hs rs) h1⟩⟩
  · cases r1 with
    | scr hs rs => exact ⟨_, rfl, .inl ⟨⟨_, hs.sq⟩, post _ _ E1 Z1 H1 w1 st1 (walks_lst hs rs) h1⟩⟩
  · cases h1
/-- the ints of a range -/
def rng (i j : Int) : List D := (List.range (j - i).toNat).map fun k : Nat => .int (i + (k : Int))
theorem rng_get {i j : Int} {k : Nat} {d : D} (h : (rng i j)[k]? = some d) : k < (j - i).toNat ∧ d = .int (i + k) := by
  unfold rng at h
  rw [List.getElem?_map] at h
  cases e : (List.range (j - i).toNat)[k]? with
  | none => rw [e] at h; cases h
  | some m =>
    rw [e] at h
    obtain ⟨h1, h2⟩ := List.getElem?_eq_some_iff.mp e
    rw [List.getElem_range] at h2
    rw [List.length_range] at h1
    subst h2
    cases h
    exact ⟨h1, rfl⟩
theorem rng_len (i j : Int) : (rng i j).length = (j - i).toNat := by unfold rng; rw [List.length_map, List.length_range]
theorem walks_rng {Z : Addr → Prop} {H : Hp} (i j : Int) : Walks C (Itr i (j - i).toNat) Z H (rng i j) (fun _ _ => True) :=
  ⟨fun Z2 σ2 E2 H2 ps Ep st w _ k hk => by rw [rng_len] at hk; exact hk, fun Z2 σ2 E2 H2 ps Ep st w _ k d e => by
    obtain ⟨h1, h2⟩ := rng_get e
    refine ⟨h1, fun x H3 y => ?_⟩
    obtain ⟨y1, y2⟩ := y
    subst y1 y2 h2
    exact ⟨.inl rfl, .int _⟩⟩
def rgOk (i j : Int) : Prop := -(2 ^ 62) ≤ i ∧ i < 2 ^ 62 ∧ -(2 ^ 62) ≤ j ∧ j < 2 ^ 62
def tiRng1 (t : TD) : TIt := fun E Q => t E fun d E1 => match d with
  | .int j => rgOk 0 j ∧ Q (rng 0 j) E1
  | _ => False
def tiRng2 (t u : TD) : TIt := fun E Q => t E fun d E1 => u E1 fun e E2 => match d, e with
  | .int i, .int j => rgOk i j ∧ Q (rng i j) E2
  | _, _ => False
theorem di_range1 {a : Expr} {t : TD} {p pos : Pos} (hg : Gl X "range") (hm : X.mg "range" = none) (ha : DE C X a t) (hs : starEach [a] X.env = [(false, eval a X.env)] := by rfl) : DI C X tg (.Call (.Name "range" p) [a] [] pos) (tiRng1 t) :=
  (pi_range1 hg hm (pa_cons ha pa_nil hs) hs).imp fun σ H R ⟨ps, Ep, E, Z, Qd, w, h, post⟩ => ⟨ps, Ep, E, Z, _, w, h, fun d E1 Z1 H1 v w1 st1 r1 h1 => by
    split at h1
    · obtain ⟨⟨_, _, k1, k2⟩, h1⟩ := h1
      cases r1
      refine ⟨_, rfl, k1, k2, post _ _ E1 Z1 H1 w1 st1 ?_ h1⟩
      have := walks_rng (C := C) (Z := Z1) (H := H1) 0 (by assumption)
      rw [Int.sub_zero] at this
      exact this
    · cases h1⟩
theorem di_range2 {a b : Expr} {t u : TD} {p pos : Pos} (hg : Gl X "range") (hm : X.mg "range" = none) (ha : DE C X a t) (hb : DE C X b u) (hs : starEach [a, b] X.env = [(false, eval a X.env), (false, eval b X.env)] := by rfl) (hs2 : starEach [b] X.env = [(false, eval b X.env)] := by rfl) :
    DI C X tg (.Call (.Name "range" p) [a, b] [] pos) (tiRng2 t u) :=
  (pi_range2 hg hm (pa_cons ha (pa_cons hb pa_nil hs2) (by rw [hs, hs2])) hs hs2).imp fun σ H R ⟨ps, Ep, E, Z, Qd, w, h, post⟩ => ⟨ps, Ep, E, Z, _, w, h, fun d E1 Z1 H1 v w1 st1 r1 h1 =>
    ⟨ps, Ep, E1, Z1, _, w1, h1, fun e E2 Z2 H2 v2 w2 st2 r2 h2 => by
      split at h2
      · obtain ⟨k, h2⟩ := h2
        cases r1; cases r2
        exact ⟨_, _, rfl, k, post _ _ E2 Z2 H2 w2 (st1.trans st2) (walks_rng _ _) h2⟩
      · cases h2⟩⟩
end

/-! ### statements -/
structure DEnd where
  nx : List S → Prop
  rt : S → List S → Prop
  bk : List S → Prop := fun _ => False
  ct : List S → Prop := fun _ => False
abbrev TSD := DEnd → List S → Prop
def ResAt (C : Ctx) (ps : Sg) (Ep : List S) (Z : Addr → Prop) (σ : Sg) (E : List S) (H : Hp) (v : V) : S → Prop
  | .fr d => At C ps Ep Z σ E H ∧ Rep C.K Z H v d
  | .ow tr => At C (ps ++ [some v]) (Ep ++ [.ow tr]) Z σ E H
  | _ => False
structure Fits (C : Ctx) (ps : Sg) (Ep : List S) (Z : Addr → Prop) (H : Hp) (Dd : DEnd) (Dn : Ends) : Prop where
  nx : ∀ σ' E' Z' H', At C ps Ep Z' σ' E' H' → Stp Z H Z' H' → Dd.nx E' → Dn.nx σ' H'
  bk : ∀ σ' E' Z' H', At C ps Ep Z' σ' E' H' → Stp Z H Z' H' → Dd.bk E' → Dn.bk σ' H'
  ct : ∀ σ' E' Z' H', At C ps Ep Z' σ' E' H' → Stp Z H Z' H' → Dd.ct E' → Dn.ct σ' H'
  rt : ∀ r σ' E' Z' H' v, ResAt C ps Ep Z' σ' E' H' v r → Stp Z H Z' H' → Dd.rt r E' → Dn.rt v H'
  e : ps = [] ∧ Ep = []
theorem Fits.on {C : Ctx} {ps : Sg} {Ep : List S} {Z Z' : Addr → Prop} {H H' : Hp} {Dd : DEnd} {Dn : Ends} (f : Fits C ps Ep Z H Dd Dn) (st : Stp Z H Z' H') : Fits C ps Ep Z' H' Dd Dn :=
  ⟨fun σ' E' Z2 H2 w s h => f.nx σ' E' Z2 H2 w (st.trans s) h, fun σ' E' Z2 H2 w s h => f.bk σ' E' Z2 H2 w (st.trans s) h, fun σ' E' Z2 H2 w s h => f.ct σ' E' Z2 H2 w (st.trans s) h, fun r σ' E' Z2 H2 v w s h => f.rt r σ' E' Z2 H2 v w (st.trans s) h, f.e⟩
def tsOf (C : Ctx) (t : TSD) : TS := fun Dn σ H => ∃ ps Ep E Z Dd, At C ps Ep Z σ E H ∧ t Dd E ∧ Fits C ps Ep Z H Dd Dn
abbrev DS (C : Ctx) (X : Cx) (st : Stmt) (t : TSD) : Prop := PS X st (tsOf C t)
abbrev DSs (C : Ctx) (X : Cx) (st : List Stmt) (t : TSD) : Prop := PSs X st (tsOf C t)
section
variable {C : Ctx} {X : Cx} {pos : Pos}
def dNext : TSD := fun D E => D.nx E
def dSeq (t u : TSD) : TSD := fun D E => t { D with nx := u D } E
theorem dss_nil : DSs C X [] dNext := pss_nil.imp fun Dn σ H ⟨ps, Ep, E, Z, Dd, w, h, f⟩ => f.nx σ E Z H w (Stp.refl _ _) h
theorem dss_cons {st : Stmt} {rest : List Stmt} {t u : TSD} (h1 : DS C X st t) (h2 : DSs C X rest u) : DSs C X (st :: rest) (dSeq t u) := (pss_cons h1 h2).imp fun Dn σ H ⟨ps, Ep, E, Z, Dd, w, h, f⟩ =>
  ⟨ps, Ep, E, Z, _, w, h, ⟨fun σ' E' Z' H' w' st' h' => ⟨ps, Ep, E', Z', Dd, w', h', f.on st'⟩, f.bk, f.ct, f.rt, f.e⟩⟩
/-- two in a row, what holds between them told -/
def dSeqJ (t u : TSD) : TSD := fun D E => ∃ J : List S → Prop, t { D with nx := J } E ∧ ∀ E', J E' → u D E'
theorem dss_join {st : Stmt} {rest : List Stmt} {t u : TSD} (h1 : DS C X st t) (h2 : DSs C X rest u) : DSs C X (st :: rest) (dSeqJ t u) := (pss_cons h1 h2).imp fun Dn σ H ⟨ps, Ep, E, Z, Dd, w, ⟨J, h, k⟩, f⟩ =>
  ⟨ps, Ep, E, Z, _, w, h, ⟨fun σ' E' Z' H' w' st' h' => ⟨ps, Ep, E', Z', Dd, w', k E' h', f.on st'⟩, f.bk, f.ct, f.rt, f.e⟩⟩
theorem dss_one {st : Stmt} {t : TSD} (h1 : DS C X st t) : DSs C X [st] t := pss_one h1
def dBreak : TSD := fun D E => D.bk E
def dCont : TSD := fun D E => D.ct E
theorem ds_pass : DS C X (.Pass pos) dNext := ps_pass.imp fun Dn σ H ⟨ps, Ep, E, Z, Dd, w, h, f⟩ => f.nx σ E Z H w (Stp.refl _ _) h
theorem ds_break : DS C X (.Break pos) dBreak := ps_break.imp fun Dn σ H ⟨ps, Ep, E, Z, Dd, w, h, f⟩ => f.bk σ E Z H w (Stp.refl _ _) h
theorem ds_continue : DS C X (.Continue pos) dCont := ps_continue.imp fun Dn σ H ⟨ps, Ep, E, Z, Dd, w, h, f⟩ => f.ct σ E Z H w (Stp.refl _ _) h
def dNever : TSD := fun _ _ => False
theorem ds_never {st : Stmt} : DS C X st dNever := ps_never.imp fun Dn σ H ⟨_, _, _, _, _, _, h, _⟩ => h
def dExpr (t : TD) : TSD := fun D E => t E fun _ E1 => D.nx E1
theorem ds_expr {e : Expr} {t : TD} (he : DE C X e t) (hs : swapsWith e none pos.line X.env = pure false := by rfl) : DS C X (.Expr e pos) (dExpr t) := (ps_expr he hs).imp fun Dn σ H ⟨ps, Ep, E, Z, Dd, w, h, f⟩ =>
  ⟨ps, Ep, E, Z, _, w, h, fun d E1 Z1 H1 v w1 st1 r1 h1 => f.nx σ E1 Z1 H1 w1 st1 h1⟩
def dRet (t : TD) : TSD := fun D E => t E fun d E1 => D.rt (.fr d) E1
theorem ds_ret {e : Expr} {t : TD} (he : DE C X e t) : DS C X (.Return (some e) pos) (dRet t) := (ps_ret he).imp fun Dn σ H ⟨ps, Ep, E, Z, Dd, w, h, f⟩ =>
  ⟨ps, Ep, E, Z, _, w, h, fun d E1 Z1 H1 v w1 st1 r1 h1 => f.rt (.fr d) σ E1 Z1 H1 v ⟨w1, r1⟩ st1 h1⟩
def dRetN (t : TN) : TSD := fun D E => t E fun tr E1 => D.rt (.ow tr) E1
theorem ds_retn {e : Expr} {t : TN} (he : DN C X e t) : DS C X (.Return (some e) pos) (dRetN t) := (ps_ret he).imp fun Dn σ H ⟨ps, Ep, E, Z, Dd, w, h, f⟩ =>
  ⟨ps, Ep, E, Z, _, w, h, fun tr E1 Z1 H1 v w1 st1 h1 => f.rt (.ow tr) σ E1 Z1 H1 v w1 st1 h1⟩
def dRet0 : TSD := fun D E => D.rt (.fr .non) E
theorem ds_ret0 : DS C X (.Return none pos) dRet0 := ps_retN.imp fun Dn σ H ⟨ps, Ep, E, Z, Dd, w, h, f⟩ => f.rt (.fr .non) σ E Z H _ ⟨w, .non⟩ (Stp.refl _ _) h
/-- an owned tree at a name is given out -/
def dRetV (i : Nat) : TSD := fun D E => match E[i]? with
  | some (.ow t) => D.rt (.ow t) (E.set i .un)
  | _ => False
theorem WdF.lift {Z : Addr → Prop} {σ ps : Sg} {E Ep : List S} {H : Hp} {F : Foot} (w : WdF C Z (σ ++ ps) (E ++ Ep) H F) (hl : σ.length = E.length) {i : Nat} {t : T} {v : V} (e : E[i]? = some (.ow t)) (hv : σ[i]? = some (some v)) :
    At C (ps ++ [some v]) (Ep ++ [.ow t]) Z σ (E.set i .un) H := by
  have hi := (List.getElem?_eq_some_iff.mp e).1
  have ei : (E ++ Ep)[i]? = some (.ow t) := up_get e
  have hlen := w.sl.len
  refine ⟨by rw [List.length_set]; exact hl, fun j => if j = i then [] else if j = (E ++ Ep).length then F i else F j, ?_⟩
  have lE : (E.set i .un ++ (Ep ++ [S.ow t])).length = (E ++ Ep).length + 1 := by
    simp only [List.length_append, List.length_set, List.length_singleton]
    omega
  have gE : ∀ j s, (E.set i .un ++ (Ep ++ [S.ow t]))[j]? = some s → (j = i ∧ s = .un) ∨ (j ≠ i ∧ j = (E ++ Ep).length ∧ s = .ow t) ∨ (j ≠ i ∧ j < (E ++ Ep).length ∧ (E ++ Ep)[j]? = some s) := by
    intro j s ej
    by_cases q : j = i
    · subst q
      rw [List.getElem?_append_left (by rw [List.length_set]; exact hi), List.getElem?_set_self hi] at ej
      cases ej
      exact .inl ⟨rfl, rfl⟩
    · have hj := (List.getElem?_eq_some_iff.mp ej).1
      rw [lE] at hj
      by_cases q2 : j = (E ++ Ep).length
      · rw [← List.append_assoc, List.getElem?_append_right (by rw [List.length_append, List.length_set, ← List.length_append]; omega)] at ej
        rw [List.length_append, List.length_set, ← List.length_append, q2, Nat.sub_self] at ej
        cases ej
        exact .inr (.inl ⟨q, q2, rfl⟩)
      · refine .inr (.inr ⟨q, by omega, ?_⟩)
        rw [← List.append_assoc, List.getElem?_append_left (by rw [List.length_append, List.length_set, ← List.length_append]; omega)] at ej
        by_cases q3 : j < E.length
        · rw [List.getElem?_append_left (by rw [List.length_set]; exact q3), List.getElem?_set_ne (Ne.symm q)] at ej
          exact up_get ej
        · rw [List.getElem?_append_right (by rw [List.length_set]; omega), List.length_set] at ej
          rw [List.getElem?_append_right (by omega)]
          exact ej
  have gσ : ∀ j, j < (E ++ Ep).length → (σ ++ (ps ++ [some v])).getD j none = (σ ++ ps).getD j none := fun j hj => by
    rw [List.getD_eq_getElem?_getD, List.getD_eq_getElem?_getD, ← List.append_assoc, List.getElem?_append_left (by omega)]
  have gl : (σ ++ (ps ++ [some v])).getD (E ++ Ep).length none = some v := by
    rw [List.getD_eq_getElem?_getD, ← List.append_assoc, List.getElem?_append_right (by omega), hlen, Nat.sub_self]
    rfl
  have iN : i < (E ++ Ep).length := (List.getElem?_eq_some_iff.mp ei).1
  have Fi := w.sl.rep i _ ei
  rw [List.getD_eq_getElem?_getD, At.high hv] at Fi
  have Fi : ∃ v', some v = some v' ∧ TRep C.K Z H v' t (F i) := Fi
  refine ⟨⟨?_, fun j s ej => ?_, fun j hj => ?_, fun j => ?_, fun j l a h1 h2 => ?_⟩, fun j a h => ?_, fun j u a ej ha => ?_, fun j u a ej ha => ?_, fun j u ej => ?_, w.fr, w.z0, w.zn, w.zt, w.kt, w.fl⟩
  · rw [lE, ← List.append_assoc, List.length_append, hlen]; rfl
  · rcases gE j s ej with ⟨rfl, rfl⟩ | ⟨q, rfl, rfl⟩ | ⟨q, q2, e2⟩
    · rw [if_pos rfl]; exact rfl
    · rw [if_neg q, if_pos rfl, gl]; exact Fi
    · rw [if_neg q, if_neg (by omega), gσ j q2]; exact w.sl.rep j s e2
  · rw [lE] at hj
    rw [if_neg (by omega), if_neg (by omega)]
    exact w.sl.out j (by omega)
  · split
    · exact List.nodup_nil
    · split
      · exact w.sl.nd i
      · exact w.sl.nd j
  · split at h1
    · cases h1
    · split at h2
      · cases h2
      · split at h1
        · split at h2
          · omega
          · have := w.sl.dj _ _ a h1 h2; omega
        · split at h2
          · have := w.sl.dj _ _ a h1 h2; omega
          · exact w.sl.dj _ _ a h1 h2
  · split at h
    · cases h
    · split at h
      · exact w.nz i a h
      · exact w.nz j a h
  · rcases gE j _ ej with ⟨rfl, q⟩ | ⟨q, rfl, q1⟩ | ⟨q, q2, e2⟩
    · cases q
    · rw [if_neg q, if_pos rfl] at ha
      exact w.own i t a ei ha
    · rw [if_neg q, if_neg (by omega)] at ha
      exact w.own j u a e2 ha
  · rcases gE j _ ej with ⟨rfl, q⟩ | ⟨q, rfl, q1⟩ | ⟨q, q2, e2⟩
    · cases q
    · cases q1
    · rw [if_neg q, if_neg (by omega)] at ha
      exact w.mum j u a e2 ha
  · rcases gE j _ ej with ⟨rfl, q⟩ | ⟨q, rfl, q1⟩ | ⟨q, q2, e2⟩
    · cases q
    · cases q1
    · obtain ⟨x, e3, e4⟩ := w.mus j u e2
      refine ⟨x, e3, ?_⟩
      rw [← List.append_assoc, List.getElem?_append_left (by omega)]
      exact e4
theorem ds_retv (i : Nat) {x : Str} {pos' : Pos} (hN : X.N[i]? = some x := by rfl) (hv : Vis X.env.scope x := by first | exact Or.inl rfl | exact Or.inr (Or.inl rfl) | exact Or.inr (Or.inr rfl)) (hd : (x == ("__debug__" : Str)) = false := by decide)
    (hcd : (x == ("__classdict__" : Str)) = false := by decide) : DS C X (.Return (some (.Name x pos')) pos) (dRetV i) := (ps_ret (pe_var hN hv hd hcd)).imp fun Dn σ H ⟨ps, Ep, E, Z, Dd, w, h, f⟩ => by
  unfold dRetV at h
  split at h
  · rename_i t e
    obtain ⟨v, F, e1, r⟩ := w.tree e (t := t) rfl
    obtain ⟨G, g⟩ := w.2
    exact ⟨v, e1, f.rt (.ow t) σ _ Z H v (g.lift w.1 e e1) (Stp.refl _ _) h⟩
  · cases h
def dIf (c : TB) (t u : TSD) : TSD := fun D E => c E fun b E1 => brB b (t D E1) (u D E1)
theorem ds_if {c : Expr} {a b : List Stmt} {tc : TB} {t u : TSD} (hc : DT C X c tc) (ha : DSs C X a t) (hb : DSs C X b u) : DS C X (.If c a b pos) (dIf tc t u) := (ps_if hc ha hb).imp fun Dn σ H ⟨ps, Ep, E, Z, Dd, w, h, f⟩ =>
  ⟨ps, Ep, E, Z, _, w, h, fun b E1 Z1 H1 w1 st1 h1 => by
    cases b with
    | true => exact ⟨ps, Ep, E1, Z1, Dd, w1, h1.t, f.on st1⟩
    | false => exact ⟨ps, Ep, E1, Z1, Dd, w1, h1.f, f.on st1⟩⟩
def dAsg (t : TD) (g : TGD) : TSD := fun D E => t E fun d E1 => g d E1 D.nx
theorem ds_asg {gs : List Nat} {tg e : Expr} {t : TD} {g : TGD} (he : DE C X e t) (hg : DG C X gs tg g) (hs : swapsWithSole [tg] e pos.line X.env = pure false := by rfl) (hw : swappedStores [tg] e X.env = pure none := by rfl)
    (h1 : (assignEach [tg] X.env).map (·.2) = [assign tg X.env] := by rfl) : DS C X (.Assign [tg] e pos) (dAsg t g) := (ps_asg he hg hs hw h1).imp fun Dn σ H ⟨ps, Ep, E, Z, Dd, w, h, f⟩ =>
  ⟨ps, Ep, E, Z, _, w, h, fun d E1 Z1 H1 v w1 st1 r1 h1 => ⟨ps, Ep, E1, Z1, d, _, w1, r1, h1, fun σ' E' w' _ q => f.nx σ' E' Z1 H1 w' st1 q⟩⟩
def dSet (i : Nat) (t : TD) : TSD := fun D E => t E fun d E1 => S.free E1[i]? = true ∧ D.nx (E1.set i (.fr d))
theorem ds_set (i : Nat) {x : Str} {e : Expr} {t : TD} {pos' : Pos} (hN : X.N.Nodup) (he : DE C X e t) (hi : X.N[i]? = some x := by rfl) (hx : Loc X.env.scope x := by first | exact .inl rfl | exact .inr rfl) (hs : swapsWith e (some (.Name x pos')) pos.line X.env = pure false := by rfl)
    (hf : X.fn x = true ∨ X.env.scope.names.lookup x = some .local := by first | exact .inl rfl | exact .inr rfl | assumption) : DS C X (.Assign [.Name x pos'] e pos) (dSet i t) := (ps_set hN hi hx he hs hf).imp fun Dn σ H ⟨ps, Ep, E, Z, Dd, w, h, f⟩ =>
  ⟨ps, Ep, E, Z, _, w, h, fun d E1 Z1 H1 v w1 st1 r1 ⟨h0, h1⟩ => by
    obtain ⟨f1, f2⟩ := free_lt h0
    exact f.nx _ _ Z1 H1 (w1.setD r1 f1 f2) st1 h1⟩
def dSetN (i : Nat) (t : TN) : TSD := fun D E => t E fun tr E1 => S.free E1[i]? = true ∧ D.nx (E1.set i (.ow tr))
theorem ds_setn (i : Nat) {x : Str} {e : Expr} {t : TN} {pos' : Pos} (hN : X.N.Nodup) (he : DN C X e t) (hi : X.N[i]? = some x := by rfl) (hx : Loc X.env.scope x := by first | exact .inl rfl | exact .inr rfl) (hs : swapsWith e (some (.Name x pos')) pos.line X.env = pure false := by rfl)
    (hf : X.fn x = true ∨ X.env.scope.names.lookup x = some .local := by first | exact .inl rfl | exact .inr rfl | assumption) : DS C X (.Assign [.Name x pos'] e pos) (dSetN i t) := (ps_set hN hi hx he hs hf).imp fun Dn σ H ⟨ps, Ep, E, Z, Dd, w, h, f⟩ =>
  ⟨ps, Ep, E, Z, _, w, h, fun tr E1 Z1 H1 v w1 st1 ⟨h0, h1⟩ => by
    obtain ⟨f1, f2⟩ := free_lt h0
    exact f.nx _ _ Z1 H1 (w1.setP f1 f2) st1 h1⟩
/-- name op= e, ints and texts -/
def dAug (i : Nat) (o : O2) (t : TD) : TSD := fun D E => match E[i]? with
  | some (.fr x) => t E fun y E1 => o x y fun z => S.free E1[i]? = true ∧ D.nx (E1.set i (.fr z))
  | _ => False
theorem ds_aug (i : Nat) {x : Str} {e : Expr} {t : TD} {op : Operator} {o : O2} {r : R2} {pos' : Pos} (hN : X.N.Nodup) (ho : OpR X (inplaceOp op) r ∧ Meets C o r) (he : DE C X e t) (hi : X.N[i]? = some x := by rfl) (hx : Loc X.env.scope x := by first | exact .inl rfl | exact .inr rfl)
    (hf : X.fn x = true ∨ X.env.scope.names.lookup x = some .local := by first | exact .inl rfl | exact .inr rfl | assumption) : DS C X (.AugAssign (.Name x pos') op e pos) (dAug i o t) := (ps_aug hN hi hx he (fun pins s σ H x y v u Q I r1 r2 h => ho.1 pins s σ H x y v u Q I r1 r2 h) hf).imp fun Dn σ H ⟨ps, Ep, E, Z, Dd, w, h, f⟩ => by
  unfold dAug at h
  split at h
  · rename_i d e
    obtain ⟨v, e1, r0⟩ := w.get e
    refine ⟨v, e1, ps, Ep, E, Z, _, w, h, fun y E1 Z1 H1 u w1 st1 r1 h1 => ho.2 Z1 H1 v u d y _ _ (r0.mono st1) r1 h1 fun z dz rz q => ?_⟩
    obtain ⟨f1, f2⟩ := free_lt q.1
    exact f.nx _ _ Z1 H1 (w1.setD rz f1 f2) st1 q.2
  · cases h
def rAddI : R2 := fun x y H Q => (∃ i j, x = .int i ∧ y = .int j ∧ Q (.int (i + j)) H) ∨ ∃ i j, x = .str i ∧ y = .str j ∧ i.length + j.length ≤ sizeLine ∧ Q (.str (i ++ j)) H
theorem i_add : OpR X (inplaceOp .Add) rAddA ∧ Meets C oAdd rAddA := ⟨iop_add.or iop_add_str, (o_add (X := X)).2⟩
theorem i_sub : OpR X (inplaceOp .Sub) (rI0 fun i j => .int (i - j)) ∧ Meets C (oI (iInt fun i j => i - j)) (rI0 fun i j => .int (i - j)) := ⟨iop_sub, meets_I fun _ _ _ _ _ => .int _⟩
/-- for -/
def dFor (t : TIt) (g : TGD) (tb : TSD) : TSD := fun D E => t E fun ds E1 => ∃ I : Nat → List S → Prop, I 0 E1 ∧ (∀ (i : Nat) d E', ds[i]? = some d → I i E' → g d E' fun E2 => tb { nx := I (i + 1), ct := I (i + 1), bk := D.nx, rt := D.rt } E2) ∧ ∀ E', I ds.length E' → D.nx E'
theorem ds_for {gs : List Nat} {tg iter : Expr} {body : List Stmt} {t : TIt} {g : TGD} {tb : TSD} (hp : PassesOwn (model X.prog X.w) X.A X.env X.xe) (hi : DI C X tg iter t) (hg : DG C X gs tg g) (hb : DSs C X body tb) (hc : X.calm = true := by rfl)
    (hs : ∀ x, foldedSetIterable iter X.env x = pure x := by intro _; rfl) : DS C X (.For tg iter body [] pos) (dFor t g tb) := (ps_for hp hc hi hg hb hs).imp fun Dn σ H ⟨ps, Ep, E, Z, Dd, w, h, f⟩ =>
  ⟨ps, Ep, E, Z, _, w, h, fun J ds E1 Z1 H1 w1 st1 wk ⟨I, i0, step, fin⟩ => by
    refine ⟨fun i m σ' H' => m = ds.length - i ∧ i ≤ ds.length ∧ ∃ E' Z', At C ps Ep Z' σ' E' H' ∧ Stp Z1 H1 Z' H' ∧ I i E', ⟨_, rfl, Nat.zero_le _, E1, Z1, w1, Stp.refl _ _, i0⟩, ?_⟩
    rintro i m σ' H' ⟨rfl, hle, E', Z', w', st', hi'⟩
    by_cases hlt : i < ds.length
    · obtain ⟨go, yl⟩ := wk.go Z' σ' E' H' ps Ep st' w' trivial i _ (List.getElem?_eq_getElem hlt)
      refine .inr ⟨go, fun σ2 H2 => ∃ E2 Z2, At C ps Ep Z2 σ2 E2 H2 ∧ Stp Z1 H1 Z2 H2 ∧ I (i + 1) E2, fun σ2 H2 ⟨E2, Z2, w2, st2, h2⟩ => ⟨ds.length - (i + 1), by omega, rfl, hlt, E2, Z2, w2, st2, h2⟩, fun x H3 y => ?_⟩
      obtain ⟨hh, rx⟩ := yl x H3 y
      have w3 : At C ps Ep Z' σ' E' H3 ∧ Stp Z' H' Z' H3 := by
        rcases hh with e | ⟨p, o, hp, e⟩
        · subst e; exact ⟨w', Stp.refl _ _⟩
        · subst e; exact ⟨w'.new hp, Stp.new w'.zt hp⟩
      refine ⟨ps, Ep, E', Z', _, _, w3.1, rx, step i _ E' (List.getElem?_eq_getElem hlt) hi', fun σ2 E2 w2 _ h2 => ⟨ps, Ep, E2, Z', _, w2, h2, ?_⟩⟩
      have stA := st'.trans w3.2
      exact ⟨fun σ5 E5 Z5 H5 w5 st5 h5 => ⟨E5, Z5, w5, stA.trans st5, h5⟩, fun σ5 E5 Z5 H5 w5 st5 h5 => f.nx σ5 E5 Z5 H5 w5 (st1.trans (stA.trans st5)) h5, fun σ5 E5 Z5 H5 w5 st5 h5 => ⟨E5, Z5, w5, stA.trans st5, h5⟩,
        fun r σ5 E5 Z5 H5 v w5 st5 h5 => f.rt r σ5 E5 Z5 H5 v w5 (st1.trans (stA.trans st5)) h5, f.e⟩
    · have e : i = ds.length := by omega
      subst e
      exact .inl ⟨wk.stop Z' σ' E' H' ps Ep st' w' trivial _ (Nat.le_refl _), f.nx σ' E' Z' H' w' (st1.trans st') (fin E' hi')⟩⟩
/-- while -/
def dWhile (c : TB) (tb : TSD) : TSD := fun D E => ∃ W : Nat → List S → Prop, (∃ m, W m E) ∧ ∀ m E', W m E' → c E' fun b E1 => brB b (tb { nx := fun E2 => ∃ m', m' < m ∧ W m' E2, ct := fun E2 => ∃ m', m' < m ∧ W m' E2, bk := D.nx, rt := D.rt } E1) (D.nx E1)
theorem ds_while {c : Expr} {body : List Stmt} {tc : TB} {tb : TSD} (hp : PassesOwn (model X.prog X.w) X.A X.env X.xe) (hc : DT C X c tc) (hb : DSs C X body tb) : DS C X (.While c body [] pos) (dWhile tc tb) := (ps_while hp hc hb).imp fun Dn σ H ⟨ps, Ep, E, Z, Dd, w, ⟨W, ⟨m0, w0⟩, turn⟩, f⟩ => by
  refine ⟨fun m σ' H' => ∃ E' Z', At C ps Ep Z' σ' E' H' ∧ Stp Z H Z' H' ∧ W m E', ⟨m0, E, Z, w, Stp.refl _ _, w0⟩, ?_⟩
  rintro m σ' H' ⟨E', Z', w', st', wm⟩
  refine ⟨ps, Ep, E', Z', _, w', turn m E' wm, fun b E1 Z1 H1 w1 st1 h1 => ?_⟩
  cases b with
  | true =>
    rw [if_pos rfl]
    replace h1 := h1.t
    refine ⟨fun σ2 H2 => ∃ m', m' < m ∧ ∃ E2 Z2, At C ps Ep Z2 σ2 E2 H2 ∧ Stp Z H Z2 H2 ∧ W m' E2, fun σ2 H2 h => h, ps, Ep, E1, Z1, _, w1, h1, ?_⟩
    have stA := st'.trans st1
    exact ⟨fun σ5 E5 Z5 H5 w5 st5 ⟨m', hm, h5⟩ => ⟨m', hm, E5, Z5, w5, stA.trans st5, h5⟩, fun σ5 E5 Z5 H5 w5 st5 h5 => f.nx σ5 E5 Z5 H5 w5 (stA.trans st5) h5, fun σ5 E5 Z5 H5 w5 st5 ⟨m', hm, h5⟩ => ⟨m', hm, E5, Z5, w5, stA.trans st5, h5⟩,
        fun r σ5 E5 Z5 H5 v w5 st5 h5 => f.rt r σ5 E5 Z5 H5 v w5 (stA.trans st5) h5, f.e⟩
  | false =>
    rw [if_neg Bool.false_ne_true]
    replace h1 := h1.f
    exact f.nx σ' E1 Z1 H1 w1 (st'.trans st1) h1
end
end DL
set_option Elab.async false
set_option linter.all false
set_option maxRecDepth 100000
set_option maxHeartbeats 4000000
/-! DL, part e: comprehensions, calls, defs. -/
namespace DL
open PySem PySem.Spec PyProof.Rows L2

section
variable {C : Ctx} {Z Z' : Addr → Prop} {σ : Sg} {E : List S} {H H' : Hp} {F : Foot}
theorem SRep.un {K : Frg} {o : Option V} : SRep K Z H o .un [] := rfl
/-- places chosen anew -/
theorem WdF.re (w : WdF C Z σ E H F) (φ : Nat → Nat) {σ2 : Sg} {E2 : List S} (len : σ2.length = E2.length)
    (h : ∀ (j : Nat) s, E2[j]? = some s → s = .un ∨ (E[φ j]? = some s ∧ σ2.getD j none = σ.getD (φ j) none ∧ (s.isMu = true → φ j = j)))
    (inj : ∀ (j l : Nat) s u, E2[j]? = some s → E2[l]? = some u → s ≠ .un → u ≠ .un → φ j = φ l → j = l) : Wd C Z σ2 E2 H := by
  have key : ∀ (j : Nat) a, a ∈ (match E2[j]? with | some .un => [] | some _ => F (φ j) | none => ([] : List Addr)) → ∃ s, E2[j]? = some s ∧ s ≠ .un ∧ a ∈ F (φ j) := fun j a ha => by
    cases e : E2[j]? with
    | none => rw [e] at ha; cases ha
    | some s =>
      rw [e] at ha
      cases s with
      | un => cases ha
      | fr d => exact ⟨_, rfl, (fun q => nomatch q), ha⟩
      | ow d => exact ⟨_, rfl, (fun q => nomatch q), ha⟩
      | mu d => exact ⟨_, rfl, (fun q => nomatch q), ha⟩
  refine ⟨fun j => match E2[j]? with | some .un => [] | some _ => F (φ j) | none => [], ⟨⟨len, fun j s e => ?_, fun j hj => ?_, fun j => ?_, fun j l a h1 h2 => ?_⟩, fun j a ha => ?_, fun j t a e ha => ?_, fun j t a e ha => ?_, fun j t e => ?_, w.fr, w.z0, w.zn, w.zt, w.kt, w.fl⟩⟩
  · show SRep _ _ _ _ s (match E2[j]? with | some .un => [] | some _ => F (φ j) | none => [])
    rw [e]
    rcases h j s e with q | ⟨q1, q2, _⟩
    · subst q; exact rfl
    · rw [q2]
      have z := w.sl.rep _ s q1
      cases s with
      | un => exact rfl
      | fr d => exact z
      | ow t => exact z
      | mu t => exact z
  · show (match E2[j]? with | some .un => [] | some _ => F (φ j) | none => []) = []
    rw [List.getElem?_eq_none hj]
  · show (match E2[j]? with | some .un => [] | some _ => F (φ j) | none => []).Nodup
    split
    · exact List.nodup_nil
    · exact w.sl.nd _
    · exact List.nodup_nil
  · obtain ⟨s, e1, n1, m1⟩ := key j a h1
    obtain ⟨u, e2, n2, m2⟩ := key l a h2
    exact inj j l s u e1 e2 n1 n2 (w.sl.dj _ _ a m1 m2)
  · obtain ⟨s, e1, n1, m1⟩ := key j a ha
    exact w.nz _ a m1
  · obtain ⟨s, e1, n1, m1⟩ := key j a ha
    rw [e] at e1; cases e1
    rcases h j _ e with q | ⟨q1, q2, _⟩
    · cases q
    · exact w.own _ t a q1 m1
  · obtain ⟨s, e1, n1, m1⟩ := key j a ha
    rw [e] at e1; cases e1
    rcases h j _ e with q | ⟨q1, q2, q3⟩
    · cases q
    · have := q3 rfl
      rw [this] at q1 m1
      exact w.mum _ t a q1 m1
  · rcases h j _ e with q | ⟨q1, q2, q3⟩
    · cases q
    · have q := q3 rfl
      rw [q] at q1 q2
      obtain ⟨v, e1, e2⟩ := w.mus j t q1
      refine ⟨v, e1, getD_some ?_⟩
      rw [q2]
      exact of_getD e2
end

section
variable {C : Ctx} {ps : Sg} {Ep : List S} {Z Z' : Addr → Prop} {σ : Sg} {E : List S} {H H' : Hp}
theorem getD_left {α : Type} {a b : List (Option α)} {i : Nat} (h : i < a.length) : (a ++ b).getD i none = a.getD i none := by
  rw [List.getD_eq_getElem?_getD, List.getD_eq_getElem?_getD, List.getElem?_append_left h]
theorem getD_right {α : Type} {a b : List (Option α)} {i : Nat} (h : a.length ≤ i) : (a ++ b).getD i none = b.getD (i - a.length) none := by
  rw [List.getD_eq_getElem?_getD, List.getD_eq_getElem?_getD, List.getElem?_append_right h]
/-- other values at places where nothing is known -/
theorem At.resig (w : At C ps Ep Z σ E H) {σ' : Sg} (hl : σ'.length = σ.length) (h : ∀ (j : Nat) s, E[j]? = some s → s ≠ .un → σ'[j]? = σ[j]?) : At C ps Ep Z σ' E H := by
  obtain ⟨F, f⟩ := w.2
  refine ⟨hl.trans w.1, f.re (fun j => j) (by rw [List.length_append, List.length_append, hl, ← List.length_append, f.sl.len, List.length_append]) (fun j s e => ?_) fun _ _ _ _ _ _ _ _ e => e⟩
  by_cases q : s = .un
  · exact .inl q
  · refine .inr ⟨e, ?_, fun _ => rfl⟩
    by_cases hj : j < E.length
    · rw [getD_left (by have := w.1; omega), getD_left (by have := w.1; omega)]
      rw [List.getElem?_append_left hj] at e
      rw [List.getD_eq_getElem?_getD, List.getD_eq_getElem?_getD, h j s e q]
    · rw [getD_right (by have := w.1; omega), getD_right (by have := w.1; omega), hl]
def wipeE (E : List S) : List Nat → List S
  | [] => E
  | v :: vs => (wipeE E vs).set v .un
theorem wipeE_length (E : List S) : ∀ vs : List Nat, (wipeE E vs).length = E.length
  | [] => rfl
  | v :: vs => by unfold wipeE; rw [List.length_set, wipeE_length E vs]
theorem At.wipe (w : At C ps Ep Z σ E H) : ∀ vs : List Nat, At C ps Ep Z (L2.wipe σ vs) (wipeE E vs) H
  | [] => w
  | v :: vs => by
    have q := w.wipe vs
    unfold L2.wipe wipeE
    by_cases hv : v < (wipeE E vs).length
    · exact q.forget hv
    · rw [List.set_eq_of_length_le (show (wipeE E vs).length ≤ v by omega), List.set_eq_of_length_le (show (L2.wipe σ vs).length ≤ v by rw [q.1]; omega)]
      exact q
/-- what is pending, seen as a name -/
theorem At.flat {x : Option V} {s : S} (w : At C (ps ++ [x]) (Ep ++ [s]) Z σ E H) : At C [] [] Z (σ ++ (ps ++ [x])) (E ++ (Ep ++ [s])) H ∧ (E ++ (Ep ++ [s]))[(E ++ Ep).length]? = some s ∧ (σ ++ (ps ++ [x]))[(E ++ Ep).length]? = some x := by
  have hl := w.2.len
  refine ⟨⟨hl, by rw [List.append_nil, List.append_nil]; exact w.2⟩, ?_, ?_⟩
  · rw [← List.append_assoc, List.getElem?_append_right (Nat.le_refl _), Nat.sub_self]; rfl
  · have e : (σ ++ ps).length = (E ++ Ep).length := by
      simp only [List.length_append, List.length_singleton] at hl ⊢
      omega
    rw [← List.append_assoc, List.getElem?_append_right (by omega), e, Nat.sub_self]; rfl
/-- one more item to a pending list -/
theorem At.snocP {D' : Addr} {acc : List D} {y : V} {d : D} (w : At C (ps ++ [some (.ref D')]) (Ep ++ [.ow (.lst acc)]) Z σ E H) (r : Rep C.K Z H y d) :
    ∃ vs, H D' = some (.lst vs) ∧ vs.length = acc.length ∧ Stp Z H Z (upd H D' (.lst (vs ++ [y]))) ∧ At C (ps ++ [some (.ref D')]) (Ep ++ [.ow (.lst (acc ++ [d]))]) Z σ E (upd H D' (.lst (vs ++ [y]))) := by
  obtain ⟨w1, e1, e2⟩ := w.flat
  obtain ⟨a, vs, e3, h, rs, k⟩ := w1.list e1 (ds := acc) rfl
  rw [e2] at e3
  cases e3
  obtain ⟨st, w2⟩ := k (vs ++ [y]) (acc ++ [d]) (rs.append (.one r))
  refine ⟨vs, h, rs.length, st, w.1, ?_⟩
  have w3 := w2.2
  rw [List.append_nil, List.append_nil, ← List.append_assoc E, List.set_append_right _ _ (Nat.le_refl _), Nat.sub_self, List.append_assoc E] at w3
  exact w3

/-! ### comprehensions -/
variable {X : Cx}
structure PTsD (C : Ctx) (X : Cx) (ifs : List Expr) (t : TB) : Prop where
  pts : PTs X ifs (ttOf C t)
def tYesD : TB := fun E Q => Q true E
theorem dts_nil : PTs X [] (ttOf C tYesD) := ⟨fun pins s σ H Q I ⟨ps, Ep, E, Z, Qd, w, h, post⟩ => (pts_nil (X := X)).run pins s σ H Q I (post true E Z H w (Stp.refl _ _) h)⟩
theorem dts_one {c : Expr} {t : TB} (h : DT C X c t) : PTs X [c] (ttOf C t) := pts_one h
def tLcD (t : TIt) (g : TGD) (tt : TB) (te : TD) (own : List Nat) : TN := fun E Q => t E fun ds E1 => ∃ I : Nat → List D → List S → Prop, I 0 [] (wipeE E1 own) ∧
  (∀ (i : Nat) d acc E', ds[i]? = some d → I i acc E' → g d E' fun E2 => tt E2 fun b E3 => brB b (te E3 fun y E4 => acc.length < sizeLine ∧ I (i + 1) (acc ++ [y]) (wipeE E4 own)) (I (i + 1) acc (wipeE E3 own))) ∧
  ∀ acc E', I ds.length acc E' → (∀ j ∈ own, E'[j]? = some .un ∨ E'[j]? = none) → Q (.lst acc) E'
theorem wipeE_un (E : List S) : ∀ (vs : List Nat) (j : Nat), j ∈ vs → (wipeE E vs)[j]? = some .un ∨ (wipeE E vs)[j]? = none
  | [], _, h => by cases h
  | v :: vs, j, h => by
    unfold wipeE
    by_cases q : v = j
    · subst q
      by_cases hv : v < (wipeE E vs).length
      · rw [List.getElem?_set_self hv]; exact .inl rfl
      · rw [List.getElem?_eq_none (by rw [List.length_set]; omega)]; exact .inr rfl
    · rw [List.getElem?_set_ne q]
      exact wipeE_un E vs j ((List.mem_cons.mp h).resolve_left fun e => q e.symm)
theorem wipe_eq {σ σ' : Sg} : ∀ {vs : List Nat}, (∀ j : Nat, j ∉ vs → σ'[j]? = σ[j]?) → σ'.length = σ.length → L2.wipe σ' vs = L2.wipe σ vs := fun {vs} h hl => by
  refine List.ext_getElem? fun j => ?_
  by_cases hj : j ∈ vs
  · have one : ∀ (τ : Sg) (vs : List Nat), j ∈ vs → (L2.wipe τ vs)[j]? = if j < τ.length then some none else none := by
      intro τ vs
      induction vs with
      | nil => intro h; cases h
      | cons v vs ih =>
        intro h
        unfold L2.wipe
        by_cases q : v = j
        · subst q
          by_cases hv : v < τ.length
          · rw [List.getElem?_set_self (by rw [wipe_length]; exact hv), if_pos hv]
          · rw [List.getElem?_eq_none (by rw [List.length_set, wipe_length]; omega), if_neg hv]
        · rw [List.getElem?_set_ne q]
          exact ih ((List.mem_cons.mp h).resolve_left fun e => q e.symm)
    rw [one σ' vs hj, one σ vs hj, hl]
  · rw [wipe_out hj, wipe_out hj, h j hj]
theorem lc_imp {t : TIt} {g : TGD} {tt : TB} {te : TD} {own : List Nat} {gs : List Nat} (hgs : ∀ j ∈ gs, j ∈ own) (σ : Sg) (H : Hp) (Q : VK) (h : neOf C (tLcD t g tt te own) σ H Q) : tLc (tiOf C t) (tgOf C gs g) (ttOf C tt) (teOf C te) own σ H Q := by
  obtain ⟨ps, Ep, E, Z, Qd, w, h, post⟩ := h
  refine ⟨ps, Ep, E, Z, _, w, h, fun J ds E1 Z1 H1 w1 st1 wk ⟨I, i0, step, fin⟩ D' hD => ?_⟩
  obtain ⟨stp, wp⟩ := w1.push hD (vs := []) (ds := []) .nil
  refine ⟨fun i m H' => m = ds.length - i ∧ i ≤ ds.length ∧ ∃ E' Z' acc, At C (ps ++ [some (.ref D')]) (Ep ++ [.ow (.lst acc)]) Z' (L2.wipe σ own) E' H' ∧ Stp Z1 H1 Z' H' ∧ I i acc E' ∧ ∀ j ∈ own, E'[j]? = some .un ∨ E'[j]? = none,
    ⟨_, rfl, Nat.zero_le _, _, Z1, [], wp.wipe own, stp, i0, wipeE_un _ _⟩, ?_⟩
  rintro i m H' ⟨rfl, hle, E', Z', acc, w', st', hi', hun⟩
  by_cases hlt : i < ds.length
  · obtain ⟨go, yl⟩ := wk.go Z' _ E' H' _ _ st' w' trivial i _ (List.getElem?_eq_getElem hlt)
    refine .inr ⟨go, fun H2 => ∃ E2 Z2 acc, At C (ps ++ [some (.ref D')]) (Ep ++ [.ow (.lst acc)]) Z2 (L2.wipe σ own) E2 H2 ∧ Stp Z1 H1 Z2 H2 ∧ I (i + 1) acc E2 ∧ ∀ j ∈ own, E2[j]? = some .un ∨ E2[j]? = none,
      fun H2 ⟨E2, Z2, acc2, w2, st2, h2, u2⟩ => ⟨ds.length - (i + 1), by omega, rfl, hlt, E2, Z2, acc2, w2, st2, h2, u2⟩, fun x H3 y => ?_⟩
    obtain ⟨hh, rx⟩ := yl x H3 y
    have w3 : At C (ps ++ [some (.ref D')]) (Ep ++ [.ow (.lst acc)]) Z' (L2.wipe σ own) E' H3 ∧ Stp Z' H' Z' H3 := by
      rcases hh with e | ⟨p, o, hp, e⟩
      · subst e; exact ⟨w', Stp.refl _ _⟩
      · subst e; exact ⟨w'.new hp, Stp.new w'.zt hp⟩
    have stA := st'.trans w3.2
    refine ⟨_, _, E', Z', _, _, w3.1, rx, step i _ acc E' (List.getElem?_eq_getElem hlt) hi', fun σ2 E2 w2 k2 h2 => ?_⟩
    have hl2 : σ2.length = (L2.wipe σ own).length := k2.1
    have ww : L2.wipe σ2 own = L2.wipe σ own := by
      rw [wipe_eq (σ := L2.wipe σ own) (fun j hj => k2.2 j fun m => hj (hgs j m)) hl2]
      refine wipe_eq (fun j hj => wipe_out hj) (wipe_length σ own)
    refine ⟨ww, _, _, E2, Z', _, w2, h2, fun b E3 Z3 H4 w4 st4 h4 => ?_⟩
    cases b with
    | true =>
      rw [if_pos rfl]
      replace h4 := h4.t
      refine ⟨_, _, E3, Z3, _, w4, h4, fun d E5 Z5 H5 v w5 st5 r5 ⟨hz, h5⟩ => ?_⟩
      obtain ⟨vs, e6, l6, st6, w6⟩ := w5.snocP r5
      refine ⟨vs, e6, by rw [l6]; exact hz, wipeE E5 own, Z5, acc ++ [d], ?_, stA.trans (st4.trans (st5.trans st6)), h5, wipeE_un _ _⟩
      rw [← ww]
      exact w6.wipe own
    | false =>
      rw [if_neg Bool.false_ne_true]
      replace h4 := h4.f
      refine ⟨wipeE E3 own, Z3, acc, ?_, stA.trans st4, h4, wipeE_un _ _⟩
      rw [← ww]
      exact w4.wipe own
  · have e : i = ds.length := by omega
    subst e
    refine .inl ⟨wk.stop Z' _ E' H' _ _ st' w' trivial _ (Nat.le_refl _), post _ E' Z' H' _ (w'.resig (wipe_length σ own).symm fun j s ej hs => ?_) (st1.trans st') (fin acc E' hi' hun)⟩
    have hj : j ∉ own := fun m => by
      rcases hun j m with z | z
      · rw [ej] at z; cases z; exact hs rfl
      · rw [ej] at z; cases z
    exact (wipe_out hj).symm
theorem dn_lc {elt tg iter : Expr} {ifs : List Expr} {scope : Scope} {own : List (Str × Nat)} {pos : Pos} {t : TIt} {g : TGD} {tt : TB} {te : TD} {gs : List Nat} (hN : X.N.Nodup) (hi : DI C X tg iter t) (ok : BlkOk X.N X.env.scope scope own)
    (hg : ∀ (s : Shared) (H : Hp) (a : Addr) (cl : List (Str × Addr)) (fp : List Addr), DG C (X.blk s H scope (compEnvC scope cl a X.env) fp) gs tg g) (ht : ∀ (s : Shared) (H : Hp) (a : Addr) (cl : List (Str × Addr)) (fp : List Addr), PTs (X.blk s H scope (compEnvC scope cl a X.env) fp) ifs (ttOf C tt))
    (he : ∀ (s : Shared) (H : Hp) (a : Addr) (cl : List (Str × Addr)) (fp : List Addr), DE C (X.blk s H scope (compEnvC scope cl a X.env) fp) elt te) (hc : X.calm = true := by rfl) (hgs : ∀ j ∈ gs, j ∈ own.map (·.2) := by decide) (hs : ∀ x, foldedSetIterable iter X.env x = pure x := by intro _; rfl) :
    DN C X (.ListComp elt [⟨tg, iter, ifs, 0⟩] scope pos) (tLcD t g tt te (own.map (·.2))) := (pe_lc hc hN hi ok hg ht he hs).imp (lc_imp hgs)
/-- name = [..] on one line -/
theorem ds_setlc (i : Nat) {y : Str} {py : Pos} {elt tg iter : Expr} {ifs : List Expr} {scope : Scope} {own : List (Str × Nat)} {pos spos : Pos} {t : TIt} {g : TGD} {tt : TB} {te : TD} {gs : List Nat} (hN : X.N.Nodup) (hi : DI C X tg iter t) (ok : BlkOk X.N X.env.scope scope own)
    (hg : ∀ (s : Shared) (H : Hp) (a : Addr) (cl : List (Str × Addr)) (fp : List Addr), DG C (X.blk s H scope (compEnvC scope cl a X.env) fp) gs tg g) (ht : ∀ (s : Shared) (H : Hp) (a : Addr) (cl : List (Str × Addr)) (fp : List Addr), PTs (X.blk s H scope (compEnvC scope cl a X.env) fp) ifs (ttOf C tt))
    (he : ∀ (s : Shared) (H : Hp) (a : Addr) (cl : List (Str × Addr)) (fp : List Addr), DE C (X.blk s H scope (compEnvC scope cl a X.env) fp) elt te) (hy : X.N[i]? = some y := by rfl) (hyl : X.env.scope.names.lookup y = some .local := by rfl)
    (hsw : swapsWith (.ListComp elt [⟨tg, iter, ifs, 0⟩] scope pos) (some (.Name y py)) spos.line X.env = pure true := by exact sw_true rfl rfl rfl (by decide +kernel)) (hc : X.calm = true := by rfl) (hgs : ∀ j ∈ gs, j ∈ own.map (·.2) := by decide)
    (hs : ∀ x, foldedSetIterable iter X.env x = pure x := by intro _; rfl) :
    DS C X (.Assign [.Name y py] (.ListComp elt [⟨tg, iter, ifs, 0⟩] scope pos) spos) (dSetN i (tLcD t g tt te (own.map (·.2)))) := (ps_setLc hc hN hy hyl hsw hi ok hg ht he hs).imp fun Dn σ H ⟨ps, Ep, E, Z, Dd, w, h, f⟩ => by
  refine lc_imp hgs σ H _ ⟨ps, Ep, E, Z, _, w, h, fun tr E1 Z1 H1 v w1 st1 ⟨h0, h1⟩ => ?_⟩
  obtain ⟨f1, f2⟩ := free_lt h0
  exact f.nx _ _ Z1 H1 (w1.setP f1 f2) st1 h1
/-! ### a comprehension over an owned list at a name, only looked at -/
def lstIs (E : List S) (j : Nat) (ds : List D) : Prop := ∃ s, E[j]? = some s ∧ s.tree? = some (.lst ds)
def tibOf (C : Ctx) (j : Nat) (t : TIt) : TI := fun σ H R => ∃ ps Ep E Z Qi, At C ps Ep Z σ E H ∧ t E Qi ∧ ∀ J ds E' Z' H', At C ps Ep Z' σ E' H' → Stp Z H Z' H' → Walks C J Z' H' ds (fun σ2 E2 => σ2[j]? = σ[j]? ∧ lstIs E2 j ds) → Qi ds E' → R J H'
def tiB (j : Nat) : TIt := fun E Q => match E[j]? with
  | some (.ow (.lst ds)) => Q ds E
  | some (.mu (.lst ds)) => Q ds E
  | _ => False
theorem di_b (j : Nat) {x : Str} {pos : Pos} {tg : Expr} (hN : X.N[j]? = some x := by rfl) (hv : Vis X.env.scope x := by first | exact Or.inl rfl | exact Or.inr (Or.inl rfl) | exact Or.inr (Or.inr rfl)) (hd : (x == ("__debug__" : Str)) = false := by decide)
    (hcd : (x == ("__classdict__" : Str)) = false := by decide) (hK : X.K = C.K := by rfl) : PI X tg (.Name x pos) (tibOf C j (tiB j)) := (pi_list (pe_var hN hv hd hcd)).imp fun σ H R ⟨ps, Ep, E, Z, Qd, w, h, post⟩ => by
  rw [hK]
  have main : ∀ {s : S} {ds : List D}, E[j]? = some s → s.tree? = some (.lst ds) → Qd ds E → iList C.K (tVar j) σ H R := fun {s ds} e et q => by
    obtain ⟨a, vs, e1, ha, rs, _⟩ := w.list e et
    have get : ∀ {Z2 : Addr → Prop} {σ2 : Sg} {E2 : List S} {H2 : Hp} {ps : Sg} {Ep : List S}, At C ps Ep Z2 σ2 E2 H2 → σ2[j]? = σ[j]? → lstIs E2 j ds → ∃ vs2, H2 a = some (.lst vs2) ∧ Reps C.K Z2 H2 vs2 ds := fun {Z2 σ2 E2 H2 ps Ep} w2 es ⟨s2, g1, g2⟩ => by
      obtain ⟨a2, vs2, g3, g4, g5, _⟩ := w2.list g1 g2
      rw [es, e1] at g3
      cases g3
      exact ⟨vs2, g4, g5⟩
    refine ⟨_, e1, a, rfl, ⟨vs, .of ha⟩, post _ ds E Z H w (Stp.refl _ _) ⟨fun Z2 σ2 E2 H2 ps Ep st w2 hh i hi => ?_, fun Z2 σ2 E2 H2 ps Ep st w2 hh i d ed => ?_⟩ q⟩
    · obtain ⟨vs2, g1, g2⟩ := get w2 hh.1 hh.2
      exact ⟨vs2, .of g1, by rw [g2.length]; exact hi⟩
    · obtain ⟨vs2, g1, g2⟩ := get w2 hh.1 hh.2
      obtain ⟨v, e2, rv⟩ := g2.get ed
      refine ⟨⟨vs2, v, .of g1, e2⟩, fun x H3 y => ?_⟩
      obtain ⟨y1, y2⟩ := y
      subst y1
      have := y2 vs2 (.of g1)
      rw [e2] at this
      cases this
      exact ⟨.inl rfl, rv⟩
  unfold tiB at h
  split at h
  · rename_i ds e; exact main e rfl h
  · rename_i ds e; exact main e rfl h
  · cases h
def tLcB (j : Nat) (t : TIt) (g : TGD) (tt : TB) (te : TD) (own : List Nat) : TN := fun E Q => t E fun ds E1 => ∃ I : Nat → List D → List S → Prop, I 0 [] (wipeE E1 own) ∧ (∀ i acc E', I i acc E' → lstIs E' j ds) ∧
  (∀ (i : Nat) d acc E', ds[i]? = some d → I i acc E' → g d E' fun E2 => tt E2 fun b E3 => brB b (te E3 fun y E4 => acc.length < sizeLine ∧ I (i + 1) (acc ++ [y]) (wipeE E4 own)) (I (i + 1) acc (wipeE E3 own))) ∧
  ∀ acc E', I ds.length acc E' → (∀ j ∈ own, E'[j]? = some .un ∨ E'[j]? = none) → Q (.lst acc) E'
theorem lcB_imp {j0 : Nat} {t : TIt} {g : TGD} {tt : TB} {te : TD} {own : List Nat} {gs : List Nat} (hj0 : j0 ∉ own) (hgs : ∀ j ∈ gs, j ∈ own) (σ : Sg) (H : Hp) (Q : VK) (h : neOf C (tLcB j0 t g tt te own) σ H Q) : tLc (tibOf C j0 t) (tgOf C gs g) (ttOf C tt) (teOf C te) own σ H Q := by
  obtain ⟨ps, Ep, E, Z, Qd, w, h, post⟩ := h
  refine ⟨ps, Ep, E, Z, _, w, h, fun J ds E1 Z1 H1 w1 st1 wk ⟨I, i0, hold, step, fin⟩ D' hD => ?_⟩
  obtain ⟨stp, wp⟩ := w1.push hD (vs := []) (ds := []) .nil
  refine ⟨fun i m H' => m = ds.length - i ∧ i ≤ ds.length ∧ ∃ E' Z' acc, At C (ps ++ [some (.ref D')]) (Ep ++ [.ow (.lst acc)]) Z' (L2.wipe σ own) E' H' ∧ Stp Z1 H1 Z' H' ∧ I i acc E' ∧ ∀ j ∈ own, E'[j]? = some .un ∨ E'[j]? = none,
    ⟨_, rfl, Nat.zero_le _, _, Z1, [], wp.wipe own, stp, i0, wipeE_un _ _⟩, ?_⟩
  rintro i m H' ⟨rfl, hle, E', Z', acc, w', st', hi', hun⟩
  by_cases hlt : i < ds.length
  · obtain ⟨go, yl⟩ := wk.go Z' _ E' H' _ _ st' w' ⟨wipe_out hj0, hold _ _ _ hi'⟩ i _ (List.getElem?_eq_getElem hlt)
    refine .inr ⟨go, fun H2 => ∃ E2 Z2 acc, At C (ps ++ [some (.ref D')]) (Ep ++ [.ow (.lst acc)]) Z2 (L2.wipe σ own) E2 H2 ∧ Stp Z1 H1 Z2 H2 ∧ I (i + 1) acc E2 ∧ ∀ j ∈ own, E2[j]? = some .un ∨ E2[j]? = none,
      fun H2 ⟨E2, Z2, acc2, w2, st2, h2, u2⟩ => ⟨ds.length - (i + 1), by omega, rfl, hlt, E2, Z2, acc2, w2, st2, h2, u2⟩, fun x H3 y => ?_⟩
    obtain ⟨hh, rx⟩ := yl x H3 y
    have w3 : At C (ps ++ [some (.ref D')]) (Ep ++ [.ow (.lst acc)]) Z' (L2.wipe σ own) E' H3 ∧ Stp Z' H' Z' H3 := by
      rcases hh with e | ⟨p, o, hp, e⟩
      · subst e; exact ⟨w', Stp.refl _ _⟩
      · subst e; exact ⟨w'.new hp, Stp.new w'.zt hp⟩
    have stA := st'.trans w3.2
    refine ⟨_, _, E', Z', _, _, w3.1, rx, step i _ acc E' (List.getElem?_eq_getElem hlt) hi', fun σ2 E2 w2 k2 h2 => ?_⟩
    have hl2 : σ2.length = (L2.wipe σ own).length := k2.1
    have ww : L2.wipe σ2 own = L2.wipe σ own := by
      rw [wipe_eq (σ := L2.wipe σ own) (fun j hj => k2.2 j fun m => hj (hgs j m)) hl2]
      refine wipe_eq (fun j hj => wipe_out hj) (wipe_length σ own)
    refine ⟨ww, _, _, E2, Z', _, w2, h2, fun b E3 Z3 H4 w4 st4 h4 => ?_⟩
    cases b with
    | true =>
      rw [if_pos rfl]
      replace h4 := h4.t
      refine ⟨_, _, E3, Z3, _, w4, h4, fun d E5 Z5 H5 v w5 st5 r5 ⟨hz, h5⟩ => ?_⟩
      obtain ⟨vs, e6, l6, st6, w6⟩ := w5.snocP r5
      refine ⟨vs, e6, by rw [l6]; exact hz, wipeE E5 own, Z5, acc ++ [d], ?_, stA.trans (st4.trans (st5.trans st6)), h5, wipeE_un _ _⟩
      rw [← ww]
      exact w6.wipe own
    | false =>
      rw [if_neg Bool.false_ne_true]
      replace h4 := h4.f
      refine ⟨wipeE E3 own, Z3, acc, ?_, stA.trans st4, h4, wipeE_un _ _⟩
      rw [← ww]
      exact w4.wipe own
  · have e : i = ds.length := by omega
    subst e
    refine .inl ⟨wk.stop Z' _ E' H' _ _ st' w' ⟨wipe_out hj0, hold _ _ _ hi'⟩ _ (Nat.le_refl _), post _ E' Z' H' _ (w'.resig (wipe_length σ own).symm fun j s ej hs => ?_) (st1.trans st') (fin acc E' hi' hun)⟩
    have hj : j ∉ own := fun m => by
      rcases hun j m with z | z
      · rw [ej] at z; cases z; exact hs rfl
      · rw [ej] at z; cases z
    exact (wipe_out hj).symm
theorem dn_lcB (j0 : Nat) {elt tg iter : Expr} {ifs : List Expr} {scope : Scope} {own : List (Str × Nat)} {pos : Pos} {t : TIt} {g : TGD} {tt : TB} {te : TD} {gs : List Nat} (hN : X.N.Nodup) (hi : PI X tg iter (tibOf C j0 t)) (ok : BlkOk X.N X.env.scope scope own)
    (hg : ∀ (s : Shared) (H : Hp) (a : Addr) (cl : List (Str × Addr)) (fp : List Addr), DG C (X.blk s H scope (compEnvC scope cl a X.env) fp) gs tg g) (ht : ∀ (s : Shared) (H : Hp) (a : Addr) (cl : List (Str × Addr)) (fp : List Addr), PTs (X.blk s H scope (compEnvC scope cl a X.env) fp) ifs (ttOf C tt))
    (he : ∀ (s : Shared) (H : Hp) (a : Addr) (cl : List (Str × Addr)) (fp : List Addr), DE C (X.blk s H scope (compEnvC scope cl a X.env) fp) elt te) (hc : X.calm = true := by rfl) (hj0 : j0 ∉ own.map (·.2) := by decide) (hgs : ∀ j ∈ gs, j ∈ own.map (·.2) := by decide) (hs : ∀ x, foldedSetIterable iter X.env x = pure x := by intro _; rfl) :
    DN C X (.ListComp elt [⟨tg, iter, ifs, 0⟩] scope pos) (tLcB j0 t g tt te (own.map (·.2))) := (pe_lc hc hN hi ok hg ht he hs).imp (lcB_imp hj0 hgs)
end
end DL
set_option Elab.async false
set_option linter.all false
set_option maxRecDepth 100000
set_option maxHeartbeats 4000000
/-! DL, part f: calls of defs, what a def keeps. -/
namespace DL
open PySem PySem.Spec PyProof.Rows L2

/-- an argument: data, or the tree at a name, lent -/
inductive AM where
  | d (d : D) | m (i : Nat)
abbrev SpD := List S → (S → List S → Prop) → Prop
def argS (E : List S) : AM → S
  | .d d => .fr d
  | .m i => match E[i]? with
    | some (.ow t) => .mu t
    | some (.mu t) => .mu t
    | some (.fr d) => .fr d
    | _ => .un
def msOf : List AM → List Nat
  | [] => []
  | .d _ :: as => msOf as
  | .m i :: as => i :: msOf as
def apart : List Nat → Bool
  | [] => true
  | i :: is => !is.contains i && apart is
def whoAt : List AM → Nat → Option Nat
  | [], _ => none
  | .d _ :: as, j => (whoAt as j).map (· + 1)
  | .m i :: as, j => if i = j then some 0 else (whoAt as j).map (· + 1)
def backAt (as : List AM) (Em : List S) (j : Nat) (s : S) : S := match whoAt as j with
  | none => s
  | some k => match s with
    | .un => .un
    | .fr d => .fr d
    | s => match Em[k]? with
      | some (.mu t) => s.put t
      | _ => .un
def backL (as : List AM) (Em : List S) : Nat → List S → List S
  | _, [] => []
  | j, s :: E => backAt as Em j s :: backL as Em (j + 1) E
theorem backL_length (as : List AM) (Em : List S) : ∀ (j : Nat) (E : List S), (backL as Em j E).length = E.length
  | _, [] => rfl
  | j, s :: E => by rw [backL, List.length_cons, List.length_cons, backL_length as Em (j + 1) E]
theorem backL_get (as : List AM) (Em : List S) : ∀ (j : Nat) (E : List S) (i : Nat), (backL as Em j E)[i]? = E[i]?.map (backAt as Em (j + i))
  | _, [], i => by simp [backL]
  | j, s :: E, 0 => by simp [backL]
  | j, s :: E, i + 1 => by
    rw [backL, List.getElem?_cons_succ, List.getElem?_cons_succ, backL_get as Em (j + 1) E i, show j + 1 + i = j + (i + 1) by omega]
theorem whoAt_some : ∀ {as : List AM} {j k : Nat}, whoAt as j = some k → as[k]? = some (.m j)
  | [], _, _, h => by cases h
  | .d _ :: as, j, k, h => by
    unfold whoAt at h
    cases e : whoAt as j with
    | none => rw [e] at h; cases h
    | some l => rw [e] at h; cases h; rw [List.getElem?_cons_succ]; exact whoAt_some e
  | .m i :: as, j, k, h => by
    unfold whoAt at h
    split at h
    · rename_i q
      cases h
      rw [q]; rfl
    · cases e : whoAt as j with
      | none => rw [e] at h; cases h
      | some l => rw [e] at h; cases h; rw [List.getElem?_cons_succ]; exact whoAt_some e
theorem whoAt_none : ∀ {as : List AM} {j : Nat}, whoAt as j = none → ∀ k : Nat, as[k]? ≠ some (.m j)
  | [], _, _, k, e => by simp at e
  | .d _ :: as, j, h, k, e => by
    unfold whoAt at h
    cases k with
    | zero => simp at e
    | succ k =>
      rw [List.getElem?_cons_succ] at e
      exact whoAt_none (as := as) (by cases q : whoAt as j with | none => rfl | some l => rw [q] at h; cases h) k e
  | .m i :: as, j, h, k, e => by
    unfold whoAt at h
    split at h
    · cases h
    · rename_i q
      cases k with
      | zero => simp at e; exact q e
      | succ k =>
        rw [List.getElem?_cons_succ] at e
        exact whoAt_none (as := as) (by cases q : whoAt as j with | none => rfl | some l => rw [q] at h; cases h) k e
theorem mem_msOf : ∀ {as : List AM} {k i : Nat}, as[k]? = some (.m i) → i ∈ msOf as
  | [], _, _, e => by simp at e
  | .d _ :: as, k, i, e => by
    cases k with
    | zero => simp at e
    | succ k => rw [List.getElem?_cons_succ] at e; exact mem_msOf (as := as) e
  | .m j :: as, k, i, e => by
    cases k with
    | zero => simp at e; subst e; exact List.mem_cons_self
    | succ k => rw [List.getElem?_cons_succ] at e; exact List.mem_cons_of_mem _ (mem_msOf (as := as) e)
theorem apart_inj : ∀ {as : List AM} {k l i : Nat}, apart (msOf as) = true → as[k]? = some (.m i) → as[l]? = some (.m i) → k = l
  | [], _, _, _, _, e, _ => by simp at e
  | .d _ :: as, k, l, i, h, e1, e2 => by
    cases k with
    | zero => simp at e1
    | succ k =>
      cases l with
      | zero => simp at e2
      | succ l =>
        rw [List.getElem?_cons_succ] at e1 e2
        rw [apart_inj (as := as) h e1 e2]
  | .m j :: as, k, l, i, h, e1, e2 => by
    have h' : (!(msOf as).contains j && apart (msOf as)) = true := h
    obtain ⟨h1, h2⟩ := Bool.and_eq_true_iff.mp h'
    have n : j ∉ msOf as := by simpa using h1
    cases k with
    | zero =>
      simp at e1
      subst e1
      cases l with
      | zero => rfl
      | succ l => rw [List.getElem?_cons_succ] at e2; exact absurd (mem_msOf e2) n
    | succ k =>
      rw [List.getElem?_cons_succ] at e1
      cases l with
      | zero =>
        simp at e2
        subst e2
        exact absurd (mem_msOf e1) n
      | succ l =>
        rw [List.getElem?_cons_succ] at e2
        rw [apart_inj (as := as) h2 e1 e2]

theorem backAt_tree {as : List AM} {Em : List S} {j : Nat} {s0 s : S} {u : T} (hu : s0.tree? = some u) (e : backAt as Em j s0 = s) :
    (whoAt as j = none ∧ s0 = s) ∨ (∃ (k : Nat) (t : T), as[k]? = some (AM.m j) ∧ Em[k]? = some (S.mu t) ∧ s0.put t = s) ∨ s = .un := by
  have main : (match whoAt as j with | none => s0 | some k => match Em[k]? with | some (.mu t) => s0.put t | _ => .un) = s := by
    unfold backAt at e
    cases s0 with
    | un => cases hu
    | fr d => cases hu
    | ow t => exact e
    | mu t => exact e
  cases wa : whoAt as j with
  | none => rw [wa] at main; exact .inl ⟨rfl, main⟩
  | some k =>
    rw [wa] at main
    have ek := whoAt_some wa
    have main : (match Em[k]? with | some (.mu t) => s0.put t | _ => .un) = s := main
    split at main
    · rename_i t et
      exact .inr (.inl ⟨k, t, ek, et, main⟩)
    · exact .inr (.inr main.symm)

inductive ArgsOk (K : Frg) (Z : Addr → Prop) (σ : Sg) (H : Hp) : List V → List AM → Prop
  | nil : ArgsOk K Z σ H [] []
  | d {v : V} {vs : List V} {d : D} {as : List AM} : Rep K Z H v d → ArgsOk K Z σ H vs as → ArgsOk K Z σ H (v :: vs) (.d d :: as)
  | m {v : V} {vs : List V} {i : Nat} {as : List AM} : σ[i]? = some (some v) → ArgsOk K Z σ H vs as → ArgsOk K Z σ H (v :: vs) (.m i :: as)
section
variable {K : Frg} {Z Z' : Addr → Prop} {σ : Sg} {H H' : Hp}
theorem ArgsOk.length : ∀ {vs : List V} {as : List AM}, ArgsOk K Z σ H vs as → vs.length = as.length
  | _, _, .nil => rfl
  | _, _, .d _ r => by rw [List.length_cons, List.length_cons, r.length]
  | _, _, .m _ r => by rw [List.length_cons, List.length_cons, r.length]
theorem ArgsOk.atD : ∀ {vs : List V} {as : List AM} {k : Nat} {d : D}, ArgsOk K Z σ H vs as → as[k]? = some (.d d) → ∃ v, vs[k]? = some v ∧ Rep K Z H v d
  | _, _, _, _, .nil, e => by simp at e
  | _, _, 0, _, .d h _, e => by simp at e; subst e; exact ⟨_, rfl, h⟩
  | _, _, 0, _, .m h _, e => by simp at e
  | _, _, k + 1, _, .d _ r, e => by
    rw [List.getElem?_cons_succ] at e ⊢
    exact r.atD e
  | _, _, k + 1, _, .m _ r, e => by
    rw [List.getElem?_cons_succ] at e ⊢
    exact r.atD e
theorem ArgsOk.atM : ∀ {vs : List V} {as : List AM} {k : Nat} {i : Nat}, ArgsOk K Z σ H vs as → as[k]? = some (.m i) → ∃ v, vs[k]? = some v ∧ σ[i]? = some (some v)
  | _, _, _, _, .nil, e => by simp at e
  | _, _, 0, _, .d h _, e => by simp at e
  | _, _, 0, _, .m h _, e => by simp at e; subst e; exact ⟨_, rfl, h⟩
  | _, _, k + 1, _, .d _ r, e => by
    rw [List.getElem?_cons_succ] at e ⊢
    exact r.atM e
  | _, _, k + 1, _, .m _ r, e => by
    rw [List.getElem?_cons_succ] at e ⊢
    exact r.atM e
end

/-- what a def promises, over data: at the entry the arguments' places; Qd of the result and of what became of the trees -/
def spD (K : Frg) (n : Nat) (sd : SpD) : Sp := fun vs H Q _ => ∃ (Z : Addr → Prop) (args : List S) (F : Foot) (Qd : S → List S → Prop), vs.length = n ∧ Slots K Z H (vs.map some) args F ∧ (∀ i a, a ∈ F i → ¬ Z a) ∧ (∀ a, Z a → H a ≠ none) ∧ (∀ (i : Nat) t, args[i]? ≠ some (.ow t)) ∧ sd args Qd ∧
  ∀ r Em Z' H' v, ResAt ⟨K, H, F, Z, vs, Z, H⟩ [] [] Z' (vs.map some) Em H' v r → Qd r Em → Q v H'

section
variable {C : Ctx} {ps : Sg} {Ep : List S} {Z Z' : Addr → Prop} {σ : Sg} {E : List S} {H H' : Hp} {F : Foot}
/-- a callee's world goes on from the caller's -/
theorem WdF.stp {C' : Ctx} {F' : Foot} {σ' : Sg} {E' : List S} {Z0 : Addr → Prop} {H0 : Hp} (e1 : C'.Z0 = Z0) (e2 : C'.H0 = H0) (nz : ∀ i a, a ∈ C'.Fm i → ¬ Z0 a) (kd : ∀ i a, a ∈ C'.Fm i → ∃ o, H0 a = some o ∧ MutK o) (zt : ∀ a, Z0 a → H0 a ≠ none) (w : WdF C' Z' σ' E' H' F') : Stp Z0 H0 Z' H' := by
  subst e1 e2
  refine ⟨w.z0, fun a z => ?_, fun a xs h => ?_, fun a o u h => ?_⟩
  · cases q : C'.H0 a with
    | none => exact absurd q (zt a z)
    | some o => exact w.fr a o q fun i hi => nz i a hi z
  · refine w.fr a _ h fun i hi => ?_
    obtain ⟨o, e, k⟩ := kd i a hi
    rw [h] at e; cases e; exact k
  · refine w.fr a _ h fun i hi => ?_
    obtain ⟨o, e, k⟩ := kd i a hi
    rw [h] at e; cases e; exact k
/-- the footprints that are lent -/
def lent (as : List AM) (E : List S) (F : Foot) : Foot := fun k => match as[k]? with
  | some (.m i) => (match E[i]? with | some (.ow _) => F i | some (.mu _) => F i | _ => [])
  | _ => []
theorem mem_lent {as : List AM} {k : Nat} {a : Addr} (h : a ∈ lent as E F k) : ∃ i s t, as[k]? = some (.m i) ∧ E[i]? = some s ∧ s.tree? = some t ∧ argS E (.m i) = .mu t ∧ a ∈ F i := by
  unfold lent at h
  split at h
  · rename_i i e
    split at h
    · rename_i t e2
      exact ⟨i, _, t, e, e2, rfl, by simp only [argS, e2], h⟩
    · rename_i t e2
      exact ⟨i, _, t, e, e2, rfl, by simp only [argS, e2], h⟩
    · cases h
  · cases h
theorem lent_of {as : List AM} {k i : Nat} {s : S} {t : T} (e : as[k]? = some (.m i)) (e2 : E[i]? = some s) (et : s.tree? = some t) : lent as E F k = F i := by
  unfold lent
  rw [e]
  cases s with
  | un => cases et
  | fr d => cases et
  | ow t => simp only [e2]
  | mu t => simp only [e2]
/-- THE CALL: the caller's places behind it -/
theorem call_go {as : List AM} {vs : List V} (w : WdF C Z (σ ++ ps) (E ++ Ep) H F) (hl : σ.length = E.length) (ok : ArgsOk C.K Z σ H vs as) (ap : apart (msOf as) = true) :
    Slots C.K Z H (vs.map some) (as.map (argS E)) (lent as E F) ∧ (∀ i a, a ∈ lent as E F i → ¬ Z a) ∧
    ∀ (r : S) Em Z' H' v, ResAt ⟨C.K, H, lent as E F, Z, vs, Z, H⟩ [] [] Z' (vs.map some) Em H' v r → Stp Z H Z' H' ∧ ResAt C ps Ep Z' σ (backL as Em 0 E) H' v r := by
  have hlen := ok.length
  have eF : ∀ {i : Nat} {s : S}, E[i]? = some s → SRep C.K Z H (σ.getD i none) s (F i) := fun {i s} e => by
    have q := w.sl.rep i s (up_get e)
    rw [getD_left (by rw [hl]; exact (List.getElem?_eq_some_iff.mp e).1)] at q
    exact q
  have nzl : ∀ i a, a ∈ lent as E F i → ¬ Z a := fun k a h => by
    obtain ⟨i, s, t, _, _, _, _, m⟩ := mem_lent h
    exact w.nz i a m
  have kdl : ∀ i a, a ∈ lent as E F i → ∃ o, H a = some o ∧ MutK o := fun k a h => by
    obtain ⟨i, s, t, _, _, _, _, m⟩ := mem_lent h
    exact w.kind m
  have gv : ∀ {k : Nat} {v : V}, vs[k]? = some v → (vs.map some).getD k none = some v := fun {k v} e => by
    rw [List.getD_eq_getElem?_getD, List.getElem?_map, e]; rfl
  refine ⟨⟨by rw [List.length_map, List.length_map, hlen], fun k s e => ?_, fun k hk => ?_, fun k => ?_, fun k l a h1 h2 => ?_⟩, nzl, fun r Em Z' H' v R => ?_⟩
  · rw [List.getElem?_map] at e
    cases ea : as[k]? with
    | none => rw [ea] at e; cases e
    | some x =>
      rw [ea] at e
      cases e
      cases x with
      | d d =>
        obtain ⟨v, e1, rv⟩ := ok.atD ea
        refine ⟨?_, v, gv e1, rv⟩
        unfold lent; rw [ea]
      | m i =>
        obtain ⟨v, e1, e2⟩ := ok.atM ea
        have e2' := of_getD e2
        show SRep C.K Z H _ (argS E (.m i)) _
        unfold argS lent
        rw [ea]
        dsimp only
        cases ei : E[i]? with
        | none => exact rfl
        | some s =>
          have q := eF ei
          cases s with
          | un => exact rfl
          | fr d =>
            obtain ⟨q1, u, q2, q3⟩ := q
            rw [e2'] at q2
            cases q2
            exact ⟨rfl, v, gv e1, q3⟩
          | ow t =>
            obtain ⟨u, q2, q3⟩ := q
            rw [e2'] at q2
            cases q2
            exact ⟨v, gv e1, q3⟩
          | mu t =>
            obtain ⟨u, q2, q3⟩ := q
            rw [e2'] at q2
            cases q2
            exact ⟨v, gv e1, q3⟩
  · rw [List.length_map] at hk
    unfold lent
    rw [List.getElem?_eq_none hk]
  · unfold lent
    split
    · split
      · exact w.sl.nd _
      · exact w.sl.nd _
      · exact List.nodup_nil
    · exact List.nodup_nil
  · obtain ⟨i, _, _, e1, _, _, _, m1⟩ := mem_lent h1
    obtain ⟨j, _, _, e2, _, _, _, m2⟩ := mem_lent h2
    have := w.sl.dj i j a m1 m2
    subst this
    exact apart_inj ap e1 e2
  · -- the end
    have main : ∀ (pv : Sg) (pe : List S), pv.length = pe.length → (∀ (l : Nat) s, pe[l]? = some s → ∃ t, s = .ow t) → Wd ⟨C.K, H, lent as E F, Z, vs, Z, H⟩ Z' (vs.map some ++ pv) (Em ++ pe) H' → (vs.map some).length = Em.length →
        Stp Z H Z' H' ∧ Wd C Z' (σ ++ (ps ++ pv)) (backL as Em 0 E ++ (Ep ++ pe)) H' := by
      intro pv pe hp hpe ⟨F', f⟩ hle
      have st : Stp Z H Z' H' := WdF.stp (C' := ⟨C.K, H, lent as E F, Z, vs, Z, H⟩) rfl rfl nzl kdl w.zt f
      have keepF : ∀ j a, a ∈ F j → (∀ k : Nat, as[k]? ≠ some (AM.m j)) → H' a = H a := fun j a ha hn => by
        obtain ⟨o, e, _⟩ := w.kind ha
        rw [e]
        refine f.fr a o e fun k hk => ?_
        obtain ⟨i, _, _, e1, _, _, _, m⟩ := mem_lent hk
        have := w.sl.dj i j a m ha
        subst this
        exact hn k e1
      have nz1 : ∀ j a, a ∈ F j → ¬ Z' a := fun j a ha z => by
        rcases f.zn a z with z | z
        · exact w.nz j a ha z
        · obtain ⟨o, e, _⟩ := w.kind ha
          have z : H a = none := z
          rw [e] at z; cases z
      have old : ∀ j a, a ∈ F j → H a ≠ none := fun j a ha => by
        obtain ⟨o, e, _⟩ := w.kind ha
        rw [e]; intro q; cases q
      -- the pieces: a place not lent; lent; pending of old; of new
      have lE : (E ++ Ep).length = E.length + Ep.length := List.length_append
      have lV : (vs.map some).length = vs.length := List.length_map _
      have lent_mu : ∀ {k i : Nat} {t : T}, as[k]? = some (.m i) → Em[k]? = some (S.mu t) → ∀ a, a ∈ F' k → (∃ s u, E[i]? = some s ∧ s.tree? = some u ∧ a ∈ F i) ∨ H a = none := fun {k i t} e1 e2 a ha => by
        rcases f.mum k t a (up_get e2) ha with z | z
        · obtain ⟨i', s, u, e3, e4, e5, _, m⟩ := mem_lent z
          rw [e1] at e3
          cases e3
          exact .inl ⟨s, u, e4, e5, m⟩
        · exact .inr z
      have pos : ∀ (j : Nat) s, (backL as Em 0 E ++ (Ep ++ pe))[j]? = some s →
          (s = .un) ∨ ((E ++ Ep)[j]? = some s ∧ (∀ k : Nat, as[k]? ≠ some (AM.m j)) ∧ j < (E ++ Ep).length) ∨ ((∃ d, E[j]? = some (.fr d) ∧ s = .fr d)) ∨ (∃ (k : Nat) (s0 : S) (t : T) (u : T), as[k]? = some (AM.m j) ∧ E[j]? = some s0 ∧ s0.tree? = some u ∧ Em[k]? = some (S.mu t) ∧ s = s0.put t) ∨
          (∃ (l : Nat) (t : T), j = (E ++ Ep).length + l ∧ pe[l]? = some (S.ow t) ∧ s = .ow t) ∨ (E.length ≤ j ∧ j < (E ++ Ep).length ∧ (E ++ Ep)[j]? = some s) := by
        intro j s e
        by_cases h1 : j < E.length
        · rw [List.getElem?_append_left (by rw [backL_length]; exact h1), backL_get, Nat.zero_add, List.getElem?_eq_getElem h1, Option.map_some] at e
          have e0 : E[j]? = some E[j] := List.getElem?_eq_getElem h1
          generalize E[j] = s0 at e e0
          have e := Option.some.inj e
          cases hu : s0.tree? with
          | none =>
            cases s0 with
            | un =>
              have e : backAt as Em j .un = s := e
              unfold backAt at e
              split at e <;> exact .inl e.symm
            | fr d =>
              have e : backAt as Em j (.fr d) = s := e
              unfold backAt at e
              split at e <;> exact .inr (.inr (.inl ⟨d, e0, e.symm⟩))
            | ow t => cases hu
            | mu t => cases hu
          | some u =>
            rcases backAt_tree hu e with ⟨wa, e⟩ | ⟨k, t, ek, et, e⟩ | e
            · subst e
              exact .inr (.inl ⟨up_get e0, whoAt_none wa, by rw [lE]; omega⟩)
            · exact .inr (.inr (.inr (.inl ⟨k, s0, t, u, ek, e0, hu, et, e.symm⟩)))
            · exact .inl e
        · rw [List.getElem?_append_right (by rw [backL_length]; omega), backL_length] at e
          by_cases h2 : j < (E ++ Ep).length
          · rw [List.getElem?_append_left (by omega)] at e
            refine .inr (.inr (.inr (.inr (.inr ⟨by omega, h2, ?_⟩))))
            rw [List.getElem?_append_right (by omega)]
            exact e
          · rw [List.getElem?_append_right (by omega)] at e
            obtain ⟨t, et⟩ := hpe _ s e
            refine .inr (.inr (.inr (.inr (.inl ⟨j - E.length - Ep.length, t, by omega, ?_, et⟩))))
            rw [e, et]
      -- the new footprints
      let G : Foot := fun j => match (backL as Em 0 E ++ (Ep ++ pe))[j]? with
        | none => []
        | some .un => []
        | some (.fr _) => []
        | some _ => if j < (E ++ Ep).length then (if j < E.length then (match whoAt as j with | none => F j | some k => F' k) else F j) else F' (vs.length + (j - (E ++ Ep).length))
      have hlσ : (σ ++ (ps ++ pv)).length = (backL as Em 0 E ++ (Ep ++ pe)).length := by
        have := w.sl.len
        simp only [List.length_append, backL_length] at this ⊢
        omega
      have lps : ps.length = Ep.length := by
        have := w.sl.len
        simp only [List.length_append] at this
        omega
      have tree_put : ∀ {s : S} {t u : T}, s.tree? = some u → ((∃ x, s = .ow x ∧ s.put t = .ow t) ∨ (∃ x, s = .mu x ∧ s.put t = .mu t)) := fun {s t u} h => by
        cases s with
        | un => cases h
        | fr d => cases h
        | ow x => exact .inl ⟨x, rfl, rfl⟩
        | mu x => exact .inr ⟨x, rfl, rfl⟩
      -- what G is
      have Gold : ∀ {j : Nat} {s : S}, (backL as Em 0 E ++ (Ep ++ pe))[j]? = some s → (E ++ Ep)[j]? = some s → (∀ k : Nat, as[k]? ≠ some (AM.m j)) ∨ E.length ≤ j → j < (E ++ Ep).length → G j = F j ∨ (G j = [] ∧ F j = []) := fun {j s} e e0 hn hj => by
        have z := w.sl.rep j s e0
        show (match (backL as Em 0 E ++ (Ep ++ pe))[j]? with | none => [] | some .un => [] | some (.fr _) => [] | some _ => if j < (E ++ Ep).length then (if j < E.length then (match whoAt as j with | none => F j | some k => F' k) else F j) else F' (vs.length + (j - (E ++ Ep).length))) = F j ∨ _
        have inner : (if j < (E ++ Ep).length then (if j < E.length then (match whoAt as j with | none => F j | some k => F' k) else F j) else F' (vs.length + (j - (E ++ Ep).length))) = F j := by
          rw [if_pos hj]
          split
          · rcases hn with hn | hn
            · cases wa : whoAt as j with
              | none => rfl
              | some k => exact absurd (whoAt_some wa) (hn k)
            · omega
          · rfl
        cases s with
        | un => rw [e]; exact .inl (show [] = F j from (show F j = [] from z).symm)
        | fr d => rw [e]; exact .inl (show [] = F j from z.1.symm)
        | ow t => rw [e]; exact .inl inner
        | mu t => rw [e]; exact .inl inner
      have Glent : ∀ {j k : Nat} {s0 : S} {t u : T}, (backL as Em 0 E ++ (Ep ++ pe))[j]? = some (s0.put t) → as[k]? = some (.m j) → E[j]? = some s0 → s0.tree? = some u → G j = F' k := fun {j k s0 t u} e ek e0 hu => by
        have hj := (List.getElem?_eq_some_iff.mp e0).1
        have wk : whoAt as j = some k := by
          cases wa : whoAt as j with
          | none => exact absurd ek (whoAt_none wa k)
          | some k' => rw [apart_inj ap (whoAt_some wa) ek]
        show (match (backL as Em 0 E ++ (Ep ++ pe))[j]? with | none => [] | some .un => [] | some (.fr _) => [] | some _ => if j < (E ++ Ep).length then (if j < E.length then (match whoAt as j with | none => F j | some k => F' k) else F j) else F' (vs.length + (j - (E ++ Ep).length))) = F' k
        rw [e]
        have inner : (if j < (E ++ Ep).length then (if j < E.length then (match whoAt as j with | none => F j | some k => F' k) else F j) else F' (vs.length + (j - (E ++ Ep).length))) = F' k := by
          rw [if_pos (by rw [lE]; omega), if_pos hj, wk]
        rcases tree_put (t := t) hu with ⟨x, _, q⟩ | ⟨x, _, q⟩ <;> (rw [q]; exact inner)
      have Gnew : ∀ {j l : Nat} {t : T}, (backL as Em 0 E ++ (Ep ++ pe))[j]? = some (.ow t) → j = (E ++ Ep).length + l → G j = F' (vs.length + l) := fun {j l t} e ej => by
        show (match (backL as Em 0 E ++ (Ep ++ pe))[j]? with | none => [] | some .un => [] | some (.fr _) => [] | some _ => if j < (E ++ Ep).length then (if j < E.length then (match whoAt as j with | none => F j | some k => F' k) else F j) else F' (vs.length + (j - (E ++ Ep).length))) = _
        rw [e]
        show (if j < (E ++ Ep).length then _ else F' (vs.length + (j - (E ++ Ep).length))) = _
        rw [if_neg (by omega), ej, Nat.add_sub_cancel_left]
      have Gun : ∀ {j : Nat}, (backL as Em 0 E ++ (Ep ++ pe))[j]? = some .un → G j = [] := fun {j} e => by
        show (match (backL as Em 0 E ++ (Ep ++ pe))[j]? with | none => [] | some .un => [] | some (.fr _) => [] | some _ => if j < (E ++ Ep).length then (if j < E.length then (match whoAt as j with | none => F j | some k => F' k) else F j) else F' (vs.length + (j - (E ++ Ep).length))) = _
        rw [e]
      have Gfr : ∀ {j : Nat} {d : D}, (backL as Em 0 E ++ (Ep ++ pe))[j]? = some (.fr d) → G j = [] := fun {j d} e => by
        show (match (backL as Em 0 E ++ (Ep ++ pe))[j]? with | none => [] | some .un => [] | some (.fr _) => [] | some _ => if j < (E ++ Ep).length then (if j < E.length then (match whoAt as j with | none => F j | some k => F' k) else F j) else F' (vs.length + (j - (E ++ Ep).length))) = _
        rw [e]
      have Gout : ∀ {j : Nat}, (backL as Em 0 E ++ (Ep ++ pe)).length ≤ j → G j = [] := fun {j} hj => by
        show (match (backL as Em 0 E ++ (Ep ++ pe))[j]? with | none => [] | some .un => [] | some (.fr _) => [] | some _ => if j < (E ++ Ep).length then (if j < E.length then (match whoAt as j with | none => F j | some k => F' k) else F j) else F' (vs.length + (j - (E ++ Ep).length))) = _
        rw [List.getElem?_eq_none hj]
      -- where an address of G j comes from
      have src : ∀ (j : Nat) a, a ∈ G j → (a ∈ F j ∧ ((∀ k : Nat, as[k]? ≠ some (AM.m j)) ∨ E.length ≤ j)) ∨ (∃ (k : Nat) (t : T), as[k]? = some (AM.m j) ∧ Em[k]? = some (S.mu t) ∧ a ∈ F' k) ∨ (∃ (l : Nat) (t : T), j = (E ++ Ep).length + l ∧ pe[l]? = some (S.ow t) ∧ a ∈ F' (vs.length + l)) := fun j a ha => by
        by_cases hj : j < (backL as Em 0 E ++ (Ep ++ pe)).length
        · have e := List.getElem?_eq_getElem hj
          generalize (backL as Em 0 E ++ (Ep ++ pe))[j] = s at e
          rcases pos j s e with q | ⟨q1, q2, q3⟩ | ⟨d, q1, q2⟩ | ⟨k, s0, t, u, q1, q2, q3, q4, q5⟩ | ⟨l, t, q1, q2, q3⟩ | ⟨q1, q2, q3⟩
          · subst q; rw [Gun e] at ha; cases ha
          · rcases Gold e q1 (.inl q2) q3 with z | z
            · rw [z] at ha; exact .inl ⟨ha, .inl q2⟩
            · rw [z.1] at ha; cases ha
          · subst q2; rw [Gfr e] at ha; cases ha
          · subst q5; rw [Glent e q1 q2 q3] at ha; exact .inr (.inl ⟨k, t, q1, q4, ha⟩)
          · subst q3; rw [Gnew e q1] at ha; exact .inr (.inr ⟨l, t, q1, q2, ha⟩)
          · rcases Gold e q3 (.inr q1) q2 with z | z
            · rw [z] at ha; exact .inl ⟨ha, .inr q1⟩
            · rw [z.1] at ha; cases ha
        · rw [Gout (by omega)] at ha; cases ha
      have pend : ∀ {l : Nat} {t : T}, pe[l]? = some (S.ow t) → (Em ++ pe)[vs.length + l]? = some (.ow t) := fun {l t} e => by
        rw [List.getElem?_append_right (by omega), show vs.length + l - Em.length = l by omega]
        exact e
      have fresh : ∀ {k : Nat} {a : Addr}, a ∈ F' k → (∃ i, a ∈ F i ∧ as[k]? = some (.m i)) ∨ H a = none ∨ (∀ s, (Em ++ pe)[k]? = some s → s.tree? = none) := fun {k a} ha => by
        by_cases hk : k < (Em ++ pe).length
        · have e := List.getElem?_eq_getElem hk
          generalize (Em ++ pe)[k] = s at e
          cases s with
          | un => exact .inr (.inr fun s q => by rw [e] at q; cases q; rfl)
          | fr d => exact .inr (.inr fun s q => by rw [e] at q; cases q; rfl)
          | ow t => exact .inr (.inl (f.own k t a e ha))
          | mu t =>
            rcases f.mum k t a e ha with z | z
            · obtain ⟨i, s, u, e3, e4, e5, _, m⟩ := mem_lent z
              exact .inl ⟨i, m, e3⟩
            · exact .inr (.inl z)
        · rw [f.sl.out k (by omega)] at ha; cases ha
      refine ⟨st, G, ⟨⟨hlσ, fun j s e => ?_, fun j hj => Gout hj, fun j => ?_, fun j l a h1 h2 => ?_⟩, fun j a ha => ?_, fun j t a e ha => ?_, fun j t a e ha => ?_, fun j t e => ?_, fun b o e0 n => ?_, fun a h => st.zz a (w.z0 a h), fun a h => ?_, f.zt, fun b h => f.kt b (w.kt b h), w.fl.trans st⟩⟩
      · -- rep
        rcases pos j s e with q | ⟨q1, q2, q3⟩ | ⟨d, q1, q2⟩ | ⟨k, s0, t, u, q1, q2, q3, q4, q5⟩ | ⟨l, t, q1, q2, q3⟩ | ⟨q1, q2, q3⟩
        · subst q; exact Gun e
        · have z := (w.sl.rep j s q1).mono st fun a ha => keepF j a ha q2
          rw [show (σ ++ (ps ++ pv)).getD j none = (σ ++ ps).getD j none by rw [← List.append_assoc, getD_left (by rw [List.length_append]; omega)]]
          rcases Gold e q1 (.inl q2) q3 with y | y
          · rw [y]; exact z
          · rw [y.1]; rw [y.2] at z; exact z
        · subst q2
          have z := (w.sl.rep j _ (up_get q1)).mono st fun a ha => by
            have := (w.sl.rep j _ (up_get (Ep := Ep) q1)).1
            rw [this] at ha; cases ha
          have hj := (List.getElem?_eq_some_iff.mp q1).1
          rw [show (σ ++ (ps ++ pv)).getD j none = (σ ++ ps).getD j none by rw [← List.append_assoc, getD_left (by rw [List.length_append]; omega)]]
          rw [Gfr e]
          exact ⟨rfl, z.2⟩
        · subst q5
          rw [Glent e q1 q2 q3]
          have z := f.sl.rep k _ (up_get q4)
          obtain ⟨v', y1, y2⟩ := ok.atM q1
          rw [getD_left (by rw [lV]; exact (List.getElem?_eq_some_iff.mp y1).1), gv y1] at z
          obtain ⟨x, x1, x2⟩ := z
          cases x1
          have hj := (List.getElem?_eq_some_iff.mp q2).1
          rw [getD_left (by omega), of_getD y2]
          rcases tree_put (t := t) q3 with ⟨x, _, q⟩ | ⟨x, _, q⟩ <;> (rw [q]; exact ⟨v', rfl, x2⟩)
        · subst q3
          rw [Gnew e q1]
          have z := f.sl.rep _ _ (pend q2)
          rw [getD_right (by rw [lV]; omega), lV, Nat.add_sub_cancel_left] at z
          rw [← List.append_assoc, getD_right (by rw [List.length_append]; omega), show j - (σ ++ ps).length = l by rw [List.length_append]; omega]
          exact z
        · have hn : ∀ k : Nat, as[k]? ≠ some (AM.m j) := fun k ek => by
            obtain ⟨v', _, y2⟩ := ok.atM ek
            have := (List.getElem?_eq_some_iff.mp y2).1
            omega
          have z := (w.sl.rep j s q3).mono st fun a ha => keepF j a ha hn
          rw [show (σ ++ (ps ++ pv)).getD j none = (σ ++ ps).getD j none by rw [← List.append_assoc, getD_left (by rw [List.length_append]; omega)]]
          rcases Gold e q3 (.inr q1) q2 with y | y
          · rw [y]; exact z
          · rw [y.1]; rw [y.2] at z; exact z
      · -- nodup
        show (match (backL as Em 0 E ++ (Ep ++ pe))[j]? with | none => [] | some .un => [] | some (.fr _) => [] | some _ => if j < (E ++ Ep).length then (if j < E.length then (match whoAt as j with | none => F j | some k => F' k) else F j) else F' (vs.length + (j - (E ++ Ep).length))).Nodup
        split
        · exact List.nodup_nil
        · exact List.nodup_nil
        · exact List.nodup_nil
        · split
          · split
            · split
              · exact w.sl.nd _
              · exact f.sl.nd _
            · exact w.sl.nd _
          · exact f.sl.nd _
      · -- disjoint
        have cross : ∀ {j l : Nat}, a ∈ F j → ((∀ k : Nat, as[k]? ≠ some (AM.m j)) ∨ E.length ≤ j) → ((∃ (k : Nat) (t : T), as[k]? = some (AM.m l) ∧ Em[k]? = some (S.mu t) ∧ a ∈ F' k) ∨ (∃ (m : Nat) (t : T), l = (E ++ Ep).length + m ∧ pe[m]? = some (S.ow t) ∧ a ∈ F' (vs.length + m))) → False := fun {j l} h1 hn h2 => by
          have hn : ∀ k : Nat, as[k]? ≠ some (AM.m j) := by
            rcases hn with hn | hn
            · exact hn
            · intro k ek
              obtain ⟨v', _, y2⟩ := ok.atM ek
              have := (List.getElem?_eq_some_iff.mp y2).1
              omega
          rcases h2 with ⟨k, t, e1, e2, h2⟩ | ⟨m, t, e1, e2, h2⟩
          · rcases lent_mu e1 e2 a h2 with ⟨s, u, _, _, z⟩ | z
            · have := w.sl.dj _ _ a h1 z
              subst this
              exact hn k e1
            · exact old j a h1 z
          · exact old j a h1 (f.own _ t a (pend e2) h2)
        rcases src j a h1 with ⟨m1, n1⟩ | r1
        · rcases src l a h2 with ⟨m2, n2⟩ | r2
          · exact w.sl.dj j l a m1 m2
          · exact (cross m1 n1 r2).elim
        · rcases src l a h2 with ⟨m2, n2⟩ | r2
          · exact (cross m2 n2 r1).elim
          · rcases r1 with ⟨k, t, e1, e2, m1⟩ | ⟨m, t, e1, e2, m1⟩
            · rcases r2 with ⟨k', t', e1', e2', m1'⟩ | ⟨m', t', e1', e2', m1'⟩
              · have := f.sl.dj _ _ a m1 m1'
                subst this
                rw [e1] at e1'
                cases e1'
                rfl
              · have := f.sl.dj _ _ a m1 m1'
                have hk := (List.getElem?_eq_some_iff.mp e2).1
                omega
            · rcases r2 with ⟨k', t', e1', e2', m1'⟩ | ⟨m', t', e1', e2', m1'⟩
              · have := f.sl.dj _ _ a m1 m1'
                have hk := (List.getElem?_eq_some_iff.mp e2').1
                omega
              · have := f.sl.dj _ _ a m1 m1'
                omega
      · -- not frozen
        rcases src j a ha with ⟨m1, _⟩ | ⟨k, t, _, _, m1⟩ | ⟨l, t, _, _, m1⟩
        · exact nz1 j a m1
        · exact f.nz _ a m1
        · exact f.nz _ a m1
      · -- own
        have hw : H a = none → C.H0 a = none := fun z => Classical.byContradiction fun n => w.kt a n z
        rcases pos j _ e with q | ⟨q1, q2, q3⟩ | ⟨d, q1, q2⟩ | ⟨k, s0, t', u, q1, q2, q3, q4, q5⟩ | ⟨l, t', q1, q2, q3⟩ | ⟨q1, q2, q3⟩
        · cases q
        · rcases Gold e q1 (.inl q2) q3 with z | z
          · rw [z] at ha; exact w.own j t a q1 ha
          · rw [z.1] at ha; cases ha
        · cases q2
        · rw [q5] at e
          rw [Glent e q1 q2 q3] at ha
          rcases lent_mu q1 q4 a ha with ⟨s, u', e4, e5, z⟩ | z
          · rw [q2] at e4
            cases e4
            cases s0 with
            | un => cases q3
            | fr d => cases q3
            | ow x => exact w.own j x a (up_get q2) z
            | mu x => cases q5
          · exact hw z
        · rw [Gnew e q1] at ha
          exact hw (f.own _ _ a (pend q2) ha)
        · rcases Gold e q3 (.inr q1) q2 with z | z
          · rw [z] at ha; exact w.own j t a q3 ha
          · rw [z.1] at ha; cases ha
      · -- mum
        have hw : H a = none → C.H0 a = none := fun z => Classical.byContradiction fun n => w.kt a n z
        rcases pos j _ e with q | ⟨q1, q2, q3⟩ | ⟨d, q1, q2⟩ | ⟨k, s0, t', u, q1, q2, q3, q4, q5⟩ | ⟨l, t', q1, q2, q3⟩ | ⟨q1, q2, q3⟩
        · cases q
        · rcases Gold e q1 (.inl q2) q3 with z | z
          · rw [z] at ha; exact w.mum j t a q1 ha
          · rw [z.1] at ha; cases ha
        · cases q2
        · rw [q5] at e
          rw [Glent e q1 q2 q3] at ha
          rcases lent_mu q1 q4 a ha with ⟨s, u', e4, e5, z⟩ | z
          · rw [q2] at e4
            cases e4
            cases s0 with
            | un => cases q3
            | fr d => cases q3
            | ow x => cases q5
            | mu x => exact w.mum j x a (up_get q2) z
          · exact .inr (hw z)
        · cases q3
        · rcases Gold e q3 (.inr q1) q2 with z | z
          · rw [z] at ha; exact w.mum j t a q3 ha
          · rw [z.1] at ha; cases ha
      · -- mus
        have up2 : ∀ {x : V}, j < (E ++ Ep).length → (σ ++ ps)[j]? = some (some x) → (σ ++ (ps ++ pv))[j]? = some (some x) := fun {x} hj e => by
          rw [← List.append_assoc, List.getElem?_append_left (by rw [List.length_append]; omega)]
          exact e
        rcases pos j _ e with q | ⟨q1, q2, q3⟩ | ⟨d, q1, q2⟩ | ⟨k, s0, t', u, q1, q2, q3, q4, q5⟩ | ⟨l, t', q1, q2, q3⟩ | ⟨q1, q2, q3⟩
        · cases q
        · obtain ⟨x, x1, x2⟩ := w.mus j t q1
          exact ⟨x, x1, up2 q3 x2⟩
        · cases q2
        · cases s0 with
          | un => cases q3
          | fr d => cases q3
          | ow x => cases q5
          | mu x =>
            obtain ⟨y, y1, y2⟩ := w.mus j x (up_get q2)
            exact ⟨y, y1, up2 (by have := (List.getElem?_eq_some_iff.mp q2).1; omega) y2⟩
        · cases q3
        · obtain ⟨x, x1, x2⟩ := w.mus j t q3
          exact ⟨x, x1, up2 q2 x2⟩
      · -- frame
        refine f.fr b o (w.fr b o e0 n) fun k hk => ?_
        obtain ⟨i, s, t, _, e4, e5, _, m⟩ := mem_lent hk
        cases s with
        | un => cases e5
        | fr d => cases e5
        | ow x =>
          have := w.own i x b (up_get e4) m
          rw [e0] at this; cases this
        | mu x =>
          rcases w.mum i x b (up_get e4) m with z | z
          · exact n i z
          · rw [e0] at z; cases z
      · -- zn
        rcases f.zn a h with z | z
        · exact w.zn a z
        · exact .inr (Classical.byContradiction fun n => w.kt a n z)
    have lb : σ.length = (backL as Em 0 E).length := by rw [backL_length]; exact hl
    cases r with
    | un => cases R
    | mu t => cases R
    | fr d =>
      obtain ⟨⟨wl, wd⟩, rv⟩ := R
      obtain ⟨st, q⟩ := main [] [] rfl (fun l s e => by simp at e) wd wl
      rw [List.append_nil, List.append_nil] at q
      exact ⟨st, ⟨lb, q⟩, rv⟩
    | ow t =>
      obtain ⟨wl, wd⟩ := R
      obtain ⟨st, q⟩ := main [some v] [.ow t] rfl (fun l s e => by
        cases l with
        | zero => cases e; exact ⟨t, rfl⟩
        | succ l => simp at e) wd wl
      exact ⟨st, lb, q⟩
end
end DL
set_option Elab.async false
set_option linter.all false
set_option maxRecDepth 100000
set_option maxHeartbeats 4000000
/-! DL, part g: arguments, calls of defs as rules, the rule for a def. -/
namespace DL
open PySem PySem.Spec PyProof.Rows L2

abbrev TAm := List S → (List AM → List S → Prop) → Prop
def tamOf (C : Ctx) (n : Nat) (t : TAm) : TA := fun σ H Q => ∃ ps Ep E Z Qd, At C ps Ep Z σ E H ∧ t E Qd ∧ ∀ as E' Z' H' vs, At C ps Ep Z' σ E' H' → Stp Z H Z' H' → ArgsOk C.K Z' σ H' vs as → as.length = n → Qd as E' → Q vs H'
abbrev DM (C : Ctx) (X : Cx) (es : List Expr) (t : TAm) : Prop := PA X es (tamOf C es.length t)
section
variable {C : Ctx} {X : Cx} {pos : Pos}
theorem ArgsOk.mono {K : Frg} {Z Z' : Addr → Prop} {σ : Sg} {H H' : Hp} (st : Stp Z H Z' H') : ∀ {vs : List V} {as : List AM}, ArgsOk K Z σ H vs as → ArgsOk K Z' σ H' vs as
  | _, _, .nil => .nil
  | _, _, .d r h => .d (r.mono st) (h.mono st)
  | _, _, .m e h => .m e (h.mono st)
def tmNil : TAm := fun E Q => Q [] E
def tmD (t : TD) (u : TAm) : TAm := fun E Q => t E fun d E1 => u E1 fun as E2 => Q (.d d :: as) E2
def tmM (i : Nat) (u : TAm) : TAm := fun E Q => (match E[i]? with | some s => s.knownB = true | none => False) ∧ u E fun as E1 => Q (.m i :: as) E1
theorem dm_nil : DM C X [] tmNil := pa_nil.imp fun σ H Q ⟨ps, Ep, E, Z, Qd, w, h, post⟩ => post [] E Z H [] w (Stp.refl _ _) .nil rfl h
theorem dm_d {e : Expr} {es : List Expr} {t : TD} {u : TAm} (ha : DE C X e t) (hr : DM C X es u) (hs : starEach (e :: es) X.env = (false, eval e X.env) :: starEach es X.env := by rfl) : DM C X (e :: es) (tmD t u) :=
  (pa_cons ha hr hs).imp fun σ H Q ⟨ps, Ep, E, Z, Qd, w, h, post⟩ => ⟨ps, Ep, E, Z, _, w, h, fun d E1 Z1 H1 v w1 st1 r1 h1 => ⟨ps, Ep, E1, Z1, _, w1, h1, fun as E2 Z2 H2 vs w2 st2 r2 n h2 =>
    post _ E2 Z2 H2 _ w2 (st1.trans st2) (.d (r1.mono st2) r2) (by rw [List.length_cons, List.length_cons, n]) h2⟩⟩
theorem dm_m (i : Nat) {x : Str} {es : List Expr} {u : TAm} {pos' : Pos} (hr : DM C X es u) (hN : X.N[i]? = some x := by rfl) (hv : Vis X.env.scope x := by first | exact Or.inl rfl | exact Or.inr (Or.inl rfl) | exact Or.inr (Or.inr rfl)) (hd : (x == ("__debug__" : Str)) = false := by decide)
    (hcd : (x == ("__classdict__" : Str)) = false := by decide) (hs : starEach (.Name x pos' :: es) X.env = (false, eval (.Name x pos') X.env) :: starEach es X.env := by rfl) : DM C X (.Name x pos' :: es) (tmM i u) :=
  (pa_cons (pe_var hN hv hd hcd) hr hs).imp fun σ H Q ⟨ps, Ep, E, Z, Qd, w, ⟨hk, h⟩, post⟩ => by
    split at hk
    · rename_i s e
      obtain ⟨v, e1⟩ := w.known e hk
      exact ⟨v, e1, ps, Ep, E, Z, _, w, h, fun as E2 Z2 H2 vs w2 st2 r2 n h2 => post _ E2 Z2 H2 _ w2 st2 (.m e1 r2) (by rw [List.length_cons, List.length_cons, n]) h2⟩
    · cases hk

/-- a call whose result is data; what it makes of the lent trees -/
def tCallD (sd : SpD) (ta : TAm) : TD := fun E Q => ta E fun as E1 => apart (msOf as) = true ∧ sd (as.map (argS E1)) fun r Em => match r with
  | .fr d => Q d (backL as Em 0 E1)
  | _ => False
def tCallN (sd : SpD) (ta : TAm) : TN := fun E Q => ta E fun as E1 => apart (msOf as) = true ∧ sd (as.map (argS E1)) fun r Em => match r with
  | .ow t => Q t (backL as Em 0 E1)
  | _ => False
theorem argS_no {E : List S} {as : List AM} : ∀ (i : Nat) t, (as.map (argS E))[i]? ≠ some (.ow t) := fun i t e => by
  rw [List.getElem?_map] at e
  cases q : as[i]? with
  | none => rw [q] at e; cases e
  | some a =>
    rw [q] at e
    have e : argS E a = .ow t := Option.some.inj e
    cases a with
    | d d => cases e
    | m j =>
      unfold argS at e
      dsimp only at e
      split at e <;> cases e
theorem call_imp {n : Nat} {sd : SpD} {ta : TAm} {Ex : XK} {σ : Sg} {H : Hp} {Q : VK} {ps : Sg} {Ep : List S} {E : List S} {Z : Addr → Prop} {Qr : S → List S → Prop} (w : At C ps Ep Z σ E H)
    (h : ta E fun as E1 => apart (msOf as) = true ∧ sd (as.map (argS E1)) fun r Em => Qr r (backL as Em 0 E1))
    (post : ∀ r E' Z' H' v, ResAt C ps Ep Z' σ E' H' v r → Stp Z H Z' H' → Qr r E' → Q v H') : tCall (spD C.K n sd) [] Ex (tamOf C n ta) σ H Q :=
  ⟨ps, Ep, E, Z, _, w, h, fun as E1 Z1 H1 vs w1 st1 ok hn ⟨ap, h1⟩ => by
    obtain ⟨F, f⟩ := w1.2
    obtain ⟨g1, g2, g3⟩ := call_go f w1.1 ok ap
    rw [List.append_nil]
    refine ⟨Z1, _, _, _, by rw [ok.length]; exact hn, g1, g2, f.zt, argS_no, h1, fun r Em Z' H' v R q => ?_⟩
    obtain ⟨st2, R2⟩ := g3 r Em Z' H' v R
    exact post r _ Z' H' v R2 (st1.trans st2) q⟩
variable {CX : CXT} {k n : Nat} {f : Addr} {fd : FuncData} {prs : List Str} {sd : SpD} {Ex : XK} {x : Str} {p : Pos} {e : Expr} {es : List Expr} {ta : TAm}
theorem de_call (G : FnOk X.prog X.w X.K X.mg X.base CX k f fd prs (spD X.K n sd)) (hr : Room k X.A) (hm : X.mg x = some (.ref f)) (hk : PySem.W.keepIn X.K (.ref f) = true) (hb : Binds X.K fd prs []) (ha : DM C X (e :: es) ta) (hx : Passes CX X Ex := by exact pass0) (hg : Gl X x := by rfl) (hn : n = (e :: es).length := by rfl) (hK : X.K = C.K := by rfl)
    (hdb : (x == ("__debug__" : Str)) = false := by decide) (he : starEach (e :: es) X.env = (false, eval e X.env) :: starEach es X.env := by rfl) (hpl : (backTo pos (starEach es X.env)).any (·.1) = false := by rfl) :
    DE C X (.Call (.Name x p) (e :: es) [] pos) (tCallD sd ta) := (pe_call G hr hg hm hk hb .nil hx ha hdb he hpl).imp fun σ H Q ⟨ps, Ep, E, Z, Qd, w, h, post⟩ => by
  subst hn
  rw [hK]
  refine call_imp (Qr := fun r E' => match r with | .fr d => Qd d E' | _ => False) w h fun r E' Z' H' v R st q => ?_
  cases r with
  | fr d => exact post d E' Z' H' v R.1 st R.2 q
  | un => cases q
  | ow t => cases q
  | mu t => cases q
theorem dn_call (G : FnOk X.prog X.w X.K X.mg X.base CX k f fd prs (spD X.K n sd)) (hr : Room k X.A) (hm : X.mg x = some (.ref f)) (hk : PySem.W.keepIn X.K (.ref f) = true) (hb : Binds X.K fd prs []) (ha : DM C X (e :: es) ta) (hx : Passes CX X Ex := by exact pass0) (hg : Gl X x := by rfl) (hn : n = (e :: es).length := by rfl) (hK : X.K = C.K := by rfl)
    (hdb : (x == ("__debug__" : Str)) = false := by decide) (he : starEach (e :: es) X.env = (false, eval e X.env) :: starEach es X.env := by rfl) (hpl : (backTo pos (starEach es X.env)).any (·.1) = false := by rfl) :
    DN C X (.Call (.Name x p) (e :: es) [] pos) (tCallN sd ta) := (pe_call G hr hg hm hk hb .nil hx ha hdb he hpl).imp fun σ H Q ⟨ps, Ep, E, Z, Qd, w, h, post⟩ => by
  subst hn
  rw [hK]
  refine call_imp (Qr := fun r E' => match r with | .ow t => Qd t E' | _ => False) w h fun r E' Z' H' v R st q => ?_
  cases r with
  | ow t => exact post t E' Z' H' v R st q
  | un => cases q
  | fr d => cases q
  | mu t => cases q
end

/-! ### the rule for a def -/
def muO : S → S
  | .mu t => .mu t
  | _ => .un
theorem getElem?_takeMap {E : List S} {n j : Nat} {s : S} (h : ((E.take n).map muO)[j]? = some s) : j < n ∧ ∃ u, E[j]? = some u ∧ s = muO u := by
  rw [List.getElem?_map] at h
  cases q : (E.take n)[j]? with
  | none => rw [q] at h; cases h
  | some u =>
    rw [q] at h
    have hj : j < n := by
      have := (List.getElem?_eq_some_iff.mp q).1
      rw [List.length_take] at this
      omega
    rw [List.getElem?_take_of_lt hj] at q
    exact ⟨hj, u, q, (Option.some.inj h).symm⟩
section
variable {P : Program} {w : World} {K : Frg} {mg : Str → Option Value} {base : Heap} {C : Ctx}
/-- at a def's end: what became of the arguments' trees -/
theorem ResAt.ends {n : Nat} {Z : Addr → Prop} {σ : Sg} {E : List S} {H : Hp} {v : V} {r : S} (hn : C.vs.length = n) (hE : n ≤ E.length) (R : ResAt C [] [] Z σ E H v r) : ResAt C [] [] Z (C.vs.map some) ((E.take n).map muO) H v r := by
  have main : ∀ (pv : Sg) (pe : List S), pv.length = pe.length → (∀ (l : Nat) t, pe[l]? ≠ some (.mu t)) → σ.length = E.length → Wd C Z (σ ++ pv) (E ++ pe) H → Wd C Z (C.vs.map some ++ pv) ((E.take n).map muO ++ pe) H := by
    intro pv pe hp hm hl ⟨F, f⟩
    have l1 : ((E.take n).map muO).length = n := by rw [List.length_map, List.length_take]; omega
    have l2 : (C.vs.map some).length = n := by rw [List.length_map]; exact hn
    refine f.re (fun j => if j < n then j else E.length + (j - n)) (by rw [List.length_append, List.length_append, l1, l2, hp]) (fun j s e => ?_) (fun j l s u e1 e2 n1 n2 e => ?_)
    · by_cases hj : j < n
      · rw [List.getElem?_append_left (by omega)] at e
        obtain ⟨_, u, e1, e2⟩ := getElem?_takeMap e
        cases u with
        | mu t =>
          subst e2
          refine .inr ⟨by rw [if_pos hj]; exact up_get e1, ?_, fun _ => if_pos hj⟩
          obtain ⟨x, x1, x2⟩ := f.mus j t (up_get e1)
          rw [if_pos hj, of_getD x2, getD_left (by omega), List.getD_eq_getElem?_getD, List.getElem?_map, x1]
          rfl
        | un => exact .inl e2
        | fr d => exact .inl e2
        | ow t => exact .inl e2
      · rw [List.getElem?_append_right (by omega), l1] at e
        refine .inr ⟨?_, ?_, fun h => ?_⟩
        · rw [if_neg hj, List.getElem?_append_right (by omega), Nat.add_sub_cancel_left]
          exact e
        · rw [if_neg hj, getD_right (by omega), getD_right (by omega), l2, hl, Nat.add_sub_cancel_left]
        · cases s with
          | mu t => exact absurd e (hm _ t)
          | _ => cases h
    · by_cases h1 : j < n
      · by_cases h2 : l < n
        · rw [if_pos h1, if_pos h2] at e; exact e
        · rw [if_pos h1, if_neg h2] at e
          omega
      · by_cases h2 : l < n
        · rw [if_neg h1, if_pos h2] at e
          omega
        · rw [if_neg h1, if_neg h2] at e
          omega
  have l0 : (C.vs.map some).length = ((E.take n).map muO).length := by rw [List.length_map, List.length_map, List.length_take, hn]; omega
  cases r with
  | un => cases R
  | mu t => cases R
  | fr d =>
    obtain ⟨⟨a, b⟩, rv⟩ := R
    exact ⟨⟨l0, main [] [] rfl (fun l t e => by simp at e) a b⟩, rv⟩
  | ow t =>
    obtain ⟨a, b⟩ := R
    refine ⟨l0, main [some v] [.ow t] rfl (fun l t e => ?_) a b⟩
    cases l with
    | zero => cases e
    | succ l => simp at e
/-- what is wanted at a def's end -/
def dEnd (n : Nat) (Qd : S → List S → Prop) : DEnd := { nx := fun E => n ≤ E.length ∧ Qd (.fr .non) ((E.take n).map muO), rt := fun r E => n ≤ E.length ∧ Qd r ((E.take n).map muO) }
/-- the places at a def's entry -/
theorem start_at {N prs : List Str} {vs : List V} {H : Hp} {Z : Addr → Prop} {args : List S} {F' : Foot} (hv : vs.length = prs.length) (la : args.length = prs.length) (sl : Slots K Z H (vs.map some) args F') (nz : ∀ i a, a ∈ F' i → ¬ Z a) (zt : ∀ a, Z a → H a ≠ none) (no : ∀ (i : Nat) t, args[i]? ≠ some (.ow t)) :
    At ⟨K, H, F', Z, vs, Z, H⟩ [] [] Z (L2.start N vs) (args ++ List.replicate (N.length - prs.length) .un) H := by
  have e1 : L2.start N vs = vs.map some ++ List.replicate (N.length - prs.length) none := by unfold L2.start; rw [hv]
  have ll : (L2.start N vs).length = (args ++ List.replicate (N.length - prs.length) S.un).length := by
    rw [e1, List.length_append, List.length_append, List.length_map, List.length_replicate, List.length_replicate]; omega
  have low : ∀ (j : Nat) u, (args ++ List.replicate (N.length - prs.length) S.un)[j]? = some u → u = .un ∨ args[j]? = some u := fun j u e => by
    by_cases hj : j < args.length
    · rw [List.getElem?_append_left hj] at e; exact .inr e
    · rw [List.getElem?_append_right (by omega), List.getElem?_replicate] at e
      split at e
      · exact .inl (Option.some.inj e).symm
      · cases e
  refine ⟨ll, F', ?_⟩
  rw [List.append_nil, List.append_nil]
  refine ⟨⟨ll, fun j u e => ?_, fun j hj => sl.out j (by rw [List.length_append] at hj; omega), sl.nd, sl.dj⟩, nz, fun j t a e ha => ?_, fun j t a e ha => .inl ha, fun j t e => ?_, fun b o e _ => e, fun a h => h, fun a h => .inl h, zt, fun b h => h, Stp.refl _ _⟩
  · by_cases hj : j < args.length
    · rw [List.getElem?_append_left hj] at e
      rw [e1, getD_left (by rw [List.length_map]; omega)]
      exact sl.rep j u e
    · rcases low j u e with q | q
      · subst q; exact sl.out j (by omega)
      · rw [List.getElem?_eq_none (by omega)] at q; cases q
  · rcases low j _ e with q | q
    · cases q
    · exact absurd q (no j t)
  · rcases low j _ e with q | q
    · cases q
    · have hj := (List.getElem?_eq_some_iff.mp q).1
      obtain ⟨x, x1, x2⟩ := sl.rep j _ q
      have x1 := getD_some x1
      rw [List.getElem?_map] at x1
      cases q2 : vs[j]? with
      | none => rw [q2] at x1; cases x1
      | some y =>
        rw [q2] at x1
        cases x1
        refine ⟨x, by first | exact q2 | rfl, ?_⟩
        rw [e1, List.getElem?_append_left (by rw [List.length_map]; omega), List.getElem?_map, q2]
        rfl
/-- THE RULE for a def, over data -/
theorem fn_D {x qual : Str} {st : Stmt} {f : Addr} {fd : FuncData} {N prs : List Str} {k : Nat} {sd : SpD} (F : Fun K x qual st f fd) (S' : FnScope N prs (defScope st)) {t : TSD}
    (hb : ∀ (H0 : Hp) (Fm : Foot) (Z0 : Addr → Prop) (vs : List V) (cdv : Value) (A : Around) (outer : List Env) (s : Shared) (H : Hp) (Ex : XK), Room k (A.deeper (envOfC qual (defScope st) s.heap.objs.size f cdv)) →
      DSs ⟨K, H0, Fm, Z0, vs, Z0, H0⟩ (cxOf CX0 P w K mg base N qual (defScope st) f cdv A outer s H Ex).nox (defBody st) t)
    (ht : ∀ args Qd, args.length = prs.length → sd args Qd → t (dEnd prs.length Qd) (args ++ List.replicate (N.length - prs.length) .un)) :
    FnOk P w K mg base CX0 (k + 1) f fd prs (spD K prs.length sd) := by
  refine F.ok S' (fun vs H Q E h => ?_) (fun cdv A outer s H vs Q E hr h => ?_)
  · obtain ⟨_, _, _, _, h, _⟩ := h
    exact h
  · obtain ⟨Z, args, F', Qd, hv, sl, nz, zt, no, h, post⟩ := h
    have la : args.length = prs.length := by
      have := sl.len
      rw [List.length_map] at this
      omega
    have w0 := start_at (K := K) (N := N) (prs := prs) hv la sl nz zt no
    refine ⟨_, hb H F' Z vs cdv A outer s H E hr, ?_⟩
    refine ⟨[], [], _, Z, _, w0, ht args Qd la h, ⟨fun σ' E' Z' H' w' st' ⟨le, q⟩ => ?_, fun _ _ _ _ _ _ q => q, fun _ _ _ _ _ _ q => q, fun r σ' E' Z' H' v w' st' ⟨le, q⟩ => ?_, rfl, rfl⟩⟩
    · exact post (.fr .non) _ Z' H' .non (ResAt.ends (C := ⟨K, H, F', Z, vs, Z, H⟩) (r := .fr .non) hv le ⟨w', .non⟩) q
    · exact post r _ Z' H' v (ResAt.ends (C := ⟨K, H, F', Z, vs, Z, H⟩) hv le w') q
end
end DL
set_option Elab.async false
set_option linter.all false
set_option maxRecDepth 100000
set_option maxHeartbeats 4000000
/-! DL, part h: list operations, built-ins. -/
namespace DL
open PySem PySem.Spec PyProof.Rows L2

section
variable {C : Ctx} {X : Cx} {pos : Pos}
/-! ### an owned list's methods -/
/-- the list at a name, owned -/
def lstAt (E : List S) (i : Nat) (k : List D → (List D → List S) → Prop) : Prop := match E[i]? with
  | some (.ow (.lst ds)) => k ds fun ds' => E.set i (.ow (.lst ds'))
  | some (.mu (.lst ds)) => k ds fun ds' => E.set i (.mu (.lst ds'))
  | _ => False
theorem lstAt_of {E : List S} {i : Nat} {k : List D → (List D → List S) → Prop} (h : lstAt E i k) : ∃ s ds, E[i]? = some s ∧ s.tree? = some (.lst ds) ∧ k ds fun ds' => E.set i (s.put (.lst ds')) := by
  unfold lstAt at h
  split at h
  · rename_i ds e; exact ⟨_, ds, e, rfl, h⟩
  · rename_i ds e; exact ⟨_, ds, e, rfl, h⟩
  · cases h
def tAppend (i : Nat) (t : TD) : TD := fun E Q => lstAt E i fun _ _ => t E fun d E1 => lstAt E1 i fun ds put => ds.length < sizeLine ∧ Q .non (put (ds ++ [d]))
theorem de_append (i : Nat) {x : Str} {e : Expr} {t : TD} {pos' apos cpos : Pos} (he : DE C X e t) (hN : X.N[i]? = some x := by rfl) (hv : Vis X.env.scope x := by first | exact Or.inl rfl | exact Or.inr (Or.inl rfl) | exact Or.inr (Or.inr rfl))
    (hbase : attributeBase (.Name x pos') "append" X.env (eval (.Name x pos') X.env) = eval (.Name x pos') X.env := by rfl)
    (hfew : ((backTo cpos (starEach [e] X.env)).all (fun x => !x.1) && (backToKw cpos (keywordEach [] X.env)).all (fun x => x.1.isSome) && decide ([e].length + ([] : List Keyword).length + (if ([] : List Keyword).isEmpty then 0 else 1) < 30)) = true := by rfl)
    (hline : (apos.endLine == cpos.line) = true := by rfl) (hs : starEach [e] X.env = (false, eval e X.env) :: starEach [] X.env := by rfl) (hd : (x == ("__debug__" : Str)) = false := by decide) (hcd : (x == ("__classdict__" : Str)) = false := by decide) :
    DE C X (.Call (.Attribute (.Name x pos') "append" apos) [e] [] cpos) (tAppend i t) :=
  (pe_bm PySem.F.plainAttrs_list PySem.F.slot_list_append PySem.F.type_list_append mt_append (pe_var hN hv hd hcd) (pa_cons he pa_nil hs) hbase hfew hline hs rfl).imp fun σ H Q ⟨ps, Ep, E, Z, Qd, w, h, post⟩ => by
    obtain ⟨s, ds, e1, e2, h⟩ := lstAt_of h
    obtain ⟨a, vs, e3, ha, _, _⟩ := w.list e1 e2
    refine ⟨_, e3, .inl ⟨rfl, vs, .of ha⟩, ps, Ep, E, Z, _, w, h, fun d E1 Z1 H1 v w1 st1 r1 h1 => ?_⟩
    obtain ⟨s', ds', e4, e5, hz, h1⟩ := lstAt_of h1
    obtain ⟨a', vs', e6, ha', rs', k⟩ := w1.list e4 e5
    rw [e3] at e6; cases e6
    obtain ⟨st2, w2⟩ := k (vs' ++ [v]) (ds' ++ [d]) (rs'.append (.one r1))
    exact ⟨_, _, _, rfl, rfl, ha', by rw [rs'.length]; exact hz, post .non _ Z1 _ _ w2 (st1.trans st2) .non h1⟩
@[irreducible] def tPopL (i : Nat) : TD := fun E Q => lstAt E i fun ds put => match ds.getLast? with
  | some d => Q d (put ds.dropLast)
  | none => False
theorem de_pop (i : Nat) {x : Str} {pos' apos cpos : Pos} (hN : X.N[i]? = some x := by rfl) (hv : Vis X.env.scope x := by first | exact Or.inl rfl | exact Or.inr (Or.inl rfl) | exact Or.inr (Or.inr rfl))
    (hbase : attributeBase (.Name x pos') "pop" X.env (eval (.Name x pos') X.env) = eval (.Name x pos') X.env := by rfl)
    (hline : (apos.endLine == cpos.line) = true := by rfl) (hd : (x == ("__debug__" : Str)) = false := by decide) (hcd : (x == ("__classdict__" : Str)) = false := by decide) :
    DE C X (.Call (.Attribute (.Name x pos') "pop" apos) [] [] cpos) (tPopL i) :=
  (pe_bm0 PySem.F.plainAttrs_list PySem.F.slot_list_pop PySem.F.type_list_pop mt_pop (pe_var hN hv hd hcd) hbase hline).imp fun σ H Q ⟨ps, Ep, E, Z, Qd, w, h, post⟩ => by
    unfold tPopL at h
    obtain ⟨s, ds, e1, e2, h⟩ := lstAt_of h
    obtain ⟨a, vs, e3, ha, rs, k⟩ := w.list e1 e2
    split at h
    · rename_i d ed
      rw [List.getLast?_eq_getElem?] at ed
      obtain ⟨y, ey, ry⟩ := rs.get ed
      obtain ⟨st2, w2⟩ := k vs.dropLast ds.dropLast rs.dropLast
      refine ⟨_, e3, .inl ⟨rfl, vs, .of ha⟩, _, _, y, rfl, rfl, ha, by rw [rs.length]; exact ey, post d _ Z _ _ w2 st2 (ry.mono st2) h⟩
    · cases h
def tRevL (i : Nat) : TD := fun E Q => lstAt E i fun ds put => Q .non (put ds.reverse)
theorem de_reverse (i : Nat) {x : Str} {pos' apos cpos : Pos} (hN : X.N[i]? = some x := by rfl) (hv : Vis X.env.scope x := by first | exact Or.inl rfl | exact Or.inr (Or.inl rfl) | exact Or.inr (Or.inr rfl))
    (hbase : attributeBase (.Name x pos') "reverse" X.env (eval (.Name x pos') X.env) = eval (.Name x pos') X.env := by rfl)
    (hline : (apos.endLine == cpos.line) = true := by rfl) (hd : (x == ("__debug__" : Str)) = false := by decide) (hcd : (x == ("__classdict__" : Str)) = false := by decide) :
    DE C X (.Call (.Attribute (.Name x pos') "reverse" apos) [] [] cpos) (tRevL i) :=
  (pe_bm0 PySem.F.plainAttrs_list PySem.F.slot_list_reverse PySem.F.type_list_reverse mt_reverse (pe_var hN hv hd hcd) hbase hline).imp fun σ H Q ⟨ps, Ep, E, Z, Qd, w, h, post⟩ => by
    obtain ⟨s, ds, e1, e2, h⟩ := lstAt_of h
    obtain ⟨a, vs, e3, ha, rs, k⟩ := w.list e1 e2
    obtain ⟨st2, w2⟩ := k vs.reverse ds.reverse rs.reverse
    exact ⟨_, e3, .inl ⟨rfl, vs, .of ha⟩, _, _, rfl, rfl, ha, post .non _ Z _ _ w2 st2 .non h⟩
/-- xs.insert(k, y), k not below 0 -/
def tInsert (i : Nat) (tk ty : TD) : TD := fun E Q => lstAt E i fun _ _ => tk E fun k E1 => ty E1 fun y E2 => lstAt E2 i fun ds put => match k with
  | .int n => (ds.length < sizeLine ∧ 0 ≤ n ∧ n < 2 ^ 63) ∧ Q .non (put (ds.take n.toNat ++ y :: ds.drop n.toNat))
  | _ => False
theorem de_insert (i : Nat) {x : Str} {e1 e2 : Expr} {tk ty : TD} {pos' apos cpos : Pos} (hk : DE C X e1 tk) (he : DE C X e2 ty) (hN : X.N[i]? = some x := by rfl) (hv : Vis X.env.scope x := by first | exact Or.inl rfl | exact Or.inr (Or.inl rfl) | exact Or.inr (Or.inr rfl))
    (hbase : attributeBase (.Name x pos') "insert" X.env (eval (.Name x pos') X.env) = eval (.Name x pos') X.env := by rfl)
    (hfew : ((backTo cpos (starEach [e1, e2] X.env)).all (fun x => !x.1) && (backToKw cpos (keywordEach [] X.env)).all (fun x => x.1.isSome) && decide ([e1, e2].length + ([] : List Keyword).length + (if ([] : List Keyword).isEmpty then 0 else 1) < 30)) = true := by rfl)
    (hline : (apos.endLine == cpos.line) = true := by rfl) (hs : starEach [e1, e2] X.env = (false, eval e1 X.env) :: starEach [e2] X.env := by rfl) (hs2 : starEach [e2] X.env = (false, eval e2 X.env) :: starEach [] X.env := by rfl) (hpl : (backTo cpos (starEach [e2] X.env)).any (·.1) = false := by rfl)
    (hd : (x == ("__debug__" : Str)) = false := by decide) (hcd : (x == ("__classdict__" : Str)) = false := by decide) :
    DE C X (.Call (.Attribute (.Name x pos') "insert" apos) [e1, e2] [] cpos) (tInsert i tk ty) :=
  (pe_bm PySem.F.plainAttrs_list PySem.F.slot_list_insert PySem.F.type_list_insert mt_insert (pe_var hN hv hd hcd) (pa_cons hk (pa_cons he pa_nil hs2) hs) hbase hfew hline hs hpl).imp fun σ H Q ⟨ps, Ep, E, Z, Qd, w, h, post⟩ => by
    obtain ⟨s, ds, e1, e2, h⟩ := lstAt_of h
    obtain ⟨a, vs, e3, ha, _, _⟩ := w.list e1 e2
    refine ⟨_, e3, .inl ⟨rfl, vs, .of ha⟩, ps, Ep, E, Z, _, w, h, fun k E1 Z1 H1 u w1 st1 r1 h1 => ⟨ps, Ep, E1, Z1, _, w1, h1, fun d E2 Z2 H2 v w2 st2 r2 h2 => ?_⟩⟩
    obtain ⟨s', ds', e4, e5, h2⟩ := lstAt_of h2
    obtain ⟨a', vs', e6, ha', rs', kk⟩ := w2.list e4 e5
    rw [e3] at e6; cases e6
    cases k with
    | int n =>
      obtain ⟨⟨hz, h0, h1'⟩, h2⟩ := h2
      cases r1
      obtain ⟨st3, w3⟩ := kk (vs'.take n.toNat ++ v :: vs'.drop n.toNat) (ds'.take n.toNat ++ d :: ds'.drop n.toNat) (rs'.insertIdx _ r2)
      refine ⟨_, _, n, v, rfl, rfl, ha', by rw [rs'.length]; exact hz, h0, h1', ?_⟩
      rw [List.append_assoc]
      exact post .non _ Z2 _ _ w3 (st1.trans (st2.trans st3)) .non h2
    | _ => cases h2
/-- xs[k] = e -/
def dSetIx (i : Nat) (tk te : TD) : TSD := fun D E => te E fun d E1 => lstAt E1 i fun _ _ => tk E1 fun k E2 => lstAt E2 i fun ds put => match k with
  | .int n => (match ixN ds.length n with | some j => D.nx (put (ds.set j d)) | none => False)
  | _ => False
theorem ds_setix (i : Nat) {x : Str} {e1 e2 : Expr} {tk te : TD} {pos' apos : Pos} (hk : DE C X e1 tk) (he : DE C X e2 te) (hN : X.N[i]? = some x := by rfl) (hv : Vis X.env.scope x := by first | exact Or.inl rfl | exact Or.inr (Or.inl rfl) | exact Or.inr (Or.inr rfl))
    (ha : ∀ v, assign (.Subscript (.Name x pos') e1 apos) X.env v = (do
      let ov ← holding [v] (eval (.Name x pos') X.env)
      let iv ← holding [v, ov] (eval e1 X.env)
      standAt apos
      holding [v, ov, iv] (setItem ov iv v)
      release [v, ov, iv] []) := by intro _; rfl)
    (hs : swapsWithSole [(.Subscript (.Name x pos') e1 apos)] e2 pos.line X.env = pure false := by rfl) (hw : swappedStores [(.Subscript (.Name x pos') e1 apos)] e2 X.env = pure none := by rfl)
    (h1 : (assignEach [(.Subscript (.Name x pos') e1 apos)] X.env).map (·.2) = [assign (.Subscript (.Name x pos') e1 apos) X.env] := by rfl) (hd : (x == ("__debug__" : Str)) = false := by decide) (hcd : (x == ("__classdict__" : Str)) = false := by decide) :
    DS C X (.Assign [.Subscript (.Name x pos') e1 apos] e2 pos) (dSetIx i tk te) :=
  (ps_asg he (pg_sub (pe_var hN hv hd hcd) hk set_list ha) hs hw h1).imp fun Dn σ H ⟨ps, Ep, E, Z, Dd, w, h, f⟩ => ⟨ps, Ep, E, Z, _, w, h, fun d E1 Z1 H1 v w1 st1 r1 h1 => by
    obtain ⟨s, ds, e1, e2, h1⟩ := lstAt_of h1
    obtain ⟨a, vs, e3, ha, _, _⟩ := w1.list e1 e2
    refine ⟨_, e3, ps, Ep, E1, Z1, _, w1, h1, fun k E2 Z2 H2 u w2 st2 r2 h2 => ?_⟩
    obtain ⟨s', ds', e4, e5, h2⟩ := lstAt_of h2
    obtain ⟨a', vs', e6, ha', rs', kk⟩ := w2.list e4 e5
    rw [e3] at e6; cases e6
    cases k with
    | int n =>
      dsimp only at h2
      split at h2
      · rename_i j ej
        cases r2
        obtain ⟨st3, w3⟩ := kk (vs'.set j v) (ds'.set j d) (rs'.set j (r1.mono st2))
        exact ⟨_, _, n, j, rfl, rfl, ha', by rw [rs'.length]; exact ej, f.nx _ _ Z2 _ w3 (st1.trans (st2.trans st3)) h2⟩
      · cases h2
    | _ => cases h2⟩

/-! ### slices -/
abbrev TOD := List S → (Option Int → List S → Prop) → Prop
def toOf (C : Ctx) (t : TOD) : TO := fun σ H Q => ∃ ps Ep E Z Qd, At C ps Ep Z σ E H ∧ t E Qd ∧ ∀ o E' Z' H', At C ps Ep Z' σ E' H' → Stp Z H Z' H' → Qd o E' → Q o H'
def toN : TOD := fun E Q => Q none E
def toS (t : TD) : TOD := fun E Q => t E fun d E1 => match d with
  | .int i => Q (some i) E1
  | _ => False
theorem _root_.L2.PO.imp {X : Cx} {e : Option Expr} {t t' : TO} (h : PO X e t) (k : ∀ σ H Q, t' σ H Q → t σ H Q) : PO X e t' := ⟨fun pins s σ H Q I q => h.run pins s σ H Q I (k σ H Q q)⟩
theorem do_n : PO X none (toOf C toN) := po_none.imp fun σ H Q ⟨ps, Ep, E, Z, Qd, w, h, post⟩ => post none E Z H w (Stp.refl _ _) h
theorem do_s {e : Expr} {t : TD} (h : DE C X e t) : PO X (some e) (toOf C (toS t)) := (po_some h).imp fun σ H Q ⟨ps, Ep, E, Z, Qd, w, h, post⟩ => ⟨ps, Ep, E, Z, _, w, h, fun d E1 Z1 H1 v w1 st1 r1 h1 => by
  cases r1 with
  | int i => exact ⟨i, rfl, post _ E1 Z1 H1 w1 st1 h1⟩
  | _ => cases h1⟩
def cutD (xs : List D) (lo hi : Option Int) : List D := (xs.drop (HT.sIx xs.length 0 lo)).take (HT.sIx xs.length xs.length hi - HT.sIx xs.length 0 lo)
theorem Reps.cut {K : Frg} {Z : Addr → Prop} {H : Hp} {vs : List V} {ds : List D} (r : Reps K Z H vs ds) (lo hi : Option Int) : Reps K Z H (cutV vs lo hi) (cutD ds lo hi) := by
  unfold cutV cutD
  rw [r.length]
  exact (r.drop _).take _
/-- a slice of a list: a new list -/
def tSlL (t : TD) (lo hi : TOD) : TN := fun E Q => t E fun d E1 => lo E1 fun l E2 => hi E2 fun u E3 => match d with
  | .lst ds => Q (.lst (cutD ds l u)) E3
  | .scr ds => Q (.lst (cutD ds l u)) E3
  | _ => False
theorem dn_sl {e : Expr} {lo hi : Option Expr} {t : TD} {tl th : TOD} {p2 pos : Pos} (he : DE C X e t) (hl : PO X lo (toOf C tl)) (hh : PO X hi (toOf C th)) (hK : X.K = C.K := by rfl) : DN C X (.Subscript e (.Slice lo hi none p2) pos) (tSlL t tl th) :=
  (pe_slice sl_list he hl hh).imp fun σ H Q ⟨ps, Ep, E, Z, Qd, w, h, post⟩ => ⟨ps, Ep, E, Z, _, w, h, fun d E1 Z1 H1 v w1 st1 r1 h1 => ⟨ps, Ep, E1, Z1, _, w1, h1, fun l E2 Z2 H2 w2 st2 h2 => ⟨ps, Ep, E2, Z2, _, w2, h2, fun u E3 Z3 H3 w3 st3 h3 => by
    rw [hK]
    split at h3
    · cases r1 with
      | lst hs rs =>
        have st23 := st2.trans st3
        refine ⟨_, _, rfl, (hs.mono st23).sq, fun p hp => ?_⟩
        obtain ⟨st4, w4⟩ := w3.push hp ((rs.mono st23).cut l u)
        exact post _ E3 Z3 _ _ w4 (st1.trans (st23.trans st4)) h3
    · cases r1 with
      | scr hs rs =>
        have st23 := st2.trans st3
        refine ⟨_, _, rfl, (hs.mono st23).sq, fun p hp => ?_⟩
        obtain ⟨st4, w4⟩ := w3.push hp ((rs.mono st23).cut l u)
        exact post _ E3 Z3 _ _ w4 (st1.trans (st23.trans st4)) h3
    · cases h3⟩⟩⟩

/-! ### built-ins of one argument that leave the heap -/
def Meets1 (C : Ctx) (o : D → (D → Prop) → Prop) (r : List V → Hp → VK → Prop) : Prop := ∀ (Z : Addr → Prop) (H : Hp) (v : V) (d : D) (q : D → Prop) (Q : VK), BRep C.K Z H v d → o d q → (∀ z y, Rep C.K Z H z y → q y → Q z H) → r [v] H Q
theorem one_imp {o : D → (D → Prop) → Prop} {r : List V → Hp → VK → Prop} (m : Meets1 C o r) {t : TD} (σ : Sg) (H : Hp) (Q : VK) (h : teOf C (tUn1 o t) σ H Q) : tCB r (tCons (tbOf C t) tNil) σ H Q := by
  obtain ⟨ps, Ep, E, Z, Qd, w, h, post⟩ := h
  exact ⟨ps, Ep, E, Z, _, w, h, fun d E1 Z1 H1 v w1 st1 r1 h1 => m Z1 H1 v d _ _ r1 h1 fun z y rz q => post y E1 Z1 H1 z w1 st1 rz q⟩
theorem de_b1 {id : String} {x : Str} {e : Expr} {t : TD} {o : D → (D → Prop) → Prop} {r : List V → Hp → VK → Prop} {p : Pos} (hc : CallR X (.builtin id) r ∧ Meets1 C o r) (hm : X.mg x = none) (he : DB C X e t) (hv : bootBuiltins x = some (.builtin id) := by first | rfl | decide +kernel) (hg : Gl X x := by rfl) (hn : x ≠ "__name__" := by decide) (hdb : (x == ("__debug__" : Str)) = false := by decide)
    (hs : starEach [e] X.env = (false, eval e X.env) :: starEach [] X.env := by rfl) (hpl : (backTo pos (starEach [] X.env)).any (·.1) = false := by rfl) : DE C X (.Call (.Name x p) [e] [] pos) (tUn1 o t) :=
  (pe_callB hc.1 hg hm hv (pa_cons he pa_nil hs) hn hdb hs hpl).imp (one_imp hc.2)
theorem de_t1 {T : String} {x : Str} {e : Expr} {t : TD} {o : D → (D → Prop) → Prop} {r : List V → Hp → VK → Prop} {p : Pos} (hc : CallR X (.type T) r ∧ Meets1 C o r) (hm : X.mg x = none) (he : DB C X e t) (hv : bootBuiltins x = some (.type T) := by first | rfl | decide +kernel) (hg : Gl X x := by rfl) (hn : x ≠ "__name__" := by decide) (hdb : (x == ("__debug__" : Str)) = false := by decide)
    (hs : starEach [e] X.env = (false, eval e X.env) :: starEach [] X.env := by rfl) (hpl : (backTo pos (starEach [] X.env)).any (·.1) = false := by rfl) : DE C X (.Call (.Name x p) [e] [] pos) (tUn1 o t) :=
  (pe_callTy hc.1 hg hm hv (pa_cons he pa_nil hs) hn hdb hs hpl).imp (one_imp hc.2)
def oLen : D → (D → Prop) → Prop := fun d q => match d with
  | .lst ds => q (.int ds.length)
  | .tup ds => q (.int ds.length)
  | .str z => z.length ≤ sizeLine ∧ q (.int z.length)
  | _ => False
def rLen (K : Frg) : List V → Hp → VK → Prop := fun xs H Q => (∃ p ys, xs = [.ref p] ∧ (SqL K H p ys ∨ SqT K H p ys) ∧ Q (.int ys.length) H) ∨ ∃ z, xs = [.str z] ∧ z.length ≤ sizeLine ∧ Q (.int z.length) H
theorem b_len (hK : X.K = C.K := by rfl) : CallR X (.builtin "len") (rLen X.K) ∧ Meets1 C oLen (rLen X.K) := ⟨call_len_seq.or call_len_str, fun Z H v d q Q r h k => by
  rw [hK]
  unfold oLen at h
  split at h
  · obtain ⟨a, vs, rfl, hs, rs⟩ := r.lst
    refine .inl ⟨a, vs, rfl, .inl hs, k _ _ ?_ h⟩
    rw [rs.length]; exact .int _
  · obtain ⟨a, vs, rfl, hs, rs⟩ := r.tup
    refine .inl ⟨a, vs, rfl, .inr hs, k _ _ ?_ h⟩
    rw [rs.length]; exact .int _
  · cases r.str
    exact .inr ⟨_, rfl, h.1, k _ _ (.int _) h.2⟩
  · cases h⟩
theorem BRep.int {K : Frg} {Z : Addr → Prop} {H : Hp} {v : V} {i : Int} (h : BRep K Z H v (.int i)) : v = .int i := by
  rcases h with h | ⟨t, F, h, e⟩
  · cases h; rfl
  · cases h with
    | fr h =>
      rw [show (T.fr _).fz = _ from rfl] at e
      subst e
      cases h; rfl
    | lst h hs => cases e
    | dic h e1 hs => cases e
    | obj h e1 hs => cases e
theorem BRep.bl {K : Frg} {Z : Addr → Prop} {H : Hp} {v : V} {i : Bool} (h : BRep K Z H v (.bl i)) : v = .bl i := by
  rcases h with h | ⟨t, F, h, e⟩
  · cases h; rfl
  · cases h with
    | fr h =>
      rw [show (T.fr _).fz = _ from rfl] at e
      subst e
      cases h; rfl
    | lst h hs => cases e
    | dic h e1 hs => cases e
    | obj h e1 hs => cases e
def oInt : D → (D → Prop) → Prop := fun d q => match d with
  | .int i => q (.int i)
  | .bl b => q (.int (if b then 1 else 0))
  | _ => False
theorem b_int : CallR X (.type "int") (fun xs H Q => (∃ i, xs = [.int i] ∧ Q (.int i) H) ∨ ∃ k, xs = [.bl k] ∧ Q (.int (if k then 1 else 0)) H) ∧ Meets1 C oInt (fun xs H Q => (∃ i, xs = [.int i] ∧ Q (.int i) H) ∨ ∃ k, xs = [.bl k] ∧ Q (.int (if k then 1 else 0)) H) := ⟨call_int1, fun Z H v d q Q r h k => by
  unfold oInt at h
  split at h
  · cases r.int; exact .inl ⟨_, rfl, k _ _ (.int _) h⟩
  · cases r.bl; exact .inr ⟨_, rfl, k _ _ (.int _) h⟩
  · cases h⟩
def oAbs : D → (D → Prop) → Prop := fun d q => match d with
  | .int i => q (.int (if i < 0 then -i else i))
  | _ => False
theorem b_abs : CallR X (.builtin "abs") (fun xs H Q => ∃ i, xs = [.int i] ∧ Q (.int (if i < 0 then -i else i)) H) ∧ Meets1 C oAbs (fun xs H Q => ∃ i, xs = [.int i] ∧ Q (.int (if i < 0 then -i else i)) H) := ⟨call_abs, fun Z H v d q Q r h k => by
  unfold oAbs at h
  split at h
  · cases r.int; exact ⟨_, rfl, k _ _ (.int _) h⟩
  · cases h⟩
theorem Reps.ints {K : Frg} {Z : Addr → Prop} {H : Hp} : ∀ {vs : List V} {ns : List Int}, Reps K Z H vs (ns.map D.int) → vs = ns.map V.int
  | _, [], h => by cases h; rfl
  | _, n :: ns, h => by
    cases h with
    | cons h hs => cases h; rw [List.map_cons, Reps.ints hs]
theorem Reps.bls {K : Frg} {Z : Addr → Prop} {H : Hp} : ∀ {vs : List V} {ns : List Bool}, Reps K Z H vs (ns.map D.bl) → vs = ns.map V.bl
  | _, [], h => by cases h; rfl
  | _, n :: ns, h => by
    cases h with
    | cons h hs => cases h; rw [List.map_cons, Reps.bls hs]
def oSum : D → (D → Prop) → Prop := fun d q => match d with
  | .lst ds => ∃ ns : List Int, ds = ns.map D.int ∧ q (.int ns.sum)
  | _ => False
theorem b_sum (hc : X.calm = true := by rfl) (hK : X.K = C.K := by rfl) : CallR X (.builtin "sum") (rSum X.K) ∧ Meets1 C oSum (rSum X.K) := ⟨cr_sum hc, fun Z H v d q Q r h k => by
  rw [hK]
  unfold oSum at h
  split at h
  · obtain ⟨ns, rfl, h⟩ := h
    obtain ⟨a, vs, rfl, hs, rs⟩ := r.lst
    rw [rs.ints] at hs
    exact ⟨a, ns, rfl, hs, k _ _ (.int _) h⟩
  · cases h⟩
def oMax : D → (D → Prop) → Prop := fun d q => match d with
  | .lst ds => ∃ ns : List Int, ds = ns.map D.int ∧ 0 < ns.length ∧ ∀ m, m ∈ ns → (∀ y, y ∈ ns → y ≤ m) → q (.int m)
  | _ => False
def oMin : D → (D → Prop) → Prop := fun d q => match d with
  | .lst ds => ∃ ns : List Int, ds = ns.map D.int ∧ 0 < ns.length ∧ ∀ m, m ∈ ns → (∀ y, y ∈ ns → m ≤ y) → q (.int m)
  | _ => False
theorem b_max (hc : X.calm = true := by rfl) (hK : X.K = C.K := by rfl) : CallR X (.builtin "max") (rMax X.K) ∧ Meets1 C oMax (rMax X.K) := ⟨cr_max hc, fun Z H v d q Q r h k => by
  rw [hK]
  unfold oMax at h
  split at h
  · obtain ⟨ns, rfl, hn, h⟩ := h
    obtain ⟨a, vs, rfl, hs, rs⟩ := r.lst
    rw [rs.ints] at hs
    exact ⟨a, ns, rfl, hs, hn, fun m h1 h2 => k _ _ (.int _) (h m h1 h2)⟩
  · cases h⟩
theorem b_min (hc : X.calm = true := by rfl) (hK : X.K = C.K := by rfl) : CallR X (.builtin "min") (rMin X.K) ∧ Meets1 C oMin (rMin X.K) := ⟨cr_min hc, fun Z H v d q Q r h k => by
  rw [hK]
  unfold oMin at h
  split at h
  · obtain ⟨ns, rfl, hn, h⟩ := h
    obtain ⟨a, vs, rfl, hs, rs⟩ := r.lst
    rw [rs.ints] at hs
    exact ⟨a, ns, rfl, hs, hn, fun m h1 h2 => k _ _ (.int _) (h m h1 h2)⟩
  · cases h⟩
def oAll : D → (D → Prop) → Prop := fun d q => match d with
  | .lst ds => ∃ bs : List Bool, ds = bs.map D.bl ∧ q (.bl (bs.all id))
  | _ => False
def oAny : D → (D → Prop) → Prop := fun d q => match d with
  | .lst ds => ∃ bs : List Bool, ds = bs.map D.bl ∧ q (.bl (bs.any id))
  | _ => False
theorem b_all (hc : X.calm = true := by rfl) (hK : X.K = C.K := by rfl) : CallR X (.builtin "all") (rAll X.K) ∧ Meets1 C oAll (rAll X.K) := ⟨cr_all hc, fun Z H v d q Q r h k => by
  rw [hK]
  unfold oAll at h
  split at h
  · obtain ⟨ns, rfl, h⟩ := h
    obtain ⟨a, vs, rfl, hs, rs⟩ := r.lst
    rw [rs.bls] at hs
    exact ⟨a, ns, rfl, hs, k _ _ (.bl _) h⟩
  · cases h⟩
theorem b_any (hc : X.calm = true := by rfl) (hK : X.K = C.K := by rfl) : CallR X (.builtin "any") (rAny X.K) ∧ Meets1 C oAny (rAny X.K) := ⟨cr_any hc, fun Z H v d q Q r h k => by
  rw [hK]
  unfold oAny at h
  split at h
  · obtain ⟨ns, rfl, h⟩ := h
    obtain ⟨a, vs, rfl, hs, rs⟩ := r.lst
    rw [rs.bls] at hs
    exact ⟨a, ns, rfl, hs, k _ _ (.bl _) h⟩
  · cases h⟩
/-- list(x) of a list or tuple: a new list -/
def tListOf (t : TD) : TN := fun E Q => t E fun d E1 => match d with
  | .lst ds => Q (.lst ds) E1
  | .tup ds => Q (.lst ds) E1
  | .scr ds => Q (.lst ds) E1
  | _ => False
theorem BRep.scr {K : Frg} {Z : Addr → Prop} {H : Hp} {v : V} {ds : List D} (h : BRep K Z H v (.scr ds)) : ∃ a vs, v = .ref a ∧ SqL K H a vs ∧ Reps K Z H vs ds := by
  rcases h with h | ⟨t, F, h, e⟩
  · cases h with
    | scr h hs => exact ⟨_, _, rfl, h.sq, hs⟩
  · cases h with
    | fr h =>
      rw [show (T.fr _).fz = _ from rfl] at e
      subst e
      cases h with
      | scr h hs => exact ⟨_, _, rfl, h.sq, hs⟩
    | lst h hs => cases e
    | dic h e1 hs => cases e
    | obj h e1 hs => cases e
theorem dn_list {x : Str} {e : Expr} {t : TD} {p : Pos} (hm : X.mg x = none) (he : DB C X e t) (hv : bootBuiltins x = some (.type "list") := by first | rfl | decide +kernel) (hg : Gl X x := by rfl) (hn : x ≠ "__name__" := by decide) (hdb : (x == ("__debug__" : Str)) = false := by decide)
    (hs : starEach [e] X.env = (false, eval e X.env) :: starEach [] X.env := by rfl) (hpl : (backTo pos (starEach [] X.env)).any (·.1) = false := by rfl) (hK : X.K = C.K := by rfl) : DN C X (.Call (.Name x p) [e] [] pos) (tListOf t) :=
  (pe_callTy call_list_of hg hm hv (pa_cons he pa_nil hs) hn hdb hs hpl).imp fun σ H Q ⟨ps, Ep, E, Z, Qd, w, h, post⟩ => ⟨ps, Ep, E, Z, _, w, h, fun d E1 Z1 H1 v w1 st1 r1 h1 => by
    rw [hK]
    split at h1
    · obtain ⟨a, vs, rfl, hs, rs⟩ := r1.lst
      refine ⟨a, vs, rfl, .inl hs, fun p hp => ?_⟩
      obtain ⟨st2, w2⟩ := w1.push hp rs
      exact post _ E1 Z1 _ _ w2 (st1.trans st2) h1
    · obtain ⟨a, vs, rfl, hs, rs⟩ := r1.tup
      refine ⟨a, vs, rfl, .inr hs, fun p hp => ?_⟩
      obtain ⟨st2, w2⟩ := w1.push hp rs
      exact post _ E1 Z1 _ _ w2 (st1.trans st2) h1
    · obtain ⟨a, vs, rfl, hs, rs⟩ := r1.scr
      refine ⟨a, vs, rfl, .inl hs, fun p hp => ?_⟩
      obtain ⟨st2, w2⟩ := w1.push hp rs
      exact post _ E1 Z1 _ _ w2 (st1.trans st2) h1
    · cases h1⟩
/-- tuple(x) of a list (a new tuple), of a tuple (itself) -/
def oTupOf : D → (D → Prop) → Prop := fun d q => match d with
  | .lst ds => q (.tup ds)
  | .tup ds => q (.tup ds)
  | _ => False
theorem de_tuple {x : Str} {e : Expr} {t : TD} {p : Pos} (hm : X.mg x = none) (he : DB C X e t) (hv : bootBuiltins x = some (.type "tuple") := by first | rfl | decide +kernel) (hg : Gl X x := by rfl) (hn : x ≠ "__name__" := by decide) (hdb : (x == ("__debug__" : Str)) = false := by decide)
    (hs : starEach [e] X.env = (false, eval e X.env) :: starEach [] X.env := by rfl) (hpl : (backTo pos (starEach [] X.env)).any (·.1) = false := by rfl) (hK : X.K = C.K := by rfl) : DE C X (.Call (.Name x p) [e] [] pos) (tUn1 oTupOf t) :=
  (pe_callTy call_tuple_of hg hm hv (pa_cons he pa_nil hs) hn hdb hs hpl).imp fun σ H Q ⟨ps, Ep, E, Z, Qd, w, h, post⟩ => ⟨ps, Ep, E, Z, _, w, h, fun d E1 Z1 H1 v w1 st1 r1 h1 => by
    rw [hK]
    unfold oTupOf at h1
    split at h1
    · obtain ⟨a, vs, rfl, hs, rs⟩ := r1.lst
      refine ⟨a, vs, rfl, .inl ⟨hs, fun p hp => ?_⟩⟩
      have st2 := Stp.new (o := .tup vs) w1.zt hp
      exact post _ E1 Z1 _ _ (w1.new hp) (st1.trans st2) (.tup (.of upd_same) (rs.mono st2)) h1
    · obtain ⟨a, vs, rfl, hs, rs⟩ := r1.tup
      exact ⟨a, vs, rfl, .inr ⟨hs, post _ E1 Z1 _ _ w1 st1 (.tup hs rs) h1⟩⟩
    · cases h1⟩
/-- min, max of two ints -/
def oMx2 : O2 := oI (iInt fun i j => if j > i then j else i)
def oMn2 : O2 := oI (iInt fun i j => if j < i then j else i)
theorem de_b2 {id : String} {x : Str} {a b : Expr} {ta tb : TD} {o : O2} {r : R2} {p : Pos} (hc : CallR X (.builtin id) (fun xs H Q => ∃ v w, xs = [v, w] ∧ r v w H Q)) (m : Meets C o r) (hm : X.mg x = none) (ha : DE C X a ta) (hb : DE C X b tb) (hv : bootBuiltins x = some (.builtin id) := by first | rfl | decide +kernel) (hg : Gl X x := by rfl) (hn : x ≠ "__name__" := by decide)
    (hdb : (x == ("__debug__" : Str)) = false := by decide) (hs : starEach [a, b] X.env = (false, eval a X.env) :: starEach [b] X.env := by rfl) (hs2 : starEach [b] X.env = (false, eval b X.env) :: starEach [] X.env := by rfl) (hpl : (backTo pos (starEach [b] X.env)).any (·.1) = false := by rfl) :
    DE C X (.Call (.Name x p) [a, b] [] pos) (tOp2 o ta tb) :=
  (pe_callB hc hg hm hv (pa_cons ha (pa_cons hb pa_nil hs2) hs) hn hdb hs hpl).imp fun σ H Q h => by
    have q := op2_imp m σ H Q h
    obtain ⟨ps, Ep, E, Z, Qd, w, h, post⟩ := q
    refine ⟨ps, Ep, E, Z, Qd, w, h, fun d E1 Z1 H1 v w1 st1 r1 h1 => ?_⟩
    obtain ⟨ps, Ep, E, Z, Qd, w, h, post⟩ := post d E1 Z1 H1 v w1 st1 r1 h1
    exact ⟨ps, Ep, E, Z, Qd, w, h, fun d E1 Z1 H1 v w1 st1 r1 h1 => ⟨_, _, rfl, post d E1 Z1 H1 v w1 st1 r1 h1⟩⟩
theorem b_max2 (hc : X.calm = true := by rfl) : CallR X (.builtin "max") (fun xs H Q => ∃ v w, xs = [v, w] ∧ rI0 (fun i j => .int (if j > i then j else i)) v w H Q) := fun pins s σ H xs us Q I r ⟨v, w, e, i, j, e1, e2, q⟩ => by
  subst e e1 e2
  exact call_max2 hc pins s σ H _ us Q I r ⟨i, j, rfl, q⟩
theorem b_min2 (hc : X.calm = true := by rfl) : CallR X (.builtin "min") (fun xs H Q => ∃ v w, xs = [v, w] ∧ rI0 (fun i j => .int (if j < i then j else i)) v w H Q) := fun pins s σ H xs us Q I r ⟨v, w, e, i, j, e1, e2, q⟩ => by
  subst e e1 e2
  exact call_min2 hc pins s σ H _ us Q I r ⟨i, j, rfl, q⟩
/-- list(range(..)) -/
def tRgL1 (t : TD) : TN := fun E Q => t E fun d E1 => match d with
  | .int j => RgOk 0 j ∧ Q (.lst (rng 0 j)) E1
  | _ => False
def tRgL2 (t u : TD) : TN := fun E Q => t E fun d E1 => u E1 fun e E2 => match d, e with
  | .int i, .int j => RgOk i j ∧ Q (.lst (rng i j)) E2
  | _, _ => False
theorem reps_rng {K : Frg} {Z : Addr → Prop} {H : Hp} (i j : Int) : Reps K Z H (rgV i j) (rng i j) := by
  have main : ∀ l : List Nat, Reps K Z H (l.map fun k : Nat => V.int (i + (k : Int))) (l.map fun k : Nat => D.int (i + (k : Int))) := fun l => by
    induction l with
    | nil => exact .nil
    | cons a l ih => exact .cons (.int _) ih
  exact main _
theorem dn_rg1 {a : Expr} {t : TD} {p p1 p2 : Pos} (hml : X.mg "list" = none) (hm : X.mg "range" = none) (ha : DE C X a t) (hgl : Gl X "list" := by rfl) (hg : Gl X "range" := by rfl) (hc : X.calm = true := by rfl) (na : starEach [a] X.env = (false, eval a X.env) :: starEach [] X.env := by rfl)
    (nb : starEach [.Call (.Name "range" p1) [a] [] p2] X.env = (false, eval (.Call (.Name "range" p1) [a] [] p2) X.env) :: starEach [] X.env := by rfl) : DN C X (.Call (.Name "list" p) [.Call (.Name "range" p1) [a] [] p2] [] pos) (tRgL1 t) :=
  (pe_listRg hc hgl hml (prg_1 hg hm ha na) nb).imp fun σ H Q ⟨ps, Ep, E, Z, Qd, w, h, post⟩ => ⟨ps, Ep, E, Z, _, w, h, fun d E1 Z1 H1 v w1 st1 r1 h1 => by
    split at h1
    · obtain ⟨ok, h1⟩ := h1
      cases r1
      refine ⟨_, rfl, ok, fun p hp => ?_⟩
      obtain ⟨st2, w2⟩ := w1.push hp (reps_rng 0 _)
      exact post _ E1 Z1 _ _ w2 (st1.trans st2) h1
    · cases h1⟩
theorem dn_rg2 {a b : Expr} {t u : TD} {p p1 p2 : Pos} (hml : X.mg "list" = none) (hm : X.mg "range" = none) (ha : DE C X a t) (hb : DE C X b u) (hgl : Gl X "list" := by rfl) (hg : Gl X "range" := by rfl) (hc : X.calm = true := by rfl) (na : starEach [a, b] X.env = (false, eval a X.env) :: starEach [b] X.env := by rfl) (nb' : starEach [b] X.env = (false, eval b X.env) :: starEach [] X.env := by rfl)
    (hpl : (backTo p2 (starEach [b] X.env)).any (·.1) = false := by rfl)
    (nb : starEach [.Call (.Name "range" p1) [a, b] [] p2] X.env = (false, eval (.Call (.Name "range" p1) [a, b] [] p2) X.env) :: starEach [] X.env := by rfl) : DN C X (.Call (.Name "list" p) [.Call (.Name "range" p1) [a, b] [] p2] [] pos) (tRgL2 t u) :=
  (pe_listRg hc hgl hml (prg_2 hg hm ha hb na nb' hpl) nb).imp fun σ H Q ⟨ps, Ep, E, Z, Qd, w, h, post⟩ => ⟨ps, Ep, E, Z, _, w, h, fun d E1 Z1 H1 v w1 st1 r1 h1 => ⟨ps, Ep, E1, Z1, _, w1, h1, fun e E2 Z2 H2 v2 w2 st2 r2 h2 => by
    split at h2
    · obtain ⟨ok, h2⟩ := h2
      cases r1; cases r2
      refine ⟨_, _, rfl, rfl, ok, fun p hp => ?_⟩
      obtain ⟨st3, w3⟩ := w2.push hp (reps_rng _ _)
      exact post _ E2 Z2 _ _ w3 (st1.trans (st2.trans st3)) h2
    · cases h2⟩⟩
/-- xs + ys: a new list -/
def tCatL (t u : TD) : TN := fun E Q => t E fun x E1 => u E1 fun y E2 => match x, y with
  | .lst ds, .lst es => ds.length + es.length ≤ sizeLine ∧ Q (.lst (ds ++ es)) E2
  | _, _ => False
def rCatR : R2 := fun x y H Q => ∃ l b xs zs, x = .ref l ∧ y = .ref b ∧ Rd H l (.lst xs) ∧ Rd H b (.lst zs) ∧ xs.length + zs.length ≤ sizeLine ∧ ∀ p, H p = none → Q (.ref p) (upd H p (.lst (xs ++ zs)))
theorem op_catR : OpR X (binaryOp .Add) rCatR := by
  intro pins s σ H x y v u Q I rx ry h
  obtain ⟨l, b, xs, zs, rfl, rfl, hH, hB, hz, q⟩ := h
  cases rx
  cases ry
  obtain ⟨z, its, n, r, e⟩ := hH.ok I.hok
  obtain ⟨z2, its2, n2, r2, e2⟩ := hB.ok I.hok
  have l1 := r.length
  have l2 := r2.length
  refine PySem.P.add_list e e2 ?_ (by rw [List.size_toArray, List.size_toArray]; omega)
  have ea : its.toArray ++ its2.toArray = (its ++ its2).toArray := by simp
  rw [ea]
  exact ⟨.ref _, _, I.lnew (t' := s.toks) (r.append r2) (by rw [List.length_append]; omega), rfl, q _ I.fresh⟩
theorem dn_cat {a b : Expr} {ta tb : TD} (ha : DE C X a ta) (hb : DB C X b tb) : DN C X (.BinOp a .Add b pos) (tCatL ta tb) :=
  (pe_op op_catR ha hb).imp fun σ H Q ⟨ps, Ep, E, Z, Qd, w, h, post⟩ => ⟨ps, Ep, E, Z, _, w, h, fun x E1 Z1 H1 v w1 st1 r1 h1 => ⟨ps, Ep, E1, Z1, _, w1, h1, fun y E2 Z2 H2 u w2 st2 r2 h2 => by
    split at h2
    · obtain ⟨hz, h2⟩ := h2
      cases r1 with
      | lst hs rs =>
        obtain ⟨b, zs, rfl, hs2, rs2⟩ : ∃ b zs, u = .ref b ∧ Rd H2 b (.lst zs) ∧ Reps C.K Z2 H2 zs _ := by
          rcases r2 with r2 | ⟨t, F, r2, e⟩
          · cases r2 with
            | lst h hs => exact ⟨_, _, rfl, h.rd, hs⟩
          · cases r2 with
            | fr h =>
              rw [show (T.fr _).fz = _ from rfl] at e
              subst e
              cases h with
              | lst h hs => exact ⟨_, _, rfl, h.rd, hs⟩
            | lst h hs => cases e; exact ⟨_, _, rfl, .inl h, hs⟩
            | dic h e1 hs => cases e
            | obj h e1 hs => cases e
        have rs1 := rs.mono st2
        refine ⟨_, _, _, _, rfl, rfl, (hs.mono st2).rd, hs2, by rw [rs1.length, rs2.length]; exact hz, fun p hp => ?_⟩
        obtain ⟨st3, w3⟩ := w2.push hp (rs1.append rs2)
        exact post _ E2 Z2 _ _ w3 (st1.trans (st2.trans st3)) h2
    · cases h2⟩⟩
/-! ### sorted -/
def sortD (ds : List D) : List D := ds.mergeSort (PySem.W.dataLe false D.py)
/-- a list that sorted takes -/
structure SortOk (ds : List D) : Prop where
  al : PySem.W.AllAlike (ds.map D.py)
  so : PySem.W.Sortable (ds.map D.py)
  ln : ds.length ≤ sizeLine
  sh : ∀ d ∈ ds, d.shp = true
def tSortD (t : TD) : TN := fun E Q => t E fun d E1 => match d with
  | .lst ds => SortOk ds ∧ Q (.lst (sortD ds)) E1
  | _ => False
def rSortD (K : Frg) : List V → Hp → VK → Prop := fun vs H Q => ∃ (a : Addr) (ys : List V) (ds : List D), vs = [V.ref a] ∧ SqL K H a ys ∧ SortOk ds ∧ EachIs' K H ys ds ∧ ∀ zs p, (∀ (Z : Addr → Prop), Reps K Z H ys ds → Reps K Z H zs (sortD ds)) → zs.length ≤ sizeLine → H p = none → Q (.ref p) (upd H p (.lst zs))
where EachIs' (K : Frg) (H : Hp) (ys : List V) (ds : List D) : Prop := DpAll K H ys (D.pys ds)
theorem each_of {R : Value → V × D → Prop} : ∀ {ys : List V} {us : List Value} {ds : List D}, Vals ys us → ys.length = ds.length → (∀ (i : Nat) y u d, ys[i]? = some y → us[i]? = some u → ds[i]? = some d → R u (y, d)) → PySem.W.EachIs R us (ys.zip ds)
  | _, _, [], .nil, _, _ => .nil
  | _, _, _ :: _, .nil, h, _ => by cases h
  | _, _, [], .cons _ _, h, _ => by cases h
  | y :: ys, u :: us, d :: ds, .cons r t, h, k => .cons (k 0 y u d rfl rfl rfl) (each_of t (by simpa using h) fun i y u d e1 e2 e3 => k (i + 1) y u d e1 e2 e3)
theorem vals_fst {R : Value → V × D → Prop} (hR : ∀ u p, R u p → RelV p.1 u) : ∀ {us : List Value} {ps : List (V × D)}, PySem.W.EachIs R us ps → Vals (ps.map (·.1)) us
  | _, _, .nil => .nil
  | _, _, .cons r t => .cons (hR _ _ r) (vals_fst hR t)
theorem reps_of_mem {K : Frg} {Z : Addr → Prop} {H : Hp} : ∀ {ps : List (V × D)}, (∀ p ∈ ps, Rep K Z H p.1 p.2) → Reps K Z H (ps.map (·.1)) (ps.map (·.2))
  | [], _ => .nil
  | p :: ps, h => .cons (h p (List.mem_cons_self)) (reps_of_mem fun q hq => h q (List.mem_cons_of_mem _ hq))
theorem zip_mem {K : Frg} {Z : Addr → Prop} {H : Hp} : ∀ {vs : List V} {ds : List D}, Reps K Z H vs ds → ∀ p ∈ vs.zip ds, Rep K Z H p.1 p.2
  | _, _, .nil, p, h => by cases h
  | _, _, .cons r t, p, h => by
    rcases List.mem_cons.mp h with e | h
    · subst e; exact r
    · exact zip_mem t p h
theorem zip_snd : ∀ {vs : List V} {ds : List D}, vs.length = ds.length → (vs.zip ds).map (·.2) = ds
  | [], [], _ => rfl
  | [], _ :: _, h => by cases h
  | _ :: _, [], h => by cases h
  | v :: vs, d :: ds, h => by rw [List.zip_cons_cons, List.map_cons, zip_snd (vs := vs) (by simpa using h)]
theorem cr_sortD (hu : X.A.units + 70 < cLine) : CallR X (.builtin "sorted") (rSortD X.K) := by
  intro pins s σ H vs us Q I r h
  obtain ⟨a, ys, ds, rfl, hs, ok, dp, q⟩ := h
  obtain ⟨its, rv, hl, hz⟩ := I.list hs
  rw [Vals.ref1 r]
  obtain ⟨as, rd⟩ := Dp.readsAll I (D.pys ds) ys its dp rv
  have hlen : ys.length = ds.length := by
    have := SeqAt.ReadsAll.length _ _ _ rd
    rw [pys_map, List.length_map] at this
    have := rv.length
    omega
  have er : PySem.W.EachIs (fun u (p : V × D) => RelV p.1 u ∧ ∃ as, Reads s.heap u p.2.py as) its (ys.zip ds) := each_of rv hlen fun i y u d e1 e2 e3 => by
    refine ⟨?_, ?_⟩
    · obtain ⟨u', e4, r4⟩ := rv.get e1
      rw [e2] at e4; cases e4
      exact r4
    · have main : ∀ {us : List Value} {es : List PyData} {as : List Addr} (i : Nat) {u : Value} {e : PyData}, ReadsAll s.heap us es as → us[i]? = some u → es[i]? = some e → ∃ as, Reads s.heap u e as := by
        intro us es as i u e h
        induction i generalizing us es as with
        | zero =>
          cases h with
          | nil => intro q; cases q
          | cons h1 h2 => intro q1 q2; cases q1; cases q2; exact ⟨_, h1⟩
        | succ i ih =>
          cases h with
          | nil => intro q; cases q
          | cons h1 h2 => intro q1 q2; exact ih h2 (by simpa using q1) (by simpa using q2)
      refine main i rd e2 ?_
      rw [pys_map, List.getElem?_map, e3]
      rfl
  have es : (ys.zip ds).map (fun p : V × D => p.2.py) = ds.map D.py := by
    rw [show (fun p : V × D => p.2.py) = D.py ∘ (·.2) from rfl, ← List.map_map, zip_snd hlen]
  refine PySem.W.sorted_data (enc := fun p : V × D => p.2.py) hl.isList er (er.mono fun _ _ h => h.2) (by rw [es]; exact ok.al) (by rw [es]; exact ok.so) (by rw [List.length_zip]; have := ok.ln; omega) (fun p hp => ?_) fun out ho eo => ?_
  · have : p.2 ∈ ds := by
      have : p.2 ∈ (ys.zip ds).map (·.2) := List.mem_map.mpr ⟨p, hp, rfl⟩
      rw [zip_snd hlen] at this
      exact this
    have hd := SeqAt.depth_of_shaped (ok.sh _ this)
    show X.A.units + 2 + p.2.py.depth < cLine
    omega
  · obtain ⟨ep, he'⟩ := PyProof.Rows.sortedAll_at s.heap its (List.toArray out)
    have hv := vals_fst (fun u p h => h.1) eo
    have hz2 : (((ys.zip ds).mergeSort (PySem.W.dataLe false fun p : V × D => p.2.py)).map (·.1)).length ≤ sizeLine := by
      rw [List.length_map, List.length_mergeSort, List.length_zip]
      have := ok.ln
      omega
    refine ⟨.ref _, upd H (s.heap.objs.size + 1) (.lst (((ys.zip ds).mergeSort (PySem.W.dataLe false fun p : V × D => p.2.py)).map (·.1))), I.laid (t' := s.toks) (fun _ _ => PyProof.Rows.sortedAll_old) (Nat.le_succ _) ⟨hz2, out, ep, hv, he'⟩, rfl, q _ _ (fun Z rz => ?_) hz2 (I.hok.fresh (Nat.le_succ _))⟩
    have e2 : ((ys.zip ds).mergeSort (PySem.W.dataLe false fun p : V × D => p.2.py)).map (·.2) = sortD ds := by
      unfold sortD
      have := PySem.W.sort_maps (r := PySem.W.dataLe false fun p : V × D => p.2.py) (s := PySem.W.dataLe false D.py) (fun p : V × D => p.2) (l := ys.zip ds) fun a _ b _ => rfl
      rw [zip_snd hlen] at this
      exact this
    rw [← e2]
    exact reps_of_mem fun p hp => zip_mem rz p (List.mem_mergeSort.mp hp)
theorem dn_sorted {x : Str} {e : Expr} {t : TD} {p : Pos} (hu : X.A.units + 70 < cLine) (hm : X.mg x = none) (he : DB C X e t) (hv : bootBuiltins x = some (.builtin "sorted") := by first | rfl | decide +kernel) (hg : Gl X x := by rfl) (hn : x ≠ "__name__" := by decide) (hdb : (x == ("__debug__" : Str)) = false := by decide)
    (hs : starEach [e] X.env = (false, eval e X.env) :: starEach [] X.env := by rfl) (hpl : (backTo pos (starEach [] X.env)).any (·.1) = false := by rfl) (hK : X.K = C.K := by rfl) : DN C X (.Call (.Name x p) [e] [] pos) (tSortD t) :=
  (pe_callB (cr_sortD hu) hg hm hv (pa_cons he pa_nil hs) hn hdb hs hpl).imp fun σ H Q ⟨ps, Ep, E, Z, Qd, w, h, post⟩ => ⟨ps, Ep, E, Z, _, w, h, fun d E1 Z1 H1 v w1 st1 r1 h1 => by
    rw [hK]
    split at h1
    · obtain ⟨ok, h1⟩ := h1
      obtain ⟨a, vs, rfl, hs, rs⟩ := r1.lst
      refine ⟨a, vs, _, rfl, hs, ok, rs.dp ?_, fun zs p hz _ hp => ?_⟩
      · have main : ∀ l : List D, (∀ d ∈ l, d.shp = true) → PyData.canLayAll0 (D.pys l) = true := by
          intro l
          induction l with
          | nil => intro _; rfl
          | cons d l ih => intro hd; exact Bool.and_eq_true_iff.mpr ⟨shp_lay (hd d List.mem_cons_self), ih fun e he => hd e (List.mem_cons_of_mem _ he)⟩
        exact main _ ok.sh
      · obtain ⟨st2, w2⟩ := w1.push hp (hz Z1 rs)
        exact post _ E1 Z1 _ _ w2 (st1.trans st2) h1
    · cases h1⟩

/-! ### x in xs -/
def oIn : O2 := fun x c q => match c with
  | .lst ds => (x.shp = true ∧ (D.lst ds).shp = true) ∧ q (.bl (ds.any fun z => z.eqv x))
  | .tup ds => (x.shp = true ∧ (D.tup ds).shp = true) ∧ q (.bl (ds.any fun z => z.eqv x))
  | .str y => (match x with | .str z => q (.bl (!(Builtin.Str.occurrences y z 0 y.length 1).isEmpty)) | _ => False)
  | _ => False
def oNin : O2 := fun x c q => match c with
  | .lst ds => (x.shp = true ∧ (D.lst ds).shp = true) ∧ q (.bl (!ds.any fun z => z.eqv x))
  | .tup ds => (x.shp = true ∧ (D.tup ds).shp = true) ∧ q (.bl (!ds.any fun z => z.eqv x))
  | .str y => (match x with | .str z => q (.bl (!(!(Builtin.Str.occurrences y z 0 y.length 1).isEmpty))) | _ => False)
  | _ => False
def rInTD (K : Frg) : R2 := fun x y H Q => ∃ d ds, Dp K H x d ∧ Dp K H y (.tuple ds) ∧ SeqAt.shaped d = true ∧ SeqAt.shaped (.tuple ds) = true ∧ Q (.bl (ds.any fun z => PyData.eqv z d)) H
def rNotInTD (K : Frg) : R2 := fun x y H Q => ∃ d ds, Dp K H x d ∧ Dp K H y (.tuple ds) ∧ SeqAt.shaped d = true ∧ SeqAt.shaped (.tuple ds) = true ∧ Q (.bl (!ds.any fun z => PyData.eqv z d)) H
theorem op_inTD (hu : X.A.units + 65 < cLine) : OpR X (compareOp .In) (rInTD X.K) := by
  intro pins s σ H x y v u Q I rx ry h
  obtain ⟨d, ds, hd, he, sd, se, q⟩ := h
  obtain ⟨as, r1⟩ := Dp.reads I d x v hd rx
  obtain ⟨bs, r2⟩ := Dp.reads I (.tuple ds) y u he ry
  exact SeqAt.in_tuple_reads r2 r1 (SeqAt.canLay_of_shaped se) (SeqAt.canLay_of_shaped sd) (room_in_shaped sd hu) ⟨.bl _, H, I, rfl, q⟩
theorem op_notInTD (hu : X.A.units + 65 < cLine) : OpR X (compareOp .NotIn) (rNotInTD X.K) := by
  intro pins s σ H x y v u Q I rx ry h
  obtain ⟨d, ds, hd, he, sd, se, q⟩ := h
  obtain ⟨as, r1⟩ := Dp.reads I d x v hd rx
  obtain ⟨bs, r2⟩ := Dp.reads I (.tuple ds) y u he ry
  exact SeqAt.notIn_tuple_reads r2 r1 (SeqAt.canLay_of_shaped se) (SeqAt.canLay_of_shaped sd) (room_in_shaped sd hu) ⟨.bl _, H, I, rfl, q⟩
def rInA (K : Frg) : R2 := fun x y H Q => rInD K x y H Q ∨ rInTD K x y H Q ∨ ∃ i j, x = .str i ∧ y = .str j ∧ Q (.bl (!(Builtin.Str.occurrences j i 0 j.length 1).isEmpty)) H
def rNinA (K : Frg) : R2 := fun x y H Q => rNotInD K x y H Q ∨ rNotInTD K x y H Q ∨ ∃ i j, x = .str i ∧ y = .str j ∧ Q (.bl (!(!(Builtin.Str.occurrences j i 0 j.length 1).isEmpty))) H
theorem any_eqv (ds : List D) (x : D) : (D.pys ds).any (fun z => PyData.eqv z x.py) = ds.any fun z => z.eqv x := by
  rw [pys_map, List.any_map]
  rfl
/-- the right operand may be an owned list, only looked at -/
theorem inB_imp {o : O2} {r : R2} (m : ∀ (Z : Addr → Prop) (H : Hp) (v w : V) (x y : D) (q : D → Prop) (Q : VK), Rep C.K Z H v x → BRep C.K Z H w y → o x y q → (∀ z d, Rep C.K Z H z d → q d → Q z H) → r v w H Q) {ta tb : TD} (σ : Sg) (H : Hp) (Q : VK) (h : teOf C (tOp2 o ta tb) σ H Q) :
    tOp r (teOf C ta) (tbOf C tb) σ H Q := by
  obtain ⟨ps, Ep, E, Z, Qd, w, h, post⟩ := h
  exact ⟨ps, Ep, E, Z, _, w, h, fun x E1 Z1 H1 v w1 st1 r1 h1 => ⟨ps, Ep, E1, Z1, _, w1, h1, fun y E2 Z2 H2 u w2 st2 r2 h2 => m Z2 H2 v u x y _ Q (r1.mono st2) r2 h2 fun z d rz q => post d E2 Z2 H2 z w2 (st1.trans st2) rz q⟩⟩
theorem m_in {Z : Addr → Prop} {H : Hp} {v w : V} {x y : D} {q : D → Prop} {Q : VK} (rx : Rep C.K Z H v x) (ry : BRep C.K Z H w y) (h : oIn x y q) (k : ∀ z d, Rep C.K Z H z d → q d → Q z H) : rInA C.K v w H Q := by
  unfold oIn at h
  split at h
  · obtain ⟨⟨h1, h2⟩, h⟩ := h
    refine .inl ⟨_, _, rx.dp (shp_lay h1), ry.dp (shp_lay h2), h1, h2, k _ _ ?_ h⟩
    rw [any_eqv]; exact .bl _
  · obtain ⟨⟨h1, h2⟩, h⟩ := h
    refine .inr (.inl ⟨_, _, rx.dp (shp_lay h1), ry.dp (shp_lay h2), h1, h2, k _ _ ?_ h⟩)
    rw [any_eqv]; exact .bl _
  · split at h
    · cases rx
      cases ry.str
      exact .inr (.inr ⟨_, _, rfl, rfl, k _ _ (.bl _) h⟩)
    · cases h
  · cases h
theorem m_nin {Z : Addr → Prop} {H : Hp} {v w : V} {x y : D} {q : D → Prop} {Q : VK} (rx : Rep C.K Z H v x) (ry : BRep C.K Z H w y) (h : oNin x y q) (k : ∀ z d, Rep C.K Z H z d → q d → Q z H) : rNinA C.K v w H Q := by
  unfold oNin at h
  split at h
  · obtain ⟨⟨h1, h2⟩, h⟩ := h
    refine .inl ⟨_, _, rx.dp (shp_lay h1), ry.dp (shp_lay h2), h1, h2, k _ _ ?_ h⟩
    rw [any_eqv]; exact .bl _
  · obtain ⟨⟨h1, h2⟩, h⟩ := h
    refine .inr (.inl ⟨_, _, rx.dp (shp_lay h1), ry.dp (shp_lay h2), h1, h2, k _ _ ?_ h⟩)
    rw [any_eqv]; exact .bl _
  · split at h
    · cases rx
      cases ry.str
      exact .inr (.inr ⟨_, _, rfl, rfl, k _ _ (.bl _) h⟩)
    · cases h
  · cases h
theorem de_in {a b : Expr} {ta tb : TD} (hu : X.A.units + 65 < cLine) (ha : DE C X a ta) (hb : DB C X b tb) (hm : behindInMarks .In b = false := by rfl) (hK : X.K = C.K := by rfl) : DE C X (.Compare a [.In] [b] pos) (tOp2 oIn ta tb) :=
  (pe_cmpR ((op_inD hu).or ((op_inTD hu).or op_in_str)) ha hb hm).imp fun σ H Q h => by
    rw [hK]
    exact inB_imp (r := rInA C.K) (fun Z H v w x y q Q rx ry h k => m_in rx ry h k) σ H Q h
theorem de_nin {a b : Expr} {ta tb : TD} (hu : X.A.units + 65 < cLine) (ha : DE C X a ta) (hb : DB C X b tb) (hm : behindInMarks .NotIn b = false := by rfl) (hK : X.K = C.K := by rfl) : DE C X (.Compare a [.NotIn] [b] pos) (tOp2 oNin ta tb) :=
  (pe_cmpR ((op_notInD hu).or ((op_notInTD hu).or op_notIn_str)) ha hb hm).imp fun σ H Q h => by
    rw [hK]
    exact inB_imp (r := rNinA C.K) (fun Z H v w x y q Q rx ry h k => m_nin rx ry h k) σ H Q h
theorem testB {o : O2} {r : R2} (m : ∀ (Z : Addr → Prop) (H : Hp) (v w : V) (x y : D) (q : D → Prop) (Q : VK), Rep C.K Z H v x → BRep C.K Z H w y → o x y q → (∀ z d, Rep C.K Z H z d → q d → Q z H) → r v w H Q) {ta tb : TD} (σ : Sg) (H : Hp) (Q : Bool → Hp → Prop) (h : ttOf C (tOp2B o ta tb) σ H Q) :
    tTest (tOp r (teOf C ta) (tbOf C tb)) σ H Q := by
  obtain ⟨ps, Ep, E, Z, Qd, w, h, post⟩ := h
  exact ⟨ps, Ep, E, Z, _, w, h, fun x E1 Z1 H1 v w1 st1 r1 h1 => ⟨ps, Ep, E1, Z1, _, w1, h1, fun y E2 Z2 H2 u w2 st2 r2 h2 => m Z2 H2 v u x y _ _ (r1.mono st2) r2 h2 fun z d rz q => by
    cases rz with
    | bl k => exact ⟨k, rfl, post k E2 Z2 H2 w2 (st1.trans st2) q⟩
    | _ => cases q⟩⟩
theorem dt_in {a b : Expr} {ta tb : TD} (hu : X.A.units + 65 < cLine) (ha : DE C X a ta) (hb : DB C X b tb) (hm : behindInMarks .In b = false := by rfl) (hK : X.K = C.K := by rfl) : DT C X (.Compare a [.In] [b] pos) (tOp2B oIn ta tb) :=
  (pt_cmpR ((op_inD hu).or ((op_inTD hu).or op_in_str)) ha hb hm).imp fun σ H Q h => by
    rw [hK]
    exact testB (r := rInA C.K) (fun Z H v w x y q Q rx ry h k => m_in rx ry h k) σ H Q h
theorem dt_nin {a b : Expr} {ta tb : TD} (hu : X.A.units + 65 < cLine) (ha : DE C X a ta) (hb : DB C X b tb) (hm : behindInMarks .NotIn b = false := by rfl) (hK : X.K = C.K := by rfl) : DT C X (.Compare a [.NotIn] [b] pos) (tOp2B oNin ta tb) :=
  (pt_cmpR ((op_notInD hu).or ((op_notInTD hu).or op_notIn_str)) ha hb hm).imp fun σ H Q h => by
    rw [hK]
    exact testB (r := rNinA C.K) (fun Z H v w x y q Q rx ry h k => m_nin rx ry h k) σ H Q h
end
end DL
set_option Elab.async false
set_option linter.all false
set_option maxRecDepth 100000
set_option maxHeartbeats 4000000
/-! DL, part i: defs of the text, a law's end. -/
namespace DL
open PySem PySem.Spec PyProof.Rows L2

/-- a def of the text as it stands behind the top -/
structure Dn (K : Frg) (mg : Str → Option Value) (x : Str) (st : Stmt) (prs : List Str) (f : Addr) (fd : FuncData) : Prop where
  F : Fun K x x st f fd
  m : mg x = some (.ref f)
  b : Binds K fd prs []
section
variable {C : Ctx} {X : Cx} {pos : Pos} {CX : CXT} {k n : Nat} {f : Addr} {fd : FuncData} {prs : List Str} {sd : SpD} {Ex : XK} {x : Str} {st : Stmt} {p : Pos} {e : Expr} {es : List Expr} {ta : TAm}
theorem dcall (G : FnOk X.prog X.w X.K X.mg X.base CX k f fd prs (spD X.K n sd)) (Dn' : Dn X.K X.mg x st prs f fd) (hr : Room k X.A) (ha : DM C X (e :: es) ta) (hx : Passes CX X Ex := by exact pass0) (hg : Gl X x := by rfl) (hn : n = (e :: es).length := by rfl) (hK : X.K = C.K := by rfl)
    (hdb : (x == ("__debug__" : Str)) = false := by decide) (he : starEach (e :: es) X.env = (false, eval e X.env) :: starEach es X.env := by rfl) (hpl : (backTo pos (starEach es X.env)).any (·.1) = false := by rfl) :
    DE C X (.Call (.Name x p) (e :: es) [] pos) (tCallD sd ta) := de_call G hr Dn'.m Dn'.F.kp Dn'.b ha hx hg hn hK hdb he hpl
theorem dcalln (G : FnOk X.prog X.w X.K X.mg X.base CX k f fd prs (spD X.K n sd)) (Dn' : Dn X.K X.mg x st prs f fd) (hr : Room k X.A) (ha : DM C X (e :: es) ta) (hx : Passes CX X Ex := by exact pass0) (hg : Gl X x := by rfl) (hn : n = (e :: es).length := by rfl) (hK : X.K = C.K := by rfl)
    (hdb : (x == ("__debug__" : Str)) = false := by decide) (he : starEach (e :: es) X.env = (false, eval e X.env) :: starEach es X.env := by rfl) (hpl : (backTo pos (starEach es X.env)).any (·.1) = false := by rfl) :
    DN C X (.Call (.Name x p) (e :: es) [] pos) (tCallN sd ta) := dn_call G hr Dn'.m Dn'.F.kp Dn'.b ha hx hg hn hK hdb he hpl
end
/-- the law's own promise -/
def sdLaw : SpD := fun args Q => ∃ ns : List Int, args = [.fr (.scr (ns.map D.int))] ∧ ns.length ≤ 63 ∧ Q (.fr (.bl true)) [.un]
theorem law_sp {K : Frg} {H : Hp} {a : Addr} {ns : List Int} {Ex : XK} (hl : ns.length ≤ 63) (h : SqL K H a (ns.map V.int)) : spD K 1 sdLaw [.ref a] H (fun v _ => v = .bl true) Ex := by
  have reps : ∀ (Z : Addr → Prop) (l : List Int), Reps K Z H (l.map V.int) (l.map D.int) := fun Z l => by
    induction l with
    | nil => exact .nil
    | cons a l ih => exact .cons (.int _) ih
  refine ⟨fun b => b = a ∧ H a = some (.lst (ns.map V.int)), [.fr (.scr (ns.map D.int))], fun _ => [], fun r _ => r = .fr (.bl true), rfl, ⟨rfl, fun i s e => ?_, fun _ _ => rfl, fun _ => List.nodup_nil, fun i j b h => (by cases h)⟩, fun i b h => (by cases h), fun b h => ?_, fun i t e => ?_, ⟨ns, rfl, hl, rfl⟩, fun r Em Z' H' v R e => ?_⟩
  · cases i with
    | zero =>
      cases e
      refine ⟨rfl, .ref a, rfl, .scr ?_ (reps _ _)⟩
      rcases h with (h | ⟨o, h⟩) | h
      · exact .inl (.inl ⟨⟨rfl, h⟩, h⟩)
      · exact .inl (.inr ⟨o, h⟩)
      · exact .inr h
    | succ i => simp at e
  · rw [h.1, h.2]; intro q; cases q
  · cases i with
    | zero => cases e
    | succ i => simp at e
  · subst e
    obtain ⟨_, r⟩ := R
    cases r
    rfl
theorem u65_of {k : Nat} {A : Around} (r : Room k A) : A.units + 65 < cLine := by have := r.un; omega
theorem u70_of {k : Nat} {A : Around} (r : Room k A) : A.units + 70 < cLine := by have := r.un; omega
/-! ### helpers for readings -/
theorem popMu {i : Nat} {E : List S} {Q : D → List S → Prop} {init : List D} {d : D} (e : E[i]? = some (.mu (.lst (init ++ [d])))) (q : Q d (E.set i (.mu (.lst init)))) : tPopL i E Q := by
  unfold tPopL lstAt
  rw [e]
  simp only [List.getLast?_concat, List.dropLast_concat]
  exact q
theorem popOw {i : Nat} {E : List S} {Q : D → List S → Prop} {init : List D} {d : D} (e : E[i]? = some (.ow (.lst (init ++ [d])))) (q : Q d (E.set i (.ow (.lst init)))) : tPopL i E Q := by
  unfold tPopL lstAt
  rw [e]
  simp only [List.getLast?_concat, List.dropLast_concat]
  exact q
theorem popMuI {i : Nat} {E : List S} {Q : D → List S → Prop} {init : List Int} {x : Int} (e : E[i]? = some (.mu (.lst ((init ++ [x]).map D.int)))) (q : Q (.int x) (E.set i (.mu (.lst (init.map D.int))))) : tPopL i E Q :=
  popMu (init := init.map D.int) (d := .int x) (by rw [e, List.map_append]; rfl) q
theorem popOwI {i : Nat} {E : List S} {Q : D → List S → Prop} {init : List Int} {x : Int} (e : E[i]? = some (.ow (.lst ((init ++ [x]).map D.int)))) (q : Q (.int x) (E.set i (.ow (.lst (init.map D.int))))) : tPopL i E Q :=
  popOw (init := init.map D.int) (d := .int x) (by rw [e, List.map_append]; rfl) q
theorem snoc_of_ne {α : Type} {l : List α} (h : l ≠ []) : ∃ init x, l = init ++ [x] := ⟨l.dropLast, l.getLast h, (List.dropLast_concat_getLast h).symm⟩
theorem cut_ints (ns : List Int) (lo hi : Option Int) : ∃ ms : List Int, cutD (ns.map D.int) lo hi = ms.map D.int ∧ ms.length ≤ ns.length := by
  refine ⟨(ns.drop (HT.sIx (ns.map D.int).length 0 lo)).take (HT.sIx (ns.map D.int).length (ns.map D.int).length hi - HT.sIx (ns.map D.int).length 0 lo), ?_, ?_⟩
  · unfold cutD
    rw [List.map_take, List.map_drop]
  · rw [List.length_take, List.length_drop]
    omega
end DL
set_option Elab.async false
set_option linter.all false
set_option maxRecDepth 100000
set_option maxHeartbeats 4000000
/-! DL, part j: wide quotients, isinstance, least and greatest of a tuple, list(reversed(..)). -/
namespace DL
open PySem PySem.Spec PyProof.Rows L2

section
variable {C : Ctx} {X : Cx} {pos : Pos}
theorem o_fdivW : OpR X (binaryOp .FloorDiv) (rI CDivW fun i j => .int (i / j)) ∧ Meets C (oIc CDivW (iInt fun i j => i / j)) (rI CDivW fun i j => .int (i / j)) := ⟨op_fdivW, meets_Ic (fun _ _ _ _ _ => .int _) fun _ _ h => h⟩
theorem o_mulW : OpR X (binaryOp .Mult) (rI CMulW fun i j => .int (i * j)) ∧ Meets C (oIc CMulW (iInt fun i j => i * j)) (rI CMulW fun i j => .int (i * j)) := ⟨op_mulW, meets_Ic (fun _ _ _ _ _ => .int _) fun _ _ h => h⟩

/-! ### isinstance(x, T), T a built-in type -/
/-- the name of data's type -/
def D.ty : D → String
  | .non => "NoneType"
  | .bl _ => "bool"
  | .int _ => "int"
  | .str _ => "str"
  | .tup _ => "tuple"
  | .lst _ => "list"
  | .scr _ => "list"
  | .dic _ _ => "dict"
  | .obj _ _ _ => "object"
  | .kon _ => "object"
def D.isObj : D → Bool
  | .obj _ _ _ => true
  | .kon _ => true
  | _ => false
theorem LsR.tyx {K : Frg} {Z : Addr → Prop} {H : Hp} {a : Addr} {vs : List V} (h : LsR Z H a vs) : TyX K H (.ref a) (.type "list") := by
  rcases h with ⟨_, h⟩ | ⟨o, h⟩
  · exact .base (.lst h)
  · exact .base (.frz h)
theorem Rep.tyx {K : Frg} {Z : Addr → Prop} {H : Hp} {v : V} {d : D} (r : Rep K Z H v d) (h : d.isObj = false) : TyX K H v (.type d.ty) := by
  cases r with
  | non => exact .base .non
  | bl b => exact .base (.bl b)
  | int i => exact .base (.int i)
  | str x => exact .base (.str x)
  | tup hs _ =>
    rcases hs with (h | ⟨o, h⟩) | ⟨o, _, _, h, c, _⟩
    · exact .base (.tup h)
    · exact .fTuple h
    · exact .kTuple h c
  | lst hs _ => exact hs.tyx
  | scr hs _ =>
    rcases hs with h | ⟨o, _, _, h, c, _⟩
    · exact h.tyx
    · exact .kList h c
  | dic _ q _ _ => exact .base (.dK q)
  | obj _ _ _ _ => cases h
  | kon _ => cases h
theorem BRep.tyx {K : Frg} {Z : Addr → Prop} {H : Hp} {v : V} {d : D} (r : BRep K Z H v d) (h : d.isObj = false) : TyX K H v (.type d.ty) := by
  rcases r with r | ⟨t, F, r, e⟩
  · exact r.tyx h
  · cases r with
    | fr r => subst e; exact r.tyx h
    | lst hs _ => subst e; exact .base (.lst hs)
    | dic hs _ _ => subst e; exact .base (.dK hs)
    | obj _ _ _ => subst e; cases h
/-- data with its answer -/
def oIsi (T : String) : D → (D → Prop) → Prop := fun d q => d.isObj = false ∧ ∃ b, kitB d.ty T = some b ∧ q (.bl b)
theorem de_isi {x y : Str} {T : String} {e : Expr} {t : TD} {p p' : Pos} (hm : X.mg x = none) (hm' : X.mg y = none) (he : DB C X e t) (hy : bootBuiltins y = some (.type T) := by first | rfl | decide +kernel) (hv : bootBuiltins x = some (.builtin "isinstance") := by first | rfl | decide +kernel) (hg : Gl X x := by rfl) (hg' : Gl X y := by rfl) (hn : x ≠ "__name__" := by decide) (hn' : y ≠ "__name__" := by decide)
    (hdb : (x == ("__debug__" : Str)) = false := by decide) (hdb' : (y == ("__debug__" : Str)) = false := by decide) (hs : starEach [e, .Name y p'] X.env = (false, eval e X.env) :: starEach [.Name y p'] X.env := by rfl) (hs2 : starEach [.Name y p'] X.env = (false, eval (.Name y p') X.env) :: starEach [] X.env := by rfl)
    (hpl : (backTo pos (starEach [.Name y p'] X.env)).any (·.1) = false := by rfl) (hK : X.K = C.K := by rfl) : DE C X (.Call (.Name x p) [e, .Name y p'] [] pos) (tUn1 (oIsi T) t) :=
  (pe_callB call_isi hg hm hv (pa_cons he (pa_cons (pe_bltn (v := .ty T) (u := .type T) hg' hm' hy rfl hn' hdb') pa_nil hs2) hs) hn hdb hs hpl).imp fun σ H Q ⟨ps, Ep, E, Z, Qd, w, h, post⟩ => ⟨ps, Ep, E, Z, _, w, h, fun d E1 Z1 H1 v w1 st1 r1 ⟨ho, b, hb, h1⟩ => by
    rw [hK]
    exact ⟨v, .ty T, .type d.ty, .type T, b, rfl, .ty T, r1.tyx ho, kit_ty hb, post _ E1 Z1 H1 _ w1 st1 (.bl b) h1⟩⟩

/-! ### the greatest, the least of a tuple of ints -/
section
variable {prog : Program} {w : World} {A : Around} {Er : Value → Shared → Prop} {s : Shared} {l : Addr} {its : List Value} {ns : List Int} {Q : Value → Shared → Prop}
theorem mx_tup (hh : A.handled = none) (hl : s.heap.IsTuple l its.toArray) (hi : IntsAre its ns) (hne : 0 < ns.length) (gr : Bool)
    (h : ∀ h' tk M t', (∀ b o, s.heap.get? b = some o → h'.get? b = some o) → M ∈ ns → (∀ a, a ∈ ns → if gr then a ≤ M else M ≤ a) → Q (.int M t') { s with heap := h', toks := tk }) : wpAny (model prog w) A (call (.builtin (if gr then "max" else "min")) [.ref l]) Q Er s := by
  obtain ⟨xs, e⟩ := hi.allInts.items
  have hn : numsOf (intItems xs).toList = ns := by rw [← e]; exact hi.numsOf
  rw [nums_intItems] at hn
  subst hn
  rw [e] at hl
  have hz : 0 < xs.size := by simpa using hne
  have hlt : l < s.heap.objs.size := by obtain ⟨_, q, _⟩ := hl; exact Heap.lt_size q
  have fp : ∀ (o : Obj) (b : Addr), b ∈ [s.heap.objs.size, l] → b < (s.heap.push o).objs.size := fun o b hb => by
    rw [Heap.size_push]
    rcases List.mem_cons.mp hb with rfl | hb
    · exact Nat.lt_succ_self _
    · rw [List.mem_singleton.mp hb]; exact Nat.lt_succ_of_lt hlt
  have old : ∀ (o : Obj) (h' : Heap), (∀ b u, b ∉ [s.heap.objs.size] → (s.heap.push o).get? b = some u → h'.get? b = some u) → ∀ b u, s.heap.get? b = some u → h'.get? b = some u := fun o h' hk b u q => by
    refine hk b u (fun hm => ?_) (Heap.get?_push_of_some _ q)
    have := Heap.lt_size q
    rw [List.mem_singleton.mp hm] at this
    exact Nat.lt_irrefl _ this
  cases gr with
  | true =>
    refine call_max_walk (wpAny_pyIter_tuple hl ?_)
    refine ⟨_, [_, l], [_], _, _, _, _, rfl, Walks.tuple (A := A.in1) hh _ l (Nat.ne_of_lt hlt) (intItems xs), ⟨⟨_, Heap.get?_push_size _ rfl, rfl, rfl⟩, hl.push _⟩, fun c hc => fp _ c hc, by simpa [intItems] using hz, CmpOf.ints_gt (numAt xs) (fun _ _ => intItems_at), fun v h' tk hP hk => ?_⟩
    obtain ⟨t, rfl⟩ := intItems_at hP
    have ez : (intItems xs).size = xs.size := by simp [intItems]
    rw [ez]
    obtain ⟨h1, h2⟩ := argBest_gt (numAt xs) (xs.size - 1)
    refine h h' tk _ t (old _ h' hk) ?_ fun a ha => ?_
    · rw [numAt_eq]; exact PySem.getD_mem (by rw [List.length_map, Array.length_toList]; omega)
    · obtain ⟨j, hj, rfl⟩ := mem_getD ha
      rw [List.length_map, Array.length_toList] at hj
      rw [if_pos rfl, ← numAt_eq]; exact h2 j (by omega)
  | false =>
    refine call_min_walk (wpAny_pyIter_tuple hl ?_)
    refine ⟨_, [_, l], [_], _, _, _, _, rfl, Walks.tuple (A := A.in1) hh _ l (Nat.ne_of_lt hlt) (intItems xs), ⟨⟨_, Heap.get?_push_size _ rfl, rfl, rfl⟩, hl.push _⟩, fun c hc => fp _ c hc, by simpa [intItems] using hz, CmpOf.ints_lt (numAt xs) (fun _ _ => intItems_at), fun v h' tk hP hk => ?_⟩
    obtain ⟨t, rfl⟩ := intItems_at hP
    have ez : (intItems xs).size = xs.size := by simp [intItems]
    rw [ez]
    obtain ⟨h1, h2⟩ := argBest_lt (numAt xs) (xs.size - 1)
    refine h h' tk _ t (old _ h' hk) ?_ fun a ha => ?_
    · rw [numAt_eq]; exact PySem.getD_mem (by rw [List.length_map, Array.length_toList]; omega)
    · obtain ⟨j, hj, rfl⟩ := mem_getD ha
      rw [List.length_map, Array.length_toList] at hj
      rw [if_neg Bool.false_ne_true, ← numAt_eq]; exact h2 j (by omega)
end
def oMxT (gr : Bool) : D → (D → Prop) → Prop := fun d q => match d with
  | .tup ds => ∃ ns : List Int, ds = ns.map D.int ∧ 0 < ns.length ∧ ∀ m, m ∈ ns → (∀ y, y ∈ ns → if gr then y ≤ m else m ≤ y) → q (.int m)
  | _ => False
def rMxT (K : Frg) (gr : Bool) : List V → Hp → VK → Prop := fun vs H Q => ∃ (a : Addr) (ns : List Int), vs = [V.ref a] ∧ SqT K H a (ns.map V.int) ∧ 0 < ns.length ∧ ∀ m, m ∈ ns → (∀ y, y ∈ ns → if gr then y ≤ m else m ≤ y) → Q (.int m) H
theorem cr_mxT (gr : Bool) (hc : X.calm = true) : CallR X (.builtin (if gr then "max" else "min")) (rMxT X.K gr) := by
  intro pins s σ H vs us Q I r ⟨a, ns, e, hs, hne, q⟩
  subst e
  obtain ⟨its, rv, hl, _⟩ := I.tuple hs
  rw [Vals.ref1 r]
  exact mx_tup (I.ok.hd hc) (show s.heap.IsTuple a its.toArray from hl) rv.ints hne gr fun h' tk m t' hk h1 h2 => ⟨.int _, H, I.kept hk, ⟨_, rfl⟩, q m h1 h2⟩
theorem m_mxT (gr : Bool) (hK : X.K = C.K) : Meets1 C (oMxT gr) (rMxT X.K gr) := fun Z H v d q Q r h k => by
  rw [hK]
  unfold oMxT at h
  split at h
  · obtain ⟨ns, rfl, hn, h⟩ := h
    obtain ⟨a, vs, rfl, hs, rs⟩ := r.tup
    rw [rs.ints] at hs
    exact ⟨a, ns, rfl, hs, hn, fun m h1 h2 => k _ _ (.int _) (h m h1 h2)⟩
  · cases h
theorem b_maxT (hc : X.calm = true := by rfl) (hK : X.K = C.K := by rfl) : CallR X (.builtin "max") (rMxT X.K true) ∧ Meets1 C (oMxT true) (rMxT X.K true) := ⟨cr_mxT true hc, m_mxT true hK⟩
theorem b_minT (hc : X.calm = true := by rfl) (hK : X.K = C.K := by rfl) : CallR X (.builtin "min") (rMxT X.K false) ∧ Meets1 C (oMxT false) (rMxT X.K false) := ⟨cr_mxT false hc, m_mxT false hK⟩

/-! ### list(reversed(xs)) -/
section
variable {prog : Program} {w : World} {A : Around} {Er : Value → Shared → Prop} {s : Shared} {Q : Value → Shared → Prop}
theorem list_of_rev {it l : Addr} {its : Array Value} (hh : A.handled = none) (hit : s.heap.IsRevIter it l ((its.size : Int) - 1)) (hl : s.heap.IsList l its) (hne : l ≠ it) (hn : its.size ≤ sizeLine)
    (hQ : ∀ (h' : Heap) (tk : Nat) (acc : Array Value) (c : Nat), (∀ b o, b ≠ it → s.heap.get? b = some o → h'.get? b = some o) → h'.get? s.heap.objs.size = some { cls := .type "list", dict := none, data := .seq acc c, slots := #[] } →
      ItemsOf (fun i v => its[its.size - 1 - i]? = some v) acc its.size → Q (.ref s.heap.objs.size) { s with heap := h', toks := tk }) : wpAny (model prog w) A (call (.type "list") [.ref it]) Q Er s := by
  obtain ⟨oi, hoi, _⟩ := id hit
  obtain ⟨ol, hol, _⟩ := id hl
  have ni : s.heap.objs.size ≠ it := Nat.ne_of_gt (Heap.lt_size hoi)
  have nl : s.heap.objs.size ≠ l := Nat.ne_of_gt (Heap.lt_size hol)
  refine callType_codes (Q₁ := fun ob s1 => ob = .ref s.heap.objs.size ∧ s1 = { s with heap := s.heap.push { cls := .type "list", data := .seq #[] } }) F.called_list (F.typeCall_list_1 _) F.entry_list_init (code_list_new _ ⟨rfl, rfl⟩) fun ob s1 h1 => ?_
  obtain ⟨rfl, rfl⟩ := h1
  have h0 : (s.heap.push { cls := .type "list", data := .seq #[] }).get? s.heap.objs.size = some { cls := .type "list", data := .seq #[] } := Heap.get?_push_size _ rfl
  refine ⟨⟨_, h0, rfl⟩, F.args_list_init_2 _ _, ?_⟩
  unfold Builtin.«list.__init__»
  refine wpAny_bind ?_
  unfold Builtin.List.listItems
  refine wpAny_bind (wpAny_seqItems h0 rfl (wpAny_pure ?_))
  refine wpAny_bind ?_
  show wpAny _ _ (updateSeq s.heap.objs.size (fun _ => #[])) _ _ _
  refine wpAny_updateSeq h0 rfl ?_
  have h2 := Heap.get?_update_self (Obj.mapSeq (fun _ => (#[] : Array Value))) h0 rfl
  have up : ∀ b o, b ≠ s.heap.objs.size → (s.heap.push { cls := .type "list", data := .seq #[] }).get? b = some o → ((s.heap.push { cls := .type "list", data := .seq #[] }).update s.heap.objs.size (Obj.mapSeq (fun _ => (#[] : Array Value)))).get? b = some o :=
    fun b o hb e => (Heap.get?_update_other _ _ (Ne.symm hb)).trans e
  have hit2 : ((s.heap.push { cls := .type "list", data := .seq #[] }).update s.heap.objs.size (Obj.mapSeq (fun _ => (#[] : Array Value)))).IsRevIter it l ((its.size : Int) - 1) := (hit.at fun o e => Heap.get?_push_of_some _ e).at fun o e => up it o (Ne.symm ni) e
  have hl2 : ((s.heap.push { cls := .type "list", data := .seq #[] }).update s.heap.objs.size (Obj.mapSeq (fun _ => (#[] : Array Value)))).IsList l its := ⟨ol, up l ol (Ne.symm nl) (Heap.get?_push_of_some _ hol), by assumption⟩
  refine wpAny_bind (wpAny_letGo ?_)
  have tyr := Heap.IsRevIter.typeIs (s := { s with heap := (s.heap.push { cls := .type "list", data := .seq #[] }).update s.heap.objs.size (Obj.mapSeq (fun _ => (#[] : Array Value))) }) hit2
  show wpAny _ _ (Builtin.List.listExtendWith (.ref s.heap.objs.size) (.ref it) .none) _ _ _
  unfold Builtin.List.listExtendWith
  refine wpAny_bind (wpAny_typeOf tyr ?_)
  rw [if_neg (by simp [Builtin.List.listSameRef, ni])]
  refine wpAny_bind (wpAny_pyIter_revIter (s := { s with heap := (s.heap.push { cls := .type "list", data := .seq #[] }).update s.heap.objs.size (Obj.mapSeq (fun _ => (#[] : Array Value))) }) hit2 ?_)
  refine wpAny_bind (wpAny_holding ?_)
  unfold Builtin.List.listLengthHint
  refine wpAny_bind (wpAny_specialOf tyr RT.nolen_lri ?_)
  show wpAny _ _ (specialOf (Value.ref it) (Str.ofString "__length_hint__") >>= _) _ _ _
  refine wpAny_bind (wpAny_specialOf tyr RT.hint_lri ?_)
  generalize hid : ("list_reverseiterator.__length_hint__" : String) = id0
  wp_delta
  rw [show splitId id0 = some ("list_reverseiterator", "__length_hint__") from by subst hid; decide +kernel]
  subst hid
  refine wpAny_bind (wpAny_isInstance (b := true) tyr (by rw [isSubtype_type]; kernel_rfl) ?_)
  refine wpAny_pure ?_
  rw [if_neg (by decide)]
  have W := (Walks.listRev (prog := prog) (w := w) (A := A.in1.in1) hh it l hne its).toS
  have nf : s.heap.objs.size ∉ [it, l] := by simp only [List.mem_cons, List.not_mem_nil, or_false, not_or]; exact ⟨ni, nl⟩
  have e0 : ((its.size : Nat) : Int) - 1 - ((0 : Nat) : Int) = (its.size : Int) - 1 := by omega
  refine wpAny_pure ⟨plainId_quiet F.plain_extend_loop _, codeAny_extend_loopS W hn _ nf _ its.size 0 _ _ _ rfl (Nat.zero_le _) ⟨Nat.zero_le _, by rw [e0]; exact hit2, hl2⟩ h2 (ItemsOf.nil _) fun s' acc c hm hS hacc => ?_⟩
  have em := Moved.eq_with hm
  refine ⟨rfl, ?_⟩
  rw [em]
  refine hQ s'.heap s'.toks acc c (fun b o hb e => hm.heap b o (fun hmem => ?_) (up b o (Nat.ne_of_lt (Heap.lt_size e)) (Heap.get?_push_of_some _ e))) hS hacc
  rcases List.mem_cons.mp hmem with e' | hmem
  · exact absurd (Heap.lt_size e) (by rw [e']; exact Nat.lt_irrefl _)
  · exact hb (List.mem_singleton.mp hmem)
end

theorem valsRev : ∀ {vs : List V} {us : List Value}, Vals vs us → Vals vs.reverse us.reverse := fun {vs us} h => by
  have app : ∀ {a b : List V} {c d : List Value}, Vals a c → Vals b d → Vals (a ++ b) (c ++ d) := fun {a b c d} h k => by
    induction h with
    | nil => exact k
    | cons r _ ih => exact .cons r ih
  induction h with
  | nil => exact .nil
  | cons r _ ih => rw [List.reverse_cons, List.reverse_cons]; exact app ih (.cons r .nil)
theorem items_rev {its : List Value} {acc : Array Value} (h : ItemsOf (fun i v => its.toArray[its.toArray.size - 1 - i]? = some v) acc its.toArray.size) : acc.toList = its.reverse := by
  have hs : acc.size = its.length := by have := h.1; simpa using this
  refine List.ext_getElem? fun i => ?_
  by_cases hi : i < its.length
  · have e : acc[i]? = some acc[i] := Array.getElem?_eq_getElem (by omega)
    have q := h.2 i _ e
    rw [Array.getElem?_toList, e]
    rw [List.getElem?_reverse hi]
    simp only [List.size_toArray, List.getElem?_toArray] at q
    exact q.symm
  · rw [List.getElem?_eq_none (by rw [Array.length_toList]; omega), List.getElem?_eq_none (by rw [List.length_reverse]; omega)]
def tRevOf (t : TD) : TN := fun E Q => t E fun d E1 => match d with
  | .lst ds => Q (.lst ds.reverse) E1
  | _ => False
theorem dn_listRev {e : Expr} {t : TD} {p p1 p2 : Pos} (hml : X.mg "list" = none) (hm : X.mg "reversed" = none) (he : DB C X e t) (hgl : Gl X "list" := by rfl) (hg : Gl X "reversed" := by rfl) (hc : X.calm = true := by rfl) (na : starEach [e] X.env = (false, eval e X.env) :: starEach [] X.env := by rfl)
    (nb : starEach [.Call (.Name "reversed" p1) [e] [] p2] X.env = (false, eval (.Call (.Name "reversed" p1) [e] [] p2) X.env) :: starEach [] X.env := by rfl) (hK : X.K = C.K := by rfl) : DN C X (.Call (.Name "list" p) [.Call (.Name "reversed" p1) [e] [] p2] [] pos) (tRevOf t) := by
  refine ⟨fun pins s σ H Q I h => ?_⟩
  obtain ⟨ps, Ep, E, Z, Qd, w, h, post⟩ := h
  refine Call_ (ld_blt I hgl hml boot_list (PyProof.Rows.callWith_type1 (args_cons (thn (Q := fun x s' => ∃ (s0 : Shared) (l : Addr) (its : List Value) (vs : List V) (ds : List D) (E1 : List S) (Z1 : Addr → Prop) (H1 : Hp), x = .ref s0.heap.objs.size ∧ s' = { s0 with heap := s0.heap.push (revObj l ((its.toArray.size : Int) - 1)) } ∧
    Inv X pins σ H1 s0 ∧ s0.heap.IsList l its.toArray ∧ Vals vs its ∧ vs.length ≤ sizeLine ∧ At C ps Ep Z1 σ E1 H1 ∧ Stp Z H Z1 H1 ∧ Reps C.K Z1 H1 vs ds ∧ Qd (.lst ds.reverse) E1) ?_ fun x s1 ⟨s0, l, its, vs, ds, E1, Z1, H1, ex, es, I0, hl, rv, hz, w1, st1, rs, q⟩ => args_nil ?_) nb) nb))
  · refine Call_ (ld_blt I hg hm (u := .type "reversed") (by first | rfl | decide +kernel) (PyProof.Rows.callWith_type1 (one_arg he I ⟨ps, Ep, E, Z, _, w, h, fun d E1 Z1 H1 v w1 st1 r1 h1 => ?_⟩ (fun u s2 y H2 I2 r2 (q : ∃ (l : Addr) (vs : List V) (ds : List D) (E1 : List S) (Z1 : Addr → Prop), y = .ref l ∧ SqL X.K H2 l vs ∧ At C ps Ep Z1 σ E1 H2 ∧ Stp Z H Z1 H2 ∧ Reps C.K Z1 H2 vs ds ∧ Qd (.lst ds.reverse) E1) => ?_) na) na))
    · split at h1
      · obtain ⟨a, vs, rfl, hs, rs⟩ := r1.lst
        exact ⟨a, vs, _, E1, Z1, rfl, hK ▸ hs, w1, st1, rs, h1⟩
      · cases h1
    · obtain ⟨l, vs, ds, E1, Z1, rfl, hs, w1, st1, rs, q⟩ := q
      cases (show u = Value.ref l from r2)
      obtain ⟨its, rv, pl, hz⟩ := I2.list hs
      refine call_reversed_list pl.isList ?_
      exact ⟨s2, l, its, vs, ds, E1, Z1, H2, rfl, rfl, I2, pl.isList, rv, hz, w1, st1, rs, q⟩
  · subst ex es
    have hne : l ≠ s0.heap.objs.size := by obtain ⟨_, e, _⟩ := hl; exact Nat.ne_of_lt (Heap.lt_size e)
    refine list_of_rev (I0.ok.hd hc) ⟨_, Heap.get?_push_size _ rfl, rfl, rfl⟩ (hl.push _) hne (by rw [List.size_toArray, ← rv.length]; exact hz) fun h' tk acc c hk hS hacc => ?_
    have hsz : (s0.heap.push (revObj l ((its.toArray.size : Int) - 1))).objs.size = s0.heap.objs.size + 1 := Heap.size_push ..
    have hold : ∀ b o, s0.heap.get? b = some o → h'.get? b = some o := fun b o e => hk b o (Nat.ne_of_lt (Heap.lt_size e)) (Heap.get?_push_of_some _ e)
    have ea := items_rev hacc
    have hf := I0.hok.fresh (a := (s0.heap.push (revObj l ((its.toArray.size : Int) - 1))).objs.size) (by rw [hsz]; exact Nat.le_succ _)
    obtain ⟨st2, w2⟩ := w1.push hf rs.reverse
    refine ⟨.ref _, upd H1 _ (.lst vs.reverse), I0.laid (t' := tk) hold (by rw [hsz]; exact Nat.le_succ _) (show ObjOk X.prog X.w _ _ _ (.lst vs.reverse) from ⟨by rw [List.length_reverse]; exact hz, acc.toList, c, by rw [ea]; exact valsRev rv, by rw [Array.toArray_toList]; exact hS⟩), rfl, post _ E1 Z1 _ _ w2 (st1.trans st2) q⟩
end
end DL
namespace DL
open PySem PySem.Spec PyProof.Rows L2
section
variable {C : Ctx} {X : Cx} {pos : Pos}
/-! ### == and != that only look -/
def MeetsB (C : Ctx) (o : O2) (r : R2) : Prop := ∀ (Z : Addr → Prop) (H : Hp) (v w : V) (x y : D) (q : D → Prop) (Q : VK), BRep C.K Z H v x → BRep C.K Z H w y → o x y q → (∀ z d, Rep C.K Z H z d → q d → Q z H) → r v w H Q
theorem ob_eq (hu : X.A.units + 64 < cLine) (hK : X.K = C.K := by rfl) : OpR X (compareOp .Eq) (rEqD X.K) ∧ MeetsB C oEq (rEqD X.K) := ⟨op_eqD hu, fun Z H v w x y q Q rx ry h k => by
  rw [hK]
  exact ⟨_, _, rx.dp (shp_lay h.1.1), ry.dp (shp_lay h.1.2), h.1.1, h.1.2, k _ _ (.bl _) h.2⟩⟩
theorem ob_ne (hu : X.A.units + 64 < cLine) (hK : X.K = C.K := by rfl) : OpR X (compareOp .NotEq) (rNeD X.K) ∧ MeetsB C oNe (rNeD X.K) := ⟨op_neD hu, fun Z H v w x y q Q rx ry h k => by
  rw [hK]
  exact ⟨_, _, rx.dp (shp_lay h.1.1), ry.dp (shp_lay h.1.2), h.1.1, h.1.2, k _ _ (.bl _) h.2⟩⟩
/-- first a name that is only looked at, then a plain second operand whose world goes on without touching it -/
def nameAt (E : List S) (i : Nat) (q : D → Prop) : Prop := match E[i]? with
  | some (.fr d) => q d
  | some (.ow t) => q t.fz
  | some (.mu t) => q t.fz
  | _ => False
def tCmpB (o : O2) (i : Nat) (tb : TD) : TB := fun E Q => (match E[i]? with | some s => s.knownB = true | none => False) ∧ tb E fun y E1 => nameAt E1 i fun x => o x y fun z => match z with
  | .bl k => Q k E1
  | _ => False
theorem dt_cmpB (i : Nat) {x : Str} {op : CmpOp} {o : O2} {r : R2} {b : Expr} {tb : TD} {pos' : Pos} (ho : OpR X (compareOp op) r ∧ MeetsB C o r) (hb : DE C X b tb) (hm : behindInMarks op b = false := by first | exact nomark _ | rfl) (hN : X.N[i]? = some x := by rfl)
    (hv : Vis X.env.scope x := by first | exact Or.inl rfl | exact Or.inr (Or.inl rfl) | exact Or.inr (Or.inr rfl)) (hd : (x == ("__debug__" : Str)) = false := by decide) (hcd : (x == ("__classdict__" : Str)) = false := by decide) : DT C X (.Compare (.Name x pos') [op] [b] pos) (tCmpB o i tb) :=
  (pt_cmpR ho.1 (pe_var hN hv hd hcd) hb hm).imp fun σ H Q ⟨ps, Ep, E, Z, Qd, w, ⟨hk, h⟩, post⟩ => by
    split at hk
    · rename_i s e
      obtain ⟨v, e1⟩ := w.known e hk
      refine ⟨v, e1, ps, Ep, E, Z, _, w, h, fun y E1 Z1 H1 u w1 st1 r1 h1 => ?_⟩
      have fin : ∀ x, BRep C.K Z1 H1 v x → (o x y fun z => match z with | .bl k => Qd k E1 | _ => False) → r v u H1 fun z H' => ∃ k, z = .bl k ∧ Q k H' := fun x rx hx => ho.2 Z1 H1 v u x y _ _ rx (.inl r1) hx fun z d rz q => by
        cases rz with
        | bl k => exact ⟨k, rfl, post k E1 Z1 H1 w1 st1 q⟩
        | _ => cases q
      unfold nameAt at h1
      split at h1
      · rename_i d e2
        obtain ⟨v', e3, r3⟩ := w1.get e2
        rw [e1] at e3; cases e3
        exact fin d (.inl r3) h1
      · rename_i t e2
        exact fin _ (w1.brep e2 rfl e1) h1
      · rename_i t e2
        exact fin _ (w1.brep e2 rfl e1) h1
      · cases h1
    · cases hk
end
end DL
namespace DL
open PySem PySem.Spec PyProof.Rows L2
/-- a promise of nothing -/
theorem fn_never {P : Program} {w : World} {K : Frg} {mg : Str → Option Value} {base : Heap} {CX : CXT} {k n : Nat} {f : Addr} {fd : FuncData} {ps : List Str} {sd : SpD} (h : ∀ a q, ¬ sd a q) : FnOk P w K mg base CX k f fd ps (spD K n sd) :=
  ⟨fun vs H Q E ⟨_, _, _, _, _, _, _, _, _, q, _⟩ => (h _ _ q).elim, fun A outer s H args us vs Q E _ _ _ _ ⟨_, _, _, _, _, _, _, _, _, q, _⟩ => (h _ _ q).elim⟩
end DL
set_option Elab.async false
set_option linter.all false
set_option maxRecDepth 100000
set_option maxHeartbeats 4000000
/-! DL, part k: plain facts on data. -/
namespace DL
open PySem PySem.Spec PyProof.Rows L2
theorem shpD {d : D} (h1 : d.py.canLay0 = true) (h2 : d.py.depth ≤ 64) : d.shp = true := Bool.and_eq_true_iff.mpr ⟨h1, decide_eq_true h2⟩
theorem layL {α : Type} (f : α → D) (h : ∀ a, (f a).py.canLay0 = true) : ∀ l : List α, PyData.canLayAll0 (D.pys (l.map f)) = true
  | [] => rfl
  | a :: l => Bool.and_eq_true_iff.mpr ⟨h a, layL f h l⟩
theorem depL {α : Type} (f : α → D) {n : Nat} (h : ∀ a, (f a).py.depth ≤ n) : ∀ l : List α, PyData.depthAll (D.pys (l.map f)) ≤ n
  | [] => Nat.zero_le _
  | a :: l => Nat.max_le.mpr ⟨h a, depL f h l⟩
theorem shpL {α : Type} (f : α → D) (h1 : ∀ a, (f a).py.canLay0 = true) (h2 : ∀ a, (f a).py.depth ≤ 60) (l : List α) : (D.lst (l.map f)).shp = true :=
  shpD (layL f h1 l) (Nat.le_trans (Nat.succ_le_succ (depL f h2 l)) (by decide))
theorem shp_ints (l : List Int) : (D.lst (l.map D.int)).shp = true := shpL D.int (fun _ => rfl) (fun _ => Nat.le_trans (Nat.le_of_eq rfl) (by decide : 0 ≤ 60)) l
/-- the place of a number in a list -/
theorem at_pos {ds : List D} {k : Int} {i : Nat} {d : D} (hk : k = i) (h : ds[i]? = some d) : atI ds k = some d := by
  have hi := (List.getElem?_eq_some_iff.mp h).1
  subst hk
  unfold atI ixN
  rw [if_pos (by omega), if_pos (by omega)]
  exact h
def pick3 (k x y z : Int) : Int := if k = 0 then x else if k = 1 then y else z
theorem at_3 (x y z : Int) {k : Int} (h0 : 0 ≤ k) (h : k < 3) : atI [D.int x, .int y, .int z] k = some (.int (pick3 k x y z)) := by
  have : k = 0 ∨ k = 1 ∨ k = 2 := by omega
  rcases this with rfl | rfl | rfl <;> rfl
theorem cut_tail (xs : List D) : cutD xs (some 1) none = xs.drop 1 := by
  have e0 : HT.sIx xs.length 0 (some 1) = min 1 xs.length := HT.sIx_nat _ _ 1
  have e1 : HT.sIx xs.length xs.length none = xs.length := rfl
  unfold cutD
  rw [e0, e1]
  by_cases h : xs = []
  · subst h; rfl
  · have : 1 ≤ xs.length := List.length_pos_iff.mpr h
    rw [show min 1 xs.length = 1 by omega]
    rw [List.take_of_length_le (by rw [List.length_drop]; exact Nat.le_refl _)]
theorem cut_init (xs : List D) (x : D) : cutD (xs ++ [x]) none (some (((xs ++ [x]).length : Int) - 1)) = xs := by
  have e0 : HT.sIx (xs ++ [x]).length 0 none = 0 := rfl
  have e1 : HT.sIx (xs ++ [x]).length (xs ++ [x]).length (some (((xs ++ [x]).length : Int) - 1)) = xs.length := by
    have e : (((xs ++ [x]).length : Int) - 1) = (xs.length : Int) := by rw [List.length_append, List.length_singleton]; omega
    rw [e, HT.sIx_nat, List.length_append, List.length_singleton]
    omega
  unfold cutD
  rw [e0, e1, List.drop_zero, Nat.sub_zero, List.take_left']
  rfl
theorem at_len (xs : List D) (x : D) : atI (xs ++ [x]) (((xs ++ [x]).length : Int) - 1) = some x := by
  refine at_pos (i := xs.length) (by rw [List.length_append, List.length_singleton]; omega) ?_
  rw [List.getElem?_append_right (Nat.le_refl _), Nat.sub_self]
  rfl
end DL
set_option Elab.async false
set_option linter.all false
set_option maxRecDepth 100000
set_option maxHeartbeats 4000000
/-! DL, part x: exceptions of one's own classes, over data. -/
namespace DL
open PySem PySem.Spec PyProof.Rows L2

/-- an exception: its class, its fields -/
structure EX where
  C : Addr
  ns : List Str
  ds : List D
abbrev WdX := EX → List S → Prop
def XRep (K : Frg) (Z : Addr → Prop) (H : Hp) (cls : Value) (d : Option Addr) (x : EX) : Prop := cls = .ref x.C ∧ ∃ dd fs, d = some dd ∧ Z dd ∧ H dd = some (.xd fs) ∧ fs.map (·.1) = x.ns ∧ Reps K Z H (fs.map (·.2)) x.ds
theorem XRep.mono {K : Frg} {Z Z' : Addr → Prop} {H H' : Hp} {cls : Value} {d : Option Addr} {x : EX} (st : Stp Z H Z' H') (h : XRep K Z H cls d x) : XRep K Z' H' cls d x :=
  let ⟨a, dd, fs, b, z, e, n, r⟩ := h
  ⟨a, dd, fs, b, st.zz _ z, (st.ke _ z).trans e, n, r.mono st⟩
def wxOf (C : Ctx) (Wd : WdX) : WX := fun cls d σ H => ∃ ps Ep Z E x, At C ps Ep Z σ E H ∧ XRep C.K Z H cls d x ∧ Wd x E
abbrev SpX := List S → (S → List S → Prop) → WdX → Prop
def spX (K : Frg) (n : Nat) (sx : SpX) : Sp := fun vs H Q E => ∃ (Z : Addr → Prop) (args : List S) (F : Foot) (Qd : S → List S → Prop) (Wd : WdX), vs.length = n ∧ Slots K Z H (vs.map some) args F ∧ (∀ i a, a ∈ F i → ¬ Z a) ∧ (∀ a, Z a → H a ≠ none) ∧ (∀ (i : Nat) t, args[i]? ≠ some (.ow t)) ∧ sx args Qd Wd ∧
  (∀ r Em Z' H' v, ResAt ⟨K, H, F, Z, vs, Z, H⟩ [] [] Z' (vs.map some) Em H' v r → Qd r Em → Q v H') ∧ (∀ x Em Z' H' cls d, At ⟨K, H, F, Z, vs, Z, H⟩ [] [] Z' (vs.map some) Em H' → XRep K Z' H' cls d x → Wd x Em → E cls d H')

section
variable {C : Ctx} {ps : Sg} {Ep : List S} {Z Z' : Addr → Prop} {σ : Sg} {E : List S} {H H' : Hp}
/-- what is pending is let go -/
theorem At.drops (w : At C ps Ep Z σ E H) : At C [] [] Z σ E H := by
  obtain ⟨hl, F, f⟩ := w
  refine ⟨hl, ?_⟩
  rw [List.append_nil, List.append_nil]
  refine f.re (fun j => j) hl (fun j s e => .inr ⟨up_get e, ?_, fun _ => rfl⟩) fun _ _ _ _ _ _ _ _ e => e
  rw [getD_left (by have := (List.getElem?_eq_some_iff.mp e).1; omega)]
/-- an object that nobody owns is frozen -/
theorem At.keep (w : At C ps Ep Z σ E H) {a : Addr} {o : HO} (ha : H a = some o) (hn : ¬ MutK o) (h0 : C.H0 a = none) : Stp Z H (fun b => Z b ∨ b = a) H ∧ At C ps Ep (fun b => Z b ∨ b = a) σ E H := by
  obtain ⟨hl, F, f⟩ := w
  have st : Stp Z H (fun b => Z b ∨ b = a) H := Stp.grow fun b h => .inl h
  refine ⟨st, hl, F, f.go st (fun _ _ _ => rfl) (fun i b hb h => ?_) (fun b o _ _ e => e) (fun b h => ?_) (fun b h => ?_) fun b h => h⟩
  · rcases h with h | h
    · exact f.nz i b hb h
    · subst h
      obtain ⟨u, e, k⟩ := f.kind hb
      rw [ha] at e; cases e
      exact hn k
  · rcases h with h | h
    · exact .inl h
    · subst h; exact .inr h0
  · rcases h with h | h
    · exact f.zt b h
    · subst h; rw [ha]; intro q; cases q
theorem At.h0 (w : At C ps Ep Z σ E H) {a : Addr} (h : H a = none) : C.H0 a = none := by
  obtain ⟨_, F, f⟩ := w
  exact Classical.byContradiction fun n => f.kt a n h
end

section
variable {C : Ctx} {X : Cx} {pos : Pos} {k n : Nat} {f : Addr} {fd : FuncData} {prs : List Str} {sx : SpX} {x : Str} {p : Pos} {e : Expr} {es : List Expr} {ta : TAm} {Wd : WdX}
/-! ### a call that may raise -/
def tCallXD (sx : SpX) (Wd : WdX) (ta : TAm) : TD := fun E Q => ta E fun as E1 => apart (msOf as) = true ∧ sx (as.map (argS E1)) (fun r Em => match r with
  | .fr d => Q d (backL as Em 0 E1)
  | _ => False) fun x Em => Wd x (backL as Em 0 E1)
def tCallXN (sx : SpX) (Wd : WdX) (ta : TAm) : TN := fun E Q => ta E fun as E1 => apart (msOf as) = true ∧ sx (as.map (argS E1)) (fun r Em => match r with
  | .ow t => Q t (backL as Em 0 E1)
  | _ => False) fun x Em => Wd x (backL as Em 0 E1)
theorem callX_imp {σ : Sg} {H : Hp} {Q : VK} {ps : Sg} {Ep : List S} {E : List S} {Z : Addr → Prop} {Qr : S → List S → Prop} (w : At C ps Ep Z σ E H)
    (h : ta E fun as E1 => apart (msOf as) = true ∧ sx (as.map (argS E1)) (fun r Em => Qr r (backL as Em 0 E1)) fun x Em => Wd x (backL as Em 0 E1))
    (post : ∀ r E' Z' H' v, ResAt C ps Ep Z' σ E' H' v r → Stp Z H Z' H' → Qr r E' → Q v H') : tCallSD (spX C.K n sx) [] (WE (wxOf C Wd)) (tamOf C n ta) σ H Q :=
  ⟨ps, Ep, E, Z, _, w, h, fun as E1 Z1 H1 vs w1 st1 ok hn ⟨ap, h1⟩ => by
    obtain ⟨F, f⟩ := w1.2
    obtain ⟨g1, g2, g3⟩ := call_go f w1.1 ok ap
    rw [List.append_nil]
    refine ⟨Z1, _, _, _, _, by rw [ok.length]; exact hn, g1, g2, f.zt, argS_no, h1, fun r Em Z' H' v R q => ?_, fun x Em Z' H' cls d wA xr hw => ?_⟩
    · obtain ⟨st2, R2⟩ := g3 r Em Z' H' v R
      exact post r _ Z' H' v R2 (st1.trans st2) q
    · obtain ⟨st2, R2⟩ := g3 (.fr .non) Em Z' H' .non ⟨wA, .non⟩
      exact ⟨ps, Ep, Z', _, x, R2.1, xr, hw⟩⟩
variable {st : Stmt}
theorem dcallx (G : FnOk X.prog X.w X.K X.mg X.base (L2.CX X.prog X.w) k f fd prs (spX X.K n sx)) (Dn' : Dn X.K X.mg x st prs f fd) (tk : Takes X (wxOf C Wd)) (hr : Room k X.A) (ha : DM C X (e :: es) ta) (hg : Gl X x := by rfl) (hn : n = (e :: es).length := by rfl) (hK : X.K = C.K := by rfl)
    (hdb : (x == ("__debug__" : Str)) = false := by decide) (he : starEach (e :: es) X.env = (false, eval e X.env) :: starEach es X.env := by rfl) (hpl : (backTo pos (starEach es X.env)).any (·.1) = false := by rfl) :
    DE C X (.Call (.Name x p) (e :: es) [] pos) (tCallXD sx Wd ta) := (pe_callSD G hr hg Dn'.m Dn'.F.kp Dn'.b .nil (fun σ => passAt tk σ) ha hdb he hpl).imp fun σ H Q ⟨ps, Ep, E, Z, Qd, w, h, post⟩ => by
  subst hn
  rw [hK]
  refine callX_imp (Qr := fun r E' => match r with | .fr d => Qd d E' | _ => False) w h fun r E' Z' H' v R st q => ?_
  cases r with
  | fr d => exact post d E' Z' H' v R.1 st R.2 q
  | un => cases q
  | ow t => cases q
  | mu t => cases q
theorem dcallnx (G : FnOk X.prog X.w X.K X.mg X.base (L2.CX X.prog X.w) k f fd prs (spX X.K n sx)) (Dn' : Dn X.K X.mg x st prs f fd) (tk : Takes X (wxOf C Wd)) (hr : Room k X.A) (ha : DM C X (e :: es) ta) (hg : Gl X x := by rfl) (hn : n = (e :: es).length := by rfl) (hK : X.K = C.K := by rfl)
    (hdb : (x == ("__debug__" : Str)) = false := by decide) (he : starEach (e :: es) X.env = (false, eval e X.env) :: starEach es X.env := by rfl) (hpl : (backTo pos (starEach es X.env)).any (·.1) = false := by rfl) :
    DN C X (.Call (.Name x p) (e :: es) [] pos) (tCallXN sx Wd ta) := (pe_callSD G hr hg Dn'.m Dn'.F.kp Dn'.b .nil (fun σ => passAt tk σ) ha hdb he hpl).imp fun σ H Q ⟨ps, Ep, E, Z, Qd, w, h, post⟩ => by
  subst hn
  rw [hK]
  refine callX_imp (Qr := fun r E' => match r with | .ow t => Qd t E' | _ => False) w h fun r E' Z' H' v R st q => ?_
  cases r with
  | ow t => exact post t E' Z' H' v R st q
  | un => cases q
  | fr d => cases q
  | mu t => cases q
end

/-! ### the rule for a def that may raise -/
section
variable {P : Program} {w : World} {K : Frg} {mg : Str → Option Value} {base : Heap}
def xEnd (n : Nat) (Wd : WdX) : WdX := fun x E => n ≤ E.length ∧ Wd x ((E.take n).map muO)
theorem fn_DX {x qual : Str} {st : Stmt} {f : Addr} {fd : FuncData} {N prs : List Str} {k : Nat} {sx : SpX} (F : Fun K x qual st f fd) (S' : FnScope N prs (defScope st)) {t : WdX → TSD}
    (hb : ∀ (H0 : Hp) (Fm : Foot) (Z0 : Addr → Prop) (vs : List V) (cdv : Value) (A : Around) (outer : List Env) (s : Shared) (H : Hp) (Ex : XK) (Wd : WdX), Room k (A.deeper (envOfC qual (defScope st) s.heap.objs.size f cdv)) →
      Takes (cxOf (L2.CX P w) P w K mg base N qual (defScope st) f cdv A outer s H Ex) (wxOf ⟨K, H0, Fm, Z0, vs, Z0, H0⟩ Wd) →
      PassesOwn (model P w) (A.deeper (envOfC qual (defScope st) s.heap.objs.size f cdv)) (envOfC qual (defScope st) s.heap.objs.size f cdv) (cxOf (L2.CX P w) P w K mg base N qual (defScope st) f cdv A outer s H Ex).xe →
      DSs ⟨K, H0, Fm, Z0, vs, Z0, H0⟩ (cxOf (L2.CX P w) P w K mg base N qual (defScope st) f cdv A outer s H Ex) (defBody st) (t Wd))
    (ht : ∀ args Qd Wd, args.length = prs.length → sx args Qd Wd → t (xEnd prs.length Wd) (dEnd prs.length Qd) (args ++ List.replicate (N.length - prs.length) .un)) :
    FnOk P w K mg base (L2.CX P w) (k + 1) f fd prs (spX K prs.length sx) := by
  refine F.okX S' (fun vs H Q E h => ?_) (fun cdv A outer s H vs Q E hr h => ?_)
  · obtain ⟨_, _, _, _, _, h, _⟩ := h
    exact h
  · obtain ⟨Z, args, F', Qd, Wd, hv, sl, nz, zt, no, h, post, postx⟩ := h
    have la : args.length = prs.length := by
      have := sl.len
      rw [List.length_map] at this
      omega
    have w0 := start_at (K := K) (N := N) (prs := prs) hv la sl nz zt no
    refine ⟨_, hb H F' Z vs cdv A outer s H E (xEnd prs.length Wd) hr ((takes_of (X := cxOf (L2.CX P w) P w K mg base N qual (defScope st) f cdv A outer s H E) (E := E) rfl rfl rfl rfl).imp fun cls d σ H' hx => ?_) (passes_of rfl), ?_⟩
    · obtain ⟨ps, Ep, Z', E', x, wA, xr, le, hw⟩ := hx
      obtain ⟨q, _⟩ := ResAt.ends (C := ⟨K, H, F', Z, vs, Z, H⟩) (r := .fr .non) (v := .non) hv le ⟨wA.drops, .non⟩
      exact postx x _ Z' H' cls d q xr hw
    · refine ⟨[], [], _, Z, _, w0, ht args Qd Wd la h, ⟨fun σ' E' Z' H' w' st' ⟨le, q⟩ => ?_, fun _ _ _ _ _ _ q => q, fun _ _ _ _ _ _ q => q, fun r σ' E' Z' H' v w' st' ⟨le, q⟩ => ?_, rfl, rfl⟩⟩
      · exact post (.fr .non) _ Z' H' .non (ResAt.ends (C := ⟨K, H, F', Z, vs, Z, H⟩) (r := .fr .non) hv le ⟨w', .non⟩) q
      · exact post r _ Z' H' v (ResAt.ends (C := ⟨K, H, F', Z, vs, Z, H⟩) hv le w') q
end
end DL
set_option Elab.async false
set_option linter.all false
set_option maxRecDepth 100000
set_option maxHeartbeats 4000000
/-! DL, part y: raise and try, over data. -/
namespace DL
open PySem PySem.Spec PyProof.Rows L2

/-! ### an own class of one field -/
def spE1 (C : Addr) (f : Str) : Sp := fun vs H Q _ => ∃ (a : Addr) (y : V), vs = [.ref a, y] ∧ H a = some (exo a C none) ∧ ∀ dx, H dx = none → dx ≠ a → Q .non (upd (upd H dx (exd dx [(f, y)])) a (exo a C (some dx)))
/-- what the text's end says of such a class -/
structure E1 (K : Frg) (mg : Str → Option Value) (x f : Str) (C fI : Addr) (fd : FuncData) (y : Str) : Prop where
  T : OexC K C
  m : mg x = some (.ref C)
  iC : PySem.W.findIn K (.ref C) "__init__" = some (some (.ref fI))
  tI : PySem.W.typeIn K (.ref fI) = some (.type "function")
  b : Binds K fd ["self", y] []
  no : PySem.W.findIn K (.ref C) f = some none
  xf : XfC K C
  G : ∀ (P : Program) (w : World) (base : Heap), FnOk P w K mg base CX0 1 fI fd ["self", y] (spE1 C f)
section
variable {C : Ctx} {X : Cx} {pos p1 p : Pos} {x f y : Str} {Cc fI : Addr} {fd : FuncData} {e : Expr} {t : TD} {Wd : WdX}
/-- raise C(e) -/
def dRaise1 (Wd : WdX) (Cc : Addr) (f : Str) (t : TD) : TSD := fun _ E => t E fun d E1 => Wd ⟨Cc, [f], [d]⟩ E1
theorem ds_raise1 (M : E1 X.K X.mg x f Cc fI fd y) (tk : Takes X (wxOf C Wd)) (hr : Room 2 X.A) (he : DE C X e t) (hc : X.calm = true := by rfl) (hg : Gl X x := by rfl) (hK : X.K = C.K := by rfl) (hdb : (x == ("__debug__" : Str)) = false := by decide) (hs : starEach [e] X.env = (false, eval e X.env) :: starEach [] X.env := by rfl)
    (hpl : (backTo p1 (starEach [] X.env)).any (·.1) = false := by rfl) : DS C X (.Raise (some (.Call (.Name x p) [e] [] p1)) none pos) (dRaise1 Wd Cc f t) :=
  (ps_raise hc tk (pmk_oex M.T M.iC M.tI (M.G X.prog X.w X.base) hr M.b .nil pass0 hg M.m (pa_cons he pa_nil hs) hdb hs hpl)).imp fun Dn σ H ⟨ps, Ep, E, Z, Dd, w, h, ft⟩ =>
    ⟨ps, Ep, E, Z, _, w, h, fun d E1 Z1 H1 v w1 st1 r1 h1 => ⟨by show 1 ≤ 1000; decide, fun a ha => ⟨a, v, rfl, upd_same, fun dx hdx hne => by
      have hd1 : H1 dx = none := by rw [upd_ne hne] at hdx; exact hdx
      refine ⟨rfl, dx, [(f, v)], upd_same, by rw [upd_ne hne, upd_same], hd1, ?_⟩
      have eH : upd (del (upd (upd (upd H1 a (exo a Cc none)) dx (exd dx [(f, v)])) a (exo a Cc (some dx))) a) dx (.xd [(f, v)]) = upd H1 dx (.xd [(f, v)]) := by
        funext b
        by_cases h1 : b = dx
        · subst h1; rw [upd_same, upd_same]
        · rw [upd_ne h1, upd_ne h1]
          by_cases h2 : b = a
          · subst h2; rw [del_same, ha]
          · rw [del_ne h2, upd_ne h2, upd_ne h1, upd_ne h2]
      rw [eH]
      have w2 := w1.new (o := .xd [(f, v)]) hd1
      obtain ⟨st3, w3⟩ := w2.keep upd_same (fun k => k) (w1.h0 hd1)
      have st2 : Stp Z1 H1 Z1 (upd H1 dx (.xd [(f, v)])) := Stp.new w1.zt hd1
      exact ⟨ps, Ep, _, E1, ⟨Cc, [f], [d]⟩, w3, ⟨rfl, dx, [(f, v)], rfl, .inr rfl, upd_same, rfl, .one (r1.mono (st2.trans st3))⟩, h1⟩⟩⟩⟩
end
/-- its __init__: self.f = y -/
theorem init1 {P : Program} {w : World} {K : Frg} {mg : Str → Option Value} {base : Heap} {qual : Str} {st : Stmt} {fI C : Addr} {fd : FuncData} {f y : Str} {p1 p2 p3 p4 : Pos} (F : Fun K "__init__" qual st fI fd) (hb : defBody st = [.Assign [.Attribute (.Name "self" p1) f p2] (.Name y p3) p4])
    (S' : FnScope ["self", y] ["self", y] (defScope st)) (T : OexC K C) (no : PySem.W.findIn K (.ref C) f = some none) (hv : Vis (defScope st) y) (hv0 : Vis (defScope st) "self") (hd : (y == ("__debug__" : Str)) = false) (hcd : (y == ("__classdict__" : Str)) = false) : FnOk P w K mg base CX0 1 fI fd ["self", y] (spE1 C f) := by
  refine F.ok S' (fun vs H Q E h => ?_) (fun cdv A outer s H vs Q E hr h => ?_)
  · obtain ⟨a, v, rfl, _⟩ := h
    rfl
  · obtain ⟨a, v, rfl, ha, k⟩ := h
    rw [hb]
    refine ⟨_, pss_one (ps_ost (pe_var (i := 0) rfl hv0 (by decide) (by decide)) (pe_var (i := 1) rfl hv hd hcd) rfl), ?_⟩
    exact ⟨v, rfl, .ref a, rfl, a, C, rfl, T, no, .inl ⟨ha, fun dx h1 h2 => k dx h1 h2⟩⟩
end DL
set_option Elab.async false
set_option linter.all false
set_option maxRecDepth 100000
set_option maxHeartbeats 4000000
/-! DL, part z: try with clauses that name what they caught, or not. -/
namespace DL
open PySem PySem.Spec PyProof.Rows L2

abbrev HSpec := Value × Option Nat × (Addr → Value → Option Addr → TS)
/-- the ends of a suite whose name goes -/
def goneE (o : Option Nat) (D : Ends) : Ends := match o with
  | none => D
  | some i => { nx := fun σ' H' => D.nx (σ'.set i none) H', rt := D.rt, bk := fun σ' H' => D.bk (σ'.set i none) H', ct := fun σ' H' => D.ct (σ'.set i none) H' }
def goneS (o : Option Nat) (a : Addr) (σ : Sg) : Sg := match o with
  | none => σ
  | some i => σ.set i (some (.ref a))
def wHs (K : Frg) (Wout : WX) (D : Ends) : List HSpec → WX
  | [] => Wout
  | (c, o, ts) :: r => fun cls d σ H => ∃ b, PySem.W.exmOne K cls c = some b ∧ (b = true → ∀ a, H a = none → ts a cls d (goneE o D) (goneS o a σ) H) ∧ (b = false → wHs K Wout D r cls d σ H)
/-- the clauses' suites, each by its reading -/
inductive Hds (X : Cx) : List ExceptHandler → List HSpec → Prop
  | nil : Hds X [] []
  | bare {x : Str} {c : Value} {ts : Addr → Value → Option Addr → TS} {b0 : Stmt} {su : List Stmt} {np hp : Pos} {hds : List ExceptHandler} {l : List HSpec} (hc : Names X x c)
      (hs : ∀ (a : Addr) (oe : Obj) (cls : Value) (d : Option Addr) (pn : List (Addr × Obj)), Zc cls d oe → (∃ vs, oe.data = .fields vs) → PSs (X.suite a ((a, oe) :: pn)) (b0 :: su) (ts a cls d)) (r : Hds X hds l) :
      Hds X (.ExceptHandler (some (.Name x np)) none (b0 :: su) hp :: hds) ((c, none, ts) :: l)
  | named {x n : Str} {i : Nat} {c : Value} {ts : Addr → Value → Option Addr → TS} {b0 : Stmt} {su : List Stmt} {np hp : Pos} {hds : List ExceptHandler} {l : List HSpec} (hc : Names X x c) (hi : X.N[i]? = some n) (hl : X.env.kindOf n = some .local)
      (hs : ∀ (a : Addr) (oe : Obj) (cls : Value) (d : Option Addr) (pn : List (Addr × Obj)), Zc cls d oe → (∃ vs, oe.data = .fields vs) → PSs (X.suite a ((a, oe) :: pn)) (b0 :: su) (ts a cls d)) (r : Hds X hds l) :
      Hds X (.ExceptHandler (some (.Name x np)) (some n) (b0 :: su) hp :: hds) ((c, some i, ts) :: l)
section
variable {X : Cx} {body : List Stmt} {h0 : ExceptHandler} {hds : List ExceptHandler} {l : List HSpec} {pos : Pos} {tb : WX → TS} {Wout : WX}
/-- what the clauses do with an exception that has landed -/
theorem hds_go {a : Addr} {B : Heap} {sI s' : Shared} {h3 : Heap} {pins : List (Addr × Obj)} {σ' : Sg} {H' : Hp} {cls : Value} {d : Option Addr} {D : Ends} (ok : X.Ok) (hs : X.stack = X.env :: X.outer) (hf : X.env.frame = some X.env.locals) (hN : X.N.Nodup) (tk : Takes X Wout)
    (J : Inv X pins σ' H' sI) (nb : ∀ b o, sI.heap.get? b = some o → b ∉ frs X.stack → B.get? b = some o) (up : sI.heap.UpToSlots h3) (fl : HandSPX.FlyingZ B (X.env :: X.outer) a (Zc cls d) h3) (na : H' a = none) (os : s'.os = sI.os) (ag : AllBare s'.gens) :
    ∀ {hds : List ExceptHandler} {l : List HSpec}, Hds X hds l → wHs X.K Wout D l cls d σ' H' → wpAny (model X.prog X.w) X.A (handleBy (.ref a) X.env hds) (SP X pins D) X.xe { s' with heap := h3 } := by
  have land : ∀ {h4 : Heap}, HandSPX.FlyingZ B (X.env :: X.outer) a (Zc cls d) h4 → sI.heap.UpToSlots h4 → ∃ oe, Zc cls d oe ∧ (∃ vs, oe.data = .fields vs) ∧ Inv X pins σ' H' { s' with heap := h4 } ∧ Inv (X.suite a ((a, oe) :: (X.pn ++ pins))) [] σ' H' { s' with heap := h4 } ∧ h4.get? a = some oe := fun {h4} f u => by
    have J4 : Inv X pins σ' H' { s' with heap := h4 } := J.landed nb f.1 u os ag
    obtain ⟨oe, vs, he, hz, hd⟩ := f.there
    have nfr : a ∉ frs (X.env :: X.outer) := fun hm => by
      obtain ⟨_, o', e', hnf⟩ := f.2.2.1.mem hm
      rw [he] at e'; cases e'
      exact hnf _ hd
    refine ⟨oe, hz, ⟨vs, hd⟩, J4, J4.suite he hd na (fun z => nfr (List.mem_filterMap.mpr ⟨X.env, List.mem_cons_self, by rw [hf, z]⟩)) (fun hm => ?_), he⟩
    obtain ⟨e, hm, q⟩ := List.mem_filterMap.mp hm
    exact nfr (List.mem_filterMap.mpr ⟨e, List.mem_cons_of_mem _ hm, q⟩)
  obtain ⟨oe3, hz3, hd3, J3, S3, he3⟩ := land fl up
  have test : ∀ {x : Str} {c : Value} {np : Pos} {Q : Value → Shared → Prop} {E : Value → Shared → Prop}, Names X x c → Q c { s' with heap := h3 } → wpAny (model X.prog X.w) (X.A.mark (some (.ref a))) (eval (.Name x np) X.env) Q E { s' with heap := h3 } := fun {x c np Q E} hc q => by
    obtain ⟨hg, hdbg, hm | ⟨hm, hv, hnn⟩⟩ := hc
    · exact ld_glob (X := X.suite a _) S3 hg hm q hdbg
    · exact ld_blt (X := X.suite a _) S3 hg hm hv q hnn hdbg
  have LT : PySem.W.Looks (model X.prog X.w) h3 (typeOf (.ref a)) cls := fun A Q E s k q => wpAny_typeOf_ref (k _ _ he3) (by rw [hz3.1]; exact q)
  have look : ∀ {c : Value} {b : Bool}, PySem.W.exmOne X.K cls c = some b → PySem.W.Looks (model X.prog X.w) h3 (excMatches (.ref a) c) b := fun {c b} hb => PySem.W.exm_one J3.kIn LT hb
  intro hds l hh
  induction hh with
  | nil =>
    intro w
    refine wpAny_handleBy_nil ?_
    obtain ⟨k1, k2, k3, oe, vs, T, oT, ts', he, hz, hd, h1, hr⟩ := id fl
    unfold PySem.passOn
    refine wpAny_bind (wpAny_field he hd h1 ?_)
    rw [if_neg (show ¬ ((Value.ref T == Value.none) = true) by simp)]
    have fin : wpAny (model X.prog X.w) X.A (setFlight (.ref a) X.env.frame) (fun _ s4 => wpAny (model X.prog X.w) X.A (throw (.ref a) : Sem Flow) (SP X pins D) X.xe s4) X.xe { s' with heap := h3 } := by
      rw [hf]
      refine HandSPX.setFlight_upZ fl fun h4 hh4 up4 => wpAny_throw (tk _ _ ⟨a, B, sI, pins, σ', H', cls, d, rfl, J, nb, up.trans up4, .inr (.inr (by rw [hs]; exact hh4)), na, os, ag, w⟩)
    first
    | exact wpAny_bind (wpAny_pure (wpAny_bind fin))
    | exact wpAny_bind fin
  | bare hc hsu r ih =>
    intro w
    obtain ⟨b, hb, yes, no⟩ := w
    refine wpAny_handleBy_cons (codeAny_handlers_test (test hc ((look hb).here ?_))) (by intro q; cases q)
    cases b with
    | true =>
      refine codeAny_handlers_suite (HandSPX.lands_againZ fl fun h4 fl4 up4 => ?_)
      obtain ⟨oe4, hz4, hd4, J4, S4, he4⟩ := land fl4 (up.trans up4)
      refine wpAny_mono ((hsu a oe4 cls d (X.pn ++ pins) hz4 hd4).run [] _ _ H' _ S4 (yes rfl a na)) (fun g s6 hsp => ?_) fun _ _ z => z.elim
      cases g with
      | next => obtain ⟨σ6, H6, S6, q6⟩ := hsp; exact ⟨_, _, S6.unsuite ok, q6⟩
      | brk => obtain ⟨σ6, H6, S6, q6⟩ := hsp; exact ⟨_, _, S6.unsuite ok, q6⟩
      | cont => obtain ⟨σ6, H6, S6, q6⟩ := hsp; exact ⟨_, _, S6.unsuite ok, q6⟩
      | ret u => obtain ⟨v6, σ6, H6, S6, r6, q6⟩ := hsp; exact ⟨_, _, _, S6.unsuite ok, r6, q6⟩
    | false => exact ih (no rfl)
  | named hc hi hl hsu r ih =>
    intro w
    obtain ⟨b, hb, yes, no⟩ := w
    refine wpAny_handleBy_cons (codeAny_handlers_test (test hc ((look hb).here ?_))) (by intro q; cases q)
    cases b with
    | true =>
      refine codeAny_handlers_suite_as (HandSPX.lands_againZ fl fun h4 fl4 up4 => ?_)
      obtain ⟨oe4, hz4, hd4, J4, S4, he4⟩ := land fl4 (up.trans up4)
      refine store_ok (X := X.suite a ((a, oe4) :: (X.pn ++ pins))) (v := .ref a) S4 hN hi (.inl hl) rfl (fun s5 S5 => ?_) (.inr hl)
      refine wpAny_mono ((hsu a oe4 cls d (X.pn ++ pins) hz4 hd4).run [] s5 _ H' _ S5 (yes rfl a na)) (fun g s6 hsp => ?_) fun _ _ z => z.elim
      cases g with
      | next => obtain ⟨σ6, H6, S6, q6⟩ := hsp; exact gone_ok (S6.unsuite ok) hN hi hl fun s7 J7 => ⟨_, _, J7, q6⟩
      | brk => obtain ⟨σ6, H6, S6, q6⟩ := hsp; exact gone_ok (S6.unsuite ok) hN hi hl fun s7 J7 => ⟨_, _, J7, q6⟩
      | cont => obtain ⟨σ6, H6, S6, q6⟩ := hsp; exact gone_ok (S6.unsuite ok) hN hi hl fun s7 J7 => ⟨_, _, J7, q6⟩
      | ret u => obtain ⟨v6, σ6, H6, S6, r6, q6⟩ := hsp; exact gone_ok (S6.unsuite ok) hN hi hl fun s7 J7 => ⟨_, _, _, J7, r6, q6⟩
    | false => exact ih (no rfl)
theorem ps_try (hs : X.stack = X.env :: X.outer) (hf : X.env.frame = some X.env.locals) (hN : X.N.Nodup) (tk : Takes X Wout)
    (hb : ∀ (W : WX) (pn : List (Addr × Obj)) (xe : Value → Shared → Prop), Takes (X.tr pn xe) W → PassesOwn (model X.prog X.w) X.A X.env xe → PSs (X.tr pn xe) body (tb W)) (hh : Hds X (h0 :: hds) l) :
    PS X (.Try body (h0 :: hds) [] [] pos) (fun D σ H => tb (wHs X.K Wout D l) D σ H) := by
  refine ⟨fun pins s σ H D I h => ?_⟩
  have ok := I.ok
  have hfr : X.A.frames = some (X.env :: X.outer) := by rw [ok.frames, hs]
  refine wpAny_Try_except ?_
  refine wpAny_mono ((hb (wHs X.K Wout D l) (X.pn ++ pins) _ (fun u s' xx => ?_) PassesOwn.looking).run [] s σ H D (I.toTry _) h) (fun g s1 hsp => ?_) fun e s1 he => he
  · obtain ⟨a, B, sI, pins', σ', H', cls, d, rfl, J', nb, up, sky, na, os, ag, w⟩ := xx
    have J : Inv X pins σ' H' sI := J'.ofTry ok
    have sky' : Sky B (X.env :: X.outer) a (Zc cls d) X.env.locals s'.heap := by rw [← hs]; exact sky
    exact Sky.land Zc.steady hfr hf sky' fun h3 fl3 up3 => hds_go ok hs hf hN tk J nb (up.trans up3) fl3 na os ag hh w
  · cases g with
    | next => obtain ⟨σ', H', J', q⟩ := hsp; exact wpAny_execs_nil ⟨σ', H', J'.ofTry ok, q⟩
    | brk => obtain ⟨σ', H', J', q⟩ := hsp; exact ⟨σ', H', J'.ofTry ok, q⟩
    | cont => obtain ⟨σ', H', J', q⟩ := hsp; exact ⟨σ', H', J'.ofTry ok, q⟩
    | ret u => obtain ⟨v, σ', H', J', r, q⟩ := hsp; exact ⟨v, σ', H', J'.ofTry ok, r, q⟩
end
end DL
set_option Elab.async false
set_option linter.all false
set_option maxRecDepth 100000
set_option maxHeartbeats 4000000
/-! DL, part za: try over data; a caught exception's fields. -/
namespace DL
open PySem PySem.Spec PyProof.Rows L2

abbrev Ctx.on (C : Ctx) (fZ : Addr → Prop) (fH : Hp) : Ctx := ⟨C.K, C.H0, C.Fm, C.Z0, C.vs, fZ, fH⟩
section
variable {C : Ctx} {ps : Sg} {Ep : List S} {Z Z' : Addr → Prop} {σ : Sg} {E : List S} {H H' : Hp}
/-- another floor -/
theorem At.floor {fZ gZ : Addr → Prop} {fH gH : Hp} (w : At (C.on fZ fH) ps Ep Z σ E H) (st : Stp gZ gH Z H) : At (C.on gZ gH) ps Ep Z σ E H := by
  obtain ⟨hl, F, f⟩ := w
  exact ⟨hl, F, f.sl, f.nz, f.own, f.mum, f.mus, f.fr, f.z0, f.zn, f.zt, f.kt, st⟩
theorem At.fl (w : At C ps Ep Z σ E H) : Stp C.fZ C.fH Z H := by
  obtain ⟨_, F, f⟩ := w
  exact f.fl
theorem ResAt.floor {fZ gZ : Addr → Prop} {fH gH : Hp} {v : V} {r : S} (w : ResAt (C.on fZ fH) ps Ep Z σ E H v r) (st : Stp gZ gH Z H) : ResAt (C.on gZ gH) ps Ep Z σ E H v r := by
  cases r with
  | un => exact w
  | mu t => exact w
  | fr d => exact ⟨w.1.floor st, w.2⟩
  | ow t => exact At.floor w st
theorem ResAt.fl {fZ : Addr → Prop} {fH : Hp} {v : V} {r : S} (w : ResAt (C.on fZ fH) ps Ep Z σ E H v r) : Stp fZ fH Z H := by
  cases r with
  | un => cases w
  | mu t => cases w
  | fr d => exact w.1.fl
  | ow t => exact At.fl w
end
/-- a clause: its class, the slot of its name, its suite's reading (of the exception, of the object at a) -/
abbrev HD := Value × Option Nat × (EX → Addr → TSD)
def goneD (o : Option Nat) (D : DEnd) : DEnd := match o with
  | none => D
  | some i => { nx := fun E => D.nx (E.set i .un), rt := D.rt, bk := fun E => D.bk (E.set i .un), ct := fun E => D.ct (E.set i .un) }
def goneL (o : Option Nat) (a : Addr) (E : List S) : List S := match o with
  | none => E
  | some i => E.set i (.fr (.kon a))
def freeL (o : Option Nat) (E : List S) : Prop := match o with
  | none => True
  | some i => S.free E[i]? = true
def xHs (K : Frg) (Wd : WdX) (D : DEnd) : List HD → WdX
  | [] => Wd
  | (c, o, t) :: r => fun x E => ∃ b, PySem.W.exmOne K (.ref x.C) c = some b ∧ (b = true → freeL o E ∧ ∀ a, t x a (goneD o D) (goneL o a E)) ∧ (b = false → xHs K Wd D r x E)
def dTry (K : Frg) (tb : WdX → TSD) (l : List HD) (Wd : WdX) : TSD := fun D E => tb (xHs K Wd D l) D E
def tsSu (C : Ctx) (t : EX → Addr → TSD) : Addr → Value → Option Addr → TS := fun a cls d Dn σ H => ∃ fZ fH x, XRep C.K fZ fH cls d x ∧ tsOf (C.on fZ fH) (t x a) Dn σ H
inductive HdD (C : Ctx) (X : Cx) : List ExceptHandler → List HD → Prop
  | nil : HdD C X [] []
  | bare {x : Str} {c : Value} {t : EX → Addr → TSD} {b0 : Stmt} {su : List Stmt} {np hp : Pos} {hds : List ExceptHandler} {l : List HD} (hc : Names X x c)
      (hs : ∀ (a : Addr) (oe : Obj) (cls : Value) (d : Option Addr) (pn : List (Addr × Obj)) (fZ : Addr → Prop) (fH : Hp) (ex : EX), Zc cls d oe → (∃ vs, oe.data = .fields vs) → XRep C.K fZ fH cls d ex → DSs (C.on fZ fH) (X.suite a ((a, oe) :: pn)) (b0 :: su) (t ex a)) (r : HdD C X hds l) :
      HdD C X (.ExceptHandler (some (.Name x np)) none (b0 :: su) hp :: hds) ((c, none, t) :: l)
  | named {x n : Str} (i : Nat) {c : Value} {t : EX → Addr → TSD} {b0 : Stmt} {su : List Stmt} {np hp : Pos} {hds : List ExceptHandler} {l : List HD} (hc : Names X x c)
      (hs : ∀ (a : Addr) (oe : Obj) (cls : Value) (d : Option Addr) (pn : List (Addr × Obj)) (fZ : Addr → Prop) (fH : Hp) (ex : EX), Zc cls d oe → (∃ vs, oe.data = .fields vs) → XRep C.K fZ fH cls d ex → DSs (C.on fZ fH) (X.suite a ((a, oe) :: pn)) (b0 :: su) (t ex a)) (r : HdD C X hds l)
      (hi : X.N[i]? = some n := by rfl) (hl : X.env.kindOf n = some .local := by rfl) : HdD C X (.ExceptHandler (some (.Name x np)) (some n) (b0 :: su) hp :: hds) ((c, some i, t) :: l)
def specs (C : Ctx) : List HD → List HSpec
  | [] => []
  | (c, o, t) :: r => (c, o, tsSu C t) :: specs C r
section
variable {C : Ctx} {X : Cx} {body : List Stmt} {h0 : ExceptHandler} {hds : List ExceptHandler} {l : List HD} {pos : Pos} {tb : WdX → TSD} {Wd : WdX}
theorem HdD.toHds {hds : List ExceptHandler} {l : List HD} (h : HdD C X hds l) : Hds X hds (specs C l) := by
  induction h with
  | nil => exact .nil
  | bare hc hs r ih => exact .bare hc (fun a oe cls d pn hz hf => ⟨fun pins s σ H D I ⟨fZ, fH, x, xr, q⟩ => (hs a oe cls d pn fZ fH x hz hf xr).run pins s σ H D I q⟩) ih
  | named i hc hs r hi hl ih => exact .named hc hi hl (fun a oe cls d pn hz hf => ⟨fun pins s σ H D I ⟨fZ, fH, x, xr, q⟩ => (hs a oe cls d pn fZ fH x hz hf xr).run pins s σ H D I q⟩) ih
/-- what the clauses wish, over data -/
theorem wish_of {Z : Addr → Prop} {H : Hp} {Dd : DEnd} {Dn : Ends} (f : Fits C [] [] Z H Dd Dn) (w0 : Stp C.fZ C.fH Z H) : ∀ (l : List HD) (cls : Value) (d : Option Addr) (σ' : Sg) (H' : Hp), wxOf (C.on Z H) (xHs C.K Wd Dd l) cls d σ' H' → wHs C.K (wxOf C Wd) Dn (specs C l) cls d σ' H'
  | [], cls, d, σ', H', ⟨ps, Ep, Z', E', x, w, xr, hx⟩ => ⟨ps, Ep, Z', E', x, w.floor (gZ := C.fZ) (gH := C.fH) (w0.trans w.fl), xr, hx⟩
  | (c, o, t) :: r, cls, d, σ', H', ⟨ps, Ep, Z', E', x, w, xr, b, hb, yes, no⟩ => by
    refine ⟨b, by rw [xr.1]; exact hb, fun h a na => ?_, fun h => wish_of f w0 r cls d σ' H' ⟨ps, Ep, Z', E', x, w, xr, no h⟩⟩
    obtain ⟨fr, q⟩ := yes h
    have st : Stp Z H Z' H' := w.fl
    have w1 : At (C.on Z' H') [] [] Z' σ' E' H' := w.drops.floor (Stp.refl _ _)
    have base : Fits (C.on Z' H') [] [] Z' H' Dd Dn := ⟨fun σ5 E5 Z5 H5 w5 s5 q5 => f.nx σ5 E5 Z5 H5 (w5.floor (gZ := C.fZ) (gH := C.fH) (w0.trans (st.trans s5))) (st.trans s5) q5, fun σ5 E5 Z5 H5 w5 s5 q5 => f.bk σ5 E5 Z5 H5 (w5.floor (gZ := C.fZ) (gH := C.fH) (w0.trans (st.trans s5))) (st.trans s5) q5,
      fun σ5 E5 Z5 H5 w5 s5 q5 => f.ct σ5 E5 Z5 H5 (w5.floor (gZ := C.fZ) (gH := C.fH) (w0.trans (st.trans s5))) (st.trans s5) q5, fun r5 σ5 E5 Z5 H5 v5 w5 s5 q5 => f.rt r5 σ5 E5 Z5 H5 v5 (w5.floor (gZ := C.fZ) (gH := C.fH) (w0.trans (st.trans s5))) (st.trans s5) q5, rfl, rfl⟩
    refine ⟨Z', H', x, xr, [], [], goneL o a E', Z', goneD o Dd, ?_, q a, ?_⟩
    · cases o with
      | none => exact w1
      | some i =>
        obtain ⟨f1, f2⟩ := free_lt fr
        exact w1.setD (.kon a) f1 f2
    · cases o with
      | none => exact base
      | some i =>
        have fg : ∀ {σ5 : Sg} {E5 : List S} {Z5 : Addr → Prop} {H5 : Hp}, At (C.on Z' H') [] [] Z5 σ5 E5 H5 → At (C.on Z' H') [] [] Z5 (σ5.set i none) (E5.set i .un) H5 := fun {σ5 E5 Z5 H5} w5 => by
          by_cases hi : i < E5.length
          · exact w5.forget hi
          · have h1 : σ5.set i none = σ5 := List.set_eq_of_length_le (by have := w5.1; omega)
            have h2 : E5.set i .un = E5 := List.set_eq_of_length_le (by omega)
            rw [h1, h2]
            exact w5
        exact ⟨fun σ5 E5 Z5 H5 w5 s5 q5 => base.nx _ _ Z5 H5 (fg w5) s5 q5, fun σ5 E5 Z5 H5 w5 s5 q5 => base.bk _ _ Z5 H5 (fg w5) s5 q5, fun σ5 E5 Z5 H5 w5 s5 q5 => base.ct _ _ Z5 H5 (fg w5) s5 q5, base.rt, rfl, rfl⟩
theorem ds_try (hN : X.N.Nodup) (tk : Takes X (wxOf C Wd)) (hb : ∀ (fZ : Addr → Prop) (fH : Hp) (Wd' : WdX) (pn : List (Addr × Obj)) (xe : Value → Shared → Prop), Takes (X.tr pn xe) (wxOf (C.on fZ fH) Wd') → PassesOwn (model X.prog X.w) X.A X.env xe → DSs (C.on fZ fH) (X.tr pn xe) body (tb Wd'))
    (hh : HdD C X (h0 :: hds) l) (hs : X.stack = X.env :: X.outer := by rfl) (hf : X.env.frame = some X.env.locals := by rfl) (hK : X.K = C.K := by rfl) {K : Frg} (hK2 : C.K = K := by rfl) : DS C X (.Try body (h0 :: hds) [] [] pos) (dTry K tb l Wd) := by
  subst hK2
  exact (ps_try (tb := fun W Dn σ H => ∃ fZ fH Wd', (∀ cls d σ H, wxOf (C.on fZ fH) Wd' cls d σ H → W cls d σ H) ∧ tsOf (C.on fZ fH) (tb Wd') Dn σ H) hs hf hN tk
    (fun W pn xe tk' hp => ⟨fun pins s σ H D I ⟨fZ, fH, Wd', imp, q⟩ => (hb fZ fH Wd' pn xe (tk'.imp imp) hp).run pins s σ H D I q⟩) hh.toHds).imp fun Dn σ H ⟨ps, Ep, E, Z, Dd, w, h, f⟩ => by
    obtain ⟨e1, e2⟩ := f.e
    subst e1 e2
    rw [hK]
    refine ⟨Z, H, xHs C.K Wd Dd l, wish_of f w.fl l, [], [], E, Z, Dd, w.floor (gZ := Z) (gH := H) (Stp.refl _ _), h, ?_⟩
    exact ⟨fun σ5 E5 Z5 H5 w5 s5 q5 => f.nx σ5 E5 Z5 H5 (w5.floor (gZ := C.fZ) (gH := C.fH) (w.fl.trans s5)) s5 q5, fun σ5 E5 Z5 H5 w5 s5 q5 => f.bk σ5 E5 Z5 H5 (w5.floor (gZ := C.fZ) (gH := C.fH) (w.fl.trans s5)) s5 q5,
      fun σ5 E5 Z5 H5 w5 s5 q5 => f.ct σ5 E5 Z5 H5 (w5.floor (gZ := C.fZ) (gH := C.fH) (w.fl.trans s5)) s5 q5, fun r5 σ5 E5 Z5 H5 v5 w5 s5 q5 => f.rt r5 σ5 E5 Z5 H5 v5 (w5.floor (gZ := C.fZ) (gH := C.fH) (w.fl.trans s5)) s5 q5, rfl, rfl⟩
/-! ### e.f, e the caught exception -/
def fieldX (x : EX) (f : Str) : Option D := (x.ns.zip x.ds).lookup f
theorem reps_lookup {K : Frg} {Z : Addr → Prop} {H : Hp} {f : Str} : ∀ {fs : List (Str × V)} {ds : List D} {d : D}, Reps K Z H (fs.map (·.2)) ds → ((fs.map (·.1)).zip ds).lookup f = some d → ∃ v, fs.lookup f = some v ∧ Rep K Z H v d
  | [], ds, d, r, h => by cases r; cases h
  | (g, v) :: fs, ds, d, r, h => by
    cases r with
    | cons rv rr =>
      rename_i d0 ds0
      have h : (match f == g with | true => some d0 | false => ((fs.map (·.1)).zip ds0).lookup f) = some d := h
      show ∃ w, (match f == g with | true => some v | false => fs.lookup f) = some w ∧ _
      cases e : f == g with
      | true => rw [e] at h; cases h; exact ⟨v, rfl, rv⟩
      | false => rw [e] at h; exact reps_lookup rr h
def tXfd (i : Nat) (a : Addr) (x : EX) (Cc : Addr) (f : Str) : TD := fun E Q => (E[i]? = some (.fr (.kon a)) ∧ x.C = Cc) ∧ match fieldX x f with
  | some d => Q d E
  | none => False
theorem de_exf (i : Nat) {a : Addr} {oe : Obj} {cls : Value} {d : Option Addr} {pn : List (Addr × Obj)} {fZ : Addr → Prop} {fH : Hp} {ex : EX} {Cc : Addr} {n f : Str} {np : Pos} (T : XfC X.K Cc) (hno : PySem.W.findIn X.K (.ref Cc) f = some none) (hz : Zc cls d oe) (hf : ∃ vs, oe.data = .fields vs) (xr : XRep C.K fZ fH cls d ex)
    (hi : X.N[i]? = some n := by rfl) (hv : Vis X.env.scope n := by first | exact Or.inl rfl | exact Or.inr (Or.inl rfl) | exact Or.inr (Or.inr rfl)) (hd : (n == ("__debug__" : Str)) = false := by decide) (hcd : (n == ("__classdict__" : Str)) = false := by decide)
    (hb : attributeBase (.Name n np) f X.env (eval (.Name n np) X.env) = eval (.Name n np) X.env := by rfl) : DE (C.on fZ fH) (X.suite a ((a, oe) :: pn)) (.Attribute (.Name n np) f pos) (tXfd i a ex Cc f) :=
  (pe_xf T hno hz hf (pe_var (X := X.suite a ((a, oe) :: pn)) hi hv hd hcd) hb).imp fun σ H Q ⟨ps, Ep, E, Z, Qd, w, ⟨⟨e, hC⟩, h⟩, post⟩ => by
    obtain ⟨v, e1, r⟩ := w.get e
    cases r
    split at h
    · rename_i y ey
      obtain ⟨ec, dd, fs, ed, zd, hd2, nn, rr⟩ := xr.mono w.fl
      unfold fieldX at ey
      rw [← nn] at ey
      obtain ⟨v, lv, rv⟩ := reps_lookup rr ey
      exact ⟨.ref a, e1, rfl, by rw [ec, hC], dd, fs, v, ed, hd2, lv, post _ E Z H v w (Stp.refl _ _) rv h⟩
    · cases h
end
/-- nothing is wished for: no exception comes -/
abbrev noX : WdX := fun _ _ => False
theorem takes_no {C : Ctx} {X : Cx} : Takes X (wxOf C noX) := takes0.imp fun _ _ _ _ h => by
  obtain ⟨_, _, _, _, _, _, _, h⟩ := h
  exact h
end DL
set_option Elab.async false
set_option linter.all false
set_option maxRecDepth 100000
set_option maxHeartbeats 4000000
/-! DL, part zb: dicts. -/
namespace DL
open PySem PySem.Spec PyProof.Rows L2

/-! ### data of dicts -/
def keyD : D → Option Key
  | .int i => some (.inl i)
  | .str x => some (.inr x)
  | _ => none
def getK : List Key → List D → Key → Option D
  | k0 :: ks, d :: ds, k => if k0 = k then some d else getK ks ds k
  | _, _, _ => none
def putKs (ks : List Key) (k : Key) : List Key := if ks.any (fun x => decide (x = k)) = true then ks else ks ++ [k]
def putKd (ks : List Key) (ds : List D) (k : Key) (d : D) : List D := if ks.any (fun x => decide (x = k)) = true then (ks.zip ds).map (fun p => if p.1 = k then d else p.2) else ds ++ [d]
def dKey : Key → D
  | .inl i => .int i
  | .inr x => .str x
theorem keyD_rep {K : Frg} {Z : Addr → Prop} {H : Hp} {v : V} {d : D} {k : Key} (r : Rep K Z H v d) (h : keyD d = some k) : v = kV k := by
  cases r with
  | int i => cases h; rfl
  | str x => cases h; rfl
  | _ => cases h
theorem getK_rep {K : Frg} {Z : Addr → Prop} {H : Hp} {k : Key} : ∀ {kvs : List (Key × V)} {ds : List D}, Reps K Z H (kvs.map (·.2)) ds → match getK (kvs.map (·.1)) ds k with
    | some d => ∃ v, valV kvs k = some v ∧ Rep K Z H v d
    | none => valV kvs k = none
  | [], ds, r => by cases r; exact valV_nil
  | p :: kvs, ds, r => by
    cases r with
    | cons rv rr =>
      rename_i d0 ds0
      show match (if p.1 = k then some d0 else getK (kvs.map (·.1)) ds0 k) with | some d => ∃ v, valV (p :: kvs) k = some v ∧ Rep K Z H v d | none => valV (p :: kvs) k = none
      by_cases e : p.1 = k
      · rw [if_pos e, valV_pos e]
        exact ⟨_, rfl, rv⟩
      · rw [if_neg e, valV_neg e]
        exact getK_rep rr
theorem any_fst {k : Key} : ∀ kvs : List (Key × V), (kvs.any fun kv => decide (kv.1 = k)) = (kvs.map (·.1)).any fun x => decide (x = k)
  | [] => rfl
  | p :: r => by
    show (decide (p.1 = k) || r.any _) = (decide (p.1 = k) || (r.map (·.1)).any _)
    rw [any_fst r]
theorem putK_rep {K : Frg} {Z : Addr → Prop} {H : Hp} {k : Key} {v : V} {d : D} {kvs : List (Key × V)} {ds : List D} (r : Reps K Z H (kvs.map (·.2)) ds) (rv : Rep K Z H v d) :
    (putK kvs k v).map (·.1) = putKs (kvs.map (·.1)) k ∧ Reps K Z H ((putK kvs k v).map (·.2)) (putKd (kvs.map (·.1)) ds k d) := by
  unfold putK putKs putKd
  rw [any_fst]
  split
  · refine ⟨?_, ?_⟩
    · rw [List.map_map]
      refine List.map_congr_left fun p _ => ?_
      show (if p.1 = k then (p.1, v) else p).1 = p.1
      split <;> rfl
    · have main : ∀ (kvs : List (Key × V)) (ds : List D), Reps K Z H (kvs.map (·.2)) ds → Reps K Z H ((kvs.map fun kv => if kv.1 = k then (kv.1, v) else kv).map (·.2)) (((kvs.map (·.1)).zip ds).map fun p => if p.1 = k then d else p.2) := by
        intro kvs
        induction kvs with
        | nil => intro ds r; cases r; exact .nil
        | cons p kvs ih =>
          intro ds r
          cases r with
          | cons r0 rr =>
            rename_i d0 ds0
            refine .cons ?_ (ih ds0 rr)
            show Rep K Z H (if p.1 = k then (p.1, v) else p).2 (if p.1 = k then d else d0)
            by_cases e : p.1 = k
            · rw [if_pos e, if_pos e]; exact rv
            · rw [if_neg e, if_neg e]; exact r0
      exact main _ _ r
  · rw [List.map_append, List.map_append]
    exact ⟨rfl, r.append (.one rv)⟩
theorem BRep.dic {K : Frg} {Z : Addr → Prop} {H : Hp} {v : V} {ks : List Key} {ds : List D} (h : BRep K Z H v (.dic ks ds)) : ∃ a kvs, v = .ref a ∧ H a = some (.dK kvs) ∧ kvs.map (·.1) = ks ∧ Reps K Z H (kvs.map (·.2)) ds := by
  rcases h with h | ⟨t, F, h, e⟩
  · cases h with
    | dic z h e hs => exact ⟨_, _, rfl, h, e, hs⟩
  · cases h with
    | fr h =>
      rw [show (T.fr _).fz = _ from rfl] at e
      subst e
      cases h with
      | dic z h e hs => exact ⟨_, _, rfl, h, e, hs⟩
    | lst h hs => cases e
    | dic h e1 hs => cases e; exact ⟨_, _, rfl, h, e1, hs⟩
    | obj h e1 hs => cases e

section
variable {C : Ctx} {ps : Sg} {Ep : List S} {Z Z' : Addr → Prop} {σ : Sg} {E : List S} {H H' : Hp}
theorem At.pushD (w : At C ps Ep Z σ E H) {p : Addr} {kvs : List (Key × V)} {ks : List Key} {ds : List D} (hp : H p = none) (e : kvs.map (·.1) = ks) (r : Reps C.K Z H (kvs.map (·.2)) ds) :
    Stp Z H Z (upd H p (.dK kvs)) ∧ At C (ps ++ [some (.ref p)]) (Ep ++ [.ow (.dic ks ds)]) Z σ E (upd H p (.dK kvs)) := by
  obtain ⟨F, f⟩ := w.2
  have st : Stp Z H Z (upd H p (.dK kvs)) := Stp.new f.zt hp
  refine ⟨st, w.1, ?_⟩
  rw [← List.append_assoc, ← List.append_assoc]
  exact f.push hp (.dic upd_same e (r.mono st))
/-- an owned dict at a name: read, and written -/
theorem At.dict (w : At C ps Ep Z σ E H) {i : Nat} {s : S} {ks : List Key} {ds : List D} (e : E[i]? = some s) (et : s.tree? = some (.dic ks ds)) :
    ∃ a kvs, σ[i]? = some (some (.ref a)) ∧ H a = some (.dK kvs) ∧ kvs.map (·.1) = ks ∧ Reps C.K Z H (kvs.map (·.2)) ds ∧
      ∀ kvs' ks' ds', kvs'.map (·.1) = ks' → Reps C.K Z H (kvs'.map (·.2)) ds' → Stp Z H Z (upd H a (.dK kvs')) ∧ At C ps Ep Z σ (E.set i (s.put (.dic ks' ds'))) (upd H a (.dK kvs')) := by
  obtain ⟨F, f⟩ := w.2
  obtain ⟨v, e1, r⟩ := (f.sl.rep i s (up_get e)).tree et
  have hi := (List.getElem?_eq_some_iff.mp e).1
  generalize hF : F i = G at r
  cases r with
  | dic h he hs =>
    rename_i a kvs
    have ha : a ∈ F i := by rw [hF]; simp
    refine ⟨a, kvs, At.low w.1 hi (getD_some e1), h, he, hs, fun kvs' ks' ds' e' r' => ?_⟩
    have st : Stp Z H Z (upd H a (.dK kvs')) := Stp.put (f.nz i a ha) h trivial
    refine ⟨st, by rw [List.length_set]; exact w.1, ?_⟩
    have q := f.put (up_get e) et st (getD_some e1) (TRep.dic upd_same e' (r'.mono st)) (fun b hb => .inl (by rw [hF]; exact hb)) (by simp) (fun j hj b hb => ?_) (fun b o e0 n q => ?_) (fun b z => ?_) upd_kt
    · rw [List.set_append_left _ _ hi] at q
      exact q
    · exact upd_ne fun q => hj (f.sl.dj j i b hb (by rw [q]; exact ha))
    · rw [upd_ne]
      · exact q
      · rintro rfl
        have ei := up_get (Ep := Ep) e
        cases s with
        | un => cases et
        | fr d => cases et
        | ow x =>
          have := f.own i x b ei ha
          rw [e0] at this; cases this
        | mu x =>
          rcases f.mum i x b ei ha with z | z
          · exact n i z
          · rw [e0] at z; cases z
    · by_cases q : b = a
      · rw [q, upd_same]; intro q; cases q
      · rw [upd_ne q]; exact f.zt b z
theorem At.seen (w : At C ps Ep Z σ E H) {i : Nat} {v : V} (hv : σ[i]? = some (some v)) {q : D → Prop} (h : nameAt E i q) : ∃ d, BRep C.K Z H v d ∧ q d := by
  unfold nameAt at h
  split at h
  · rename_i d e
    obtain ⟨v', e3, r⟩ := w.get e
    rw [hv] at e3; cases e3
    exact ⟨d, .inl r, h⟩
  · rename_i t e
    exact ⟨_, w.brep e rfl hv, h⟩
  · rename_i t e
    exact ⟨_, w.brep e rfl hv, h⟩
  · cases h
end
def isKn (E : List S) (i : Nat) : Prop := match E[i]? with
  | some s => s.knownB = true
  | none => False
theorem At.knows {C : Ctx} {ps : Sg} {Ep : List S} {Z : Addr → Prop} {σ : Sg} {E : List S} {H : Hp} (w : At C ps Ep Z σ E H) {i : Nat} (h : isKn E i) : ∃ v, σ[i]? = some (some v) := by
  unfold isKn at h
  split at h
  · rename_i s e
    exact w.known e h
  · cases h

section
variable {C : Ctx} {X : Cx} {pos : Pos}
/-! ### d[k], k in d, of a dict at a name or of a frozen one -/
def oDG : O2 := fun x y q => match x with
  | .dic ks ds => (match keyD y with
    | some k => (match getK ks ds k with | some d => q d | none => False)
    | none => False)
  | _ => False
theorem BRep.dg {K : Frg} {Z : Addr → Prop} {H : Hp} {v w : V} {x y : D} {q : D → Prop} (rx : BRep K Z H v x) (ry : Rep K Z H w y) (h : oDG x y q) : ∃ a u, v = .ref a ∧ DGet H a w (some u) ∧ ∃ d, Rep K Z H u d ∧ q d := by
  unfold oDG at h
  split at h
  · split at h
    · rename_i k ek
      split at h
      · rename_i d ed
        obtain ⟨a, kvs, rfl, ha, e1, rs⟩ := rx.dic
        have g := getK_rep (k := k) rs
        rw [e1, ed] at g
        obtain ⟨u, eu, ru⟩ := g
        rw [keyD_rep ry ek]
        exact ⟨a, u, rfl, eu ▸ DGet.k ha, d, ru, h⟩
      · cases h
    · cases h
  · cases h
def tDGo (i : Nat) (tk : TD) : TD := fun E Q => isKn E i ∧ tk E fun k E1 => nameAt E1 i fun x => oDG x k fun d => Q d E1
theorem de_dgo (i : Nat) {x : Str} {b : Expr} {tb : TD} {pos' : Pos} (hu : X.A.units + 65 < cLine) (hb : DE C X b tb) (hN : X.N[i]? = some x := by rfl) (hv : Vis X.env.scope x := by first | exact Or.inl rfl | exact Or.inr (Or.inl rfl) | exact Or.inr (Or.inr rfl)) (hd : (x == ("__debug__" : Str)) = false := by decide)
    (hcd : (x == ("__classdict__" : Str)) = false := by decide) (hs : NoSl b := by exact fun _ _ => rfl) : DE C X (.Subscript (.Name x pos') b pos) (tDGo i tb) :=
  (pe_dget (by omega) (pe_var hN hv hd hcd) hb hs).imp fun σ H Q ⟨ps, Ep, E, Z, Qd, w, ⟨hk, h⟩, post⟩ => by
    obtain ⟨v, e1⟩ := w.knows hk
    refine ⟨v, e1, ps, Ep, E, Z, _, w, h, fun k E1 Z1 H1 u w1 st1 r1 h1 => ?_⟩
    obtain ⟨d, br, h2⟩ := w1.seen e1 h1
    obtain ⟨a, z, ev, g, dd, rz, q⟩ := br.dg r1 h2
    exact ⟨a, z, ev, g, post dd E1 Z1 H1 z w1 st1 rz q⟩
theorem de_dgf {a b : Expr} {ta tb : TD} (hu : X.A.units + 65 < cLine) (ha : DE C X a ta) (hb : DE C X b tb) (hs : NoSl b := by exact fun _ _ => rfl) : DE C X (.Subscript a b pos) (tOp2 oDG ta tb) :=
  (pe_dget (by omega) ha hb hs).imp fun σ H Q ⟨ps, Ep, E, Z, Qd, w, h, post⟩ => ⟨ps, Ep, E, Z, _, w, h, fun x E1 Z1 H1 v w1 st1 r1 h1 => ⟨ps, Ep, E1, Z1, _, w1, h1, fun y E2 Z2 H2 u w2 st2 r2 h2 => by
    obtain ⟨a, z, ev, g, dd, rz, q⟩ := BRep.dg (.inl (r1.mono st2)) r2 h2
    exact ⟨a, z, ev, g, post dd E2 Z2 H2 z w2 (st1.trans st2) rz q⟩⟩⟩
/-- k in d, k not in d -/
def oDIn (neg : Bool) : O2 := fun y x q => match x with
  | .dic ks ds => (match keyD y with
    | some k => q (.bl ((getK ks ds k).isSome != neg))
    | none => False)
  | _ => False
theorem BRep.din {K : Frg} {Z : Addr → Prop} {H : Hp} {v w : V} {x y : D} {neg : Bool} {q : D → Prop} (rx : BRep K Z H v x) (ry : Rep K Z H w y) (h : oDIn neg y x q) : ∃ a o, v = .ref a ∧ DGet H a w o ∧ q (.bl (o.isSome != neg)) := by
  unfold oDIn at h
  split at h
  · split at h
    · rename_i k ek
      obtain ⟨a, kvs, rfl, ha, e1, rs⟩ := rx.dic
      have g := getK_rep (k := k) rs
      rw [e1] at g
      rw [keyD_rep ry ek]
      refine ⟨a, valV kvs k, rfl, DGet.k ha, ?_⟩
      split at g
      · rename_i d ed
        obtain ⟨u, eu, _⟩ := g
        rw [eu]
        rw [ed] at h
        exact h
      · rename_i ed
        rw [g]
        rw [ed] at h
        exact h
    · cases h
  · cases h
theorem de_din {a b : Expr} {ta tb : TD} (hu : X.A.units + 65 < cLine) (ha : DE C X a ta) (hb : DB C X b tb) (hm : behindInMarks .In b = false := by rfl) : DE C X (.Compare a [.In] [b] pos) (tOp2 (oDIn false) ta tb) :=
  (pe_cmp (pc_din (by omega) ha hb) hm).imp fun σ H Q ⟨ps, Ep, E, Z, Qd, w, h, post⟩ => ⟨ps, Ep, E, Z, _, w, h, fun x E1 Z1 H1 v w1 st1 r1 h1 => ⟨ps, Ep, E1, Z1, _, w1, h1, fun y E2 Z2 H2 u w2 st2 r2 h2 => by
    obtain ⟨a, o, ev, g, q⟩ := r2.din (r1.mono st2) h2
    exact ⟨a, o, ev, g, by rw [Bool.bne_false] at q; exact post _ E2 Z2 H2 _ w2 (st1.trans st2) (.bl _) q⟩⟩⟩
theorem dt_din {a b : Expr} {ta tb : TD} (hu : X.A.units + 65 < cLine) (ha : DE C X a ta) (hb : DB C X b tb) (hm : behindInMarks .In b = false := by rfl) : DT C X (.Compare a [.In] [b] pos) (tOp2B (oDIn false) ta tb) :=
  (pt_cmp (pc_din (by omega) ha hb) hm).imp fun σ H Q ⟨ps, Ep, E, Z, Qd, w, h, post⟩ => ⟨ps, Ep, E, Z, _, w, h, fun x E1 Z1 H1 v w1 st1 r1 h1 => ⟨ps, Ep, E1, Z1, _, w1, h1, fun y E2 Z2 H2 u w2 st2 r2 h2 => by
    obtain ⟨a, o, ev, g, q⟩ := r2.din (r1.mono st2) h2
    exact ⟨a, o, ev, g, _, rfl, by rw [Bool.bne_false] at q; exact post _ E2 Z2 H2 w2 (st1.trans st2) q⟩⟩⟩
theorem dt_dnin {a b : Expr} {ta tb : TD} (hu : X.A.units + 65 < cLine) (ha : DE C X a ta) (hb : DB C X b tb) (hm : behindInMarks .NotIn b = false := by rfl) : DT C X (.Compare a [.NotIn] [b] pos) (tOp2B (oDIn true) ta tb) :=
  (pt_cmp (pc_dnotin (by omega) ha hb) hm).imp fun σ H Q ⟨ps, Ep, E, Z, Qd, w, h, post⟩ => ⟨ps, Ep, E, Z, _, w, h, fun x E1 Z1 H1 v w1 st1 r1 h1 => ⟨ps, Ep, E1, Z1, _, w1, h1, fun y E2 Z2 H2 u w2 st2 r2 h2 => by
    obtain ⟨a, o, ev, g, q⟩ := r2.din (r1.mono st2) h2
    exact ⟨a, o, ev, g, _, rfl, by rw [Bool.bne_true] at q; exact post _ E2 Z2 H2 w2 (st1.trans st2) q⟩⟩⟩
end
end DL
set_option Elab.async false
set_option linter.all false
set_option maxRecDepth 100000
set_option maxHeartbeats 4000000
/-! DL, part zc: dicts that are made, written, copied; their keys in order. -/
namespace DL
open PySem PySem.Spec PyProof.Rows L2

/-! ### {k: v, ..} -/
def tPrs : List (TD × TD) → List S → (List (Key × D) → List S → Prop) → Prop
  | [], E, Q => Q [] E
  | (tk, tv) :: r, E, Q => tk E fun k E1 => tv E1 fun d E2 => match keyD k with
    | some k' => tPrs r E2 fun l E3 => Q ((k', d) :: l) E3
    | none => False
abbrev trsOf (C : Ctx) (l : List (TD × TD)) : List (TE × TE) := l.map fun p => (teOf C p.1, teOf C p.2)
section
variable {C : Ctx} {ps : Sg} {Ep : List S} {σ : Sg}
theorem prs_imp : ∀ (l : List (TD × TD)) {Z : Addr → Prop} {E : List S} {H : Hp} {Qd : List (Key × D) → List S → Prop} {R : List (V × V) → Hp → Prop}, At C ps Ep Z σ E H → tPrs l E Qd →
    (∀ (kds : List (Key × D)) E' Z' H' (kvs : List (Key × V)), At C ps Ep Z' σ E' H' → Stp Z H Z' H' → kvs.map (·.1) = kds.map (·.1) → Reps C.K Z' H' (kvs.map (·.2)) (kds.map (·.2)) → Qd kds E' → R (kvs.map fun kv => (kV kv.1, kv.2)) H') → tPairs (trsOf C l) σ H R
  | [], Z, E, H, Qd, R, w, h, post => post [] E Z H [] w (Stp.refl _ _) rfl .nil h
  | (tk, tv) :: r, Z, E, H, Qd, R, w, h, post =>
    ⟨ps, Ep, E, Z, _, w, h, fun k E1 Z1 H1 x w1 st1 r1 h1 => ⟨ps, Ep, E1, Z1, _, w1, h1, fun d E2 Z2 H2 y w2 st2 r2 h2 => by
      split at h2
      · rename_i k' ek
        refine prs_imp r w2 h2 fun kds E3 Z3 H3 kvs w3 st3 e3 r3 q => ?_
        have := post ((k', d) :: kds) E3 Z3 H3 ((k', y) :: kvs) w3 (st1.trans (st2.trans st3)) (by rw [List.map_cons, List.map_cons, e3]) (.cons (r2.mono st3) r3) q
        rw [keyD_rep r1 ek]
        exact this
      · cases h2⟩⟩
end
def mergeD (kds : List (Key × D)) : List Key × List D := kds.foldl (fun acc kd => (putKs acc.1 kd.1, putKd acc.1 acc.2 kd.1 kd.2)) ([], [])
theorem mergeD_rep {K : Frg} {Z : Addr → Prop} {H : Hp} : ∀ {kvs acc : List (Key × V)} {kds : List (Key × D)} {ks : List Key} {ds : List D}, acc.map (·.1) = ks → Reps K Z H (acc.map (·.2)) ds → kvs.map (·.1) = kds.map (·.1) → Reps K Z H (kvs.map (·.2)) (kds.map (·.2)) →
    (mergeK acc kvs).map (·.1) = (kds.foldl (fun acc kd => (putKs acc.1 kd.1, putKd acc.1 acc.2 kd.1 kd.2)) (ks, ds)).1 ∧ Reps K Z H ((mergeK acc kvs).map (·.2)) (kds.foldl (fun acc kd => (putKs acc.1 kd.1, putKd acc.1 acc.2 kd.1 kd.2)) (ks, ds)).2
  | [], acc, [], ks, ds, e, r, _, _ => ⟨e, r⟩
  | [], acc, _ :: _, ks, ds, e, r, e2, _ => by cases e2
  | p :: kvs, acc, [], ks, ds, e, r, e2, _ => by cases e2
  | p :: kvs, acc, q :: kds, ks, ds, e, r, e2, r2 => by
    cases r2 with
    | cons rv rr =>
      have e3 : p.1 = q.1 := (List.cons.inj e2).1
      have e4 : kvs.map (·.1) = kds.map (·.1) := (List.cons.inj e2).2
      obtain ⟨a1, a2⟩ := putK_rep (k := p.1) r rv
      rw [e, e3] at a1 a2
      have := mergeD_rep (acc := putK acc p.1 p.2) (kvs := kvs) (kds := kds) (ks := putKs ks q.1) (ds := putKd ks ds q.1 q.2) (by rw [e3]; exact a1) (by rw [e3]; exact a2) e4 rr
      exact this
section
variable {C : Ctx} {X : Cx} {pos : Pos}
abbrev DPs (C : Ctx) (X : Cx) (pos : Pos) (keys : List (Option Expr)) (values : List Expr) (l : List (TD × TD)) : Prop := PPs X pos keys values (trsOf C l)
theorem dps_nil : DPs C X pos [] [] [] := pps_nil
theorem dps_cons {k v : Expr} {ks : List (Option Expr)} {vs : List Expr} {tk tv : TD} {l : List (TD × TD)} (hk : DE C X k tk) (hv : DE C X v tv) (hr : DPs C X pos ks vs l) : DPs C X pos (some k :: ks) (v :: vs) ((tk, tv) :: l) := pps_cons hk hv hr
def tDispD (l : List (TD × TD)) : TN := fun E Q => tPrs l E fun kds E1 => kds.length ≤ 15 ∧ Q (.dic (mergeD kds).1 (mergeD kds).2) E1
theorem At.dicP {ps : Sg} {Ep : List S} {Z : Addr → Prop} {σ : Sg} {E : List S} {H : Hp} {p : Addr} {ks : List Key} {ds : List D} (w : At C (ps ++ [some (.ref p)]) (Ep ++ [.ow (.dic ks ds)]) Z σ E H) :
    ∃ kvs : List (Key × V), H p = some (.dK kvs) ∧ kvs.map (·.1) = ks ∧ Reps C.K Z H (kvs.map (·.2)) ds ∧ ∀ (kvs' : List (Key × V)) ks' ds', kvs'.map (·.1) = ks' → Reps C.K Z H (kvs'.map (·.2)) ds' →
      Stp Z H Z (upd H p (.dK kvs')) ∧ At C (ps ++ [some (.ref p)]) (Ep ++ [.ow (.dic ks' ds')]) Z σ E (upd H p (.dK kvs')) := by
  obtain ⟨w1, e1, e2⟩ := w.flat
  obtain ⟨a, kvs, e3, h, ek, rs, k⟩ := w1.dict e1 (ks := ks) (ds := ds) rfl
  rw [e2] at e3
  cases e3
  refine ⟨kvs, h, ek, rs, fun kvs' ks' ds' e' r' => ?_⟩
  obtain ⟨st, w2⟩ := k kvs' ks' ds' e' r'
  refine ⟨st, w.1, ?_⟩
  have w3 := w2.2
  rw [List.append_nil, List.append_nil, ← List.append_assoc E, List.set_append_right _ _ (Nat.le_refl _), Nat.sub_self, List.append_assoc E] at w3
  exact w3
theorem dn_disp {keys : List (Option Expr)} {values : List Expr} {l : List (TD × TD)} (h : DPs C X pos keys values l) (h0 : keys ≠ [] := by exact List.cons_ne_nil _ _) (hall : keys.all (·.isSome) = true := by rfl) (hl : keys.length = values.length := by rfl) (h15 : keys.length ≤ 15 := by decide) : DN C X (.Dict keys values pos) (tDispD l) :=
  (pe_disp h hall hl h0 h15).imp fun σ H Q ⟨ps, Ep, E, Z, Qd, w, h, post⟩ p hp => by
    obtain ⟨st0, w0⟩ := w.pushD (ks := []) (ds := []) hp (kvs := []) rfl .nil
    refine prs_imp l w0 h fun kds E1 Z1 H1 kvs w1 st1 ek rs ⟨q1, q2⟩ => ?_
    obtain ⟨kvs0, hh, e0, _, k⟩ := w1.dicP
    have e0 : kvs0 = [] := List.map_eq_nil_iff.mp e0
    subst e0
    obtain ⟨m1, m2⟩ := mergeD_rep (K := C.K) (acc := []) (ks := []) (ds := []) rfl .nil ek rs
    obtain ⟨st2, w2⟩ := k (mergeK [] kvs) _ _ m1 m2
    have el : kvs.length = kds.length := by have := congrArg List.length ek; rw [List.length_map, List.length_map] at this; exact this
    exact ⟨hh, kvs, rfl, by rw [el]; exact q1, post _ E1 Z1 _ _ w2 (st0.trans (st1.trans st2)) q2⟩
def tDNew : TN := fun E Q => Q (.dic [] []) E
theorem dn_dnew : DN C X (.Dict [] [] pos) tDNew := pe_dnewK.imp fun σ H Q ⟨ps, Ep, E, Z, Qd, w, h, post⟩ p hp => by
  obtain ⟨st0, w0⟩ := w.pushD (ks := []) (ds := []) hp (kvs := []) rfl .nil
  exact post _ E Z _ _ w0 st0 h
/-! ### d[k] = v -/
def dicAt (E : List S) (i : Nat) (k : List Key → List D → (List Key → List D → List S) → Prop) : Prop := match E[i]? with
  | some (.ow (.dic ks ds)) => k ks ds fun ks' ds' => E.set i (.ow (.dic ks' ds'))
  | some (.mu (.dic ks ds)) => k ks ds fun ks' ds' => E.set i (.mu (.dic ks' ds'))
  | _ => False
theorem dicAt_of {E : List S} {i : Nat} {k : List Key → List D → (List Key → List D → List S) → Prop} (h : dicAt E i k) : ∃ s ks ds, E[i]? = some s ∧ s.tree? = some (.dic ks ds) ∧ k ks ds fun ks' ds' => E.set i (s.put (.dic ks' ds')) := by
  unfold dicAt at h
  split at h
  · rename_i ks ds e; exact ⟨_, ks, ds, e, rfl, h⟩
  · rename_i ks ds e; exact ⟨_, ks, ds, e, rfl, h⟩
  · cases h
def dDPut (i : Nat) (tk tv : TD) : TSD := fun D E => tv E fun d E1 => isKn E1 i ∧ tk E1 fun k E2 => dicAt E2 i fun ks ds put => match keyD k with
  | some k' => ks.length < sizeLine ∧ D.nx (put (putKs ks k') (putKd ks ds k' d))
  | none => False
theorem ds_dput (i : Nat) {x : Str} {e1 e2 : Expr} {tk tv : TD} {pos' apos : Pos} (hu : X.A.units + 65 < cLine) (hk : DE C X e1 tk) (hv : DE C X e2 tv) (hs : swapsWith e2 (some (.Subscript (.Name x pos') e1 apos)) pos.line X.env = pure false := by rfl) (hN : X.N[i]? = some x := by rfl)
    (hvi : Vis X.env.scope x := by first | exact Or.inl rfl | exact Or.inr (Or.inl rfl) | exact Or.inr (Or.inr rfl)) (hd : (x == ("__debug__" : Str)) = false := by decide) (hcd : (x == ("__classdict__" : Str)) = false := by decide) : DS C X (.Assign [.Subscript (.Name x pos') e1 apos] e2 pos) (dDPut i tk tv) :=
  (ps_dput (by omega) (pe_var hN hvi hd hcd) hk hv hs).imp fun Dn σ H ⟨ps, Ep, E, Z, Dd, w, h, f⟩ => ⟨ps, Ep, E, Z, _, w, h, fun d E1 Z1 H1 v w1 st1 r1 ⟨kn, h1⟩ => by
    obtain ⟨x, ex⟩ := w1.knows kn
    refine ⟨x, ex, ps, Ep, E1, Z1, _, w1, h1, fun k E2 Z2 H2 u w2 st2 r2 h2 => ?_⟩
    obtain ⟨s, ks, ds, e1, e2, h2⟩ := dicAt_of h2
    obtain ⟨a, kvs, e3, ha, ek, rs, kk⟩ := w2.dict e1 e2
    rw [ex] at e3; cases e3
    split at h2
    · rename_i k' eq
      obtain ⟨p1, p2⟩ := putK_rep (k := k') rs (r1.mono st2)
      rw [ek] at p1 p2
      obtain ⟨st3, w3⟩ := kk _ _ _ p1 p2
      have ll : kvs.length = ks.length := by rw [← ek, List.length_map]
      rw [keyD_rep r2 eq]
      exact ⟨a, _, rfl, DPut.k ha (by rw [ll]; exact h2.1), f.nx _ _ Z2 _ w3 (st1.trans (st2.trans st3)) h2.2⟩
    · cases h2⟩
/-! ### dict(d), sorted(d) -/
def tDCopy (t : TD) : TN := fun E Q => t E fun d E1 => match d with
  | .dic ks ds => Q (.dic ks ds) E1
  | _ => False
theorem dn_dcopy {x : Str} {e : Expr} {t : TD} {p : Pos} (hm : X.mg x = none) (he : DB C X e t) (hv : bootBuiltins x = some (.type "dict") := by first | rfl | decide +kernel) (hg : Gl X x := by rfl) (hn : x ≠ "__name__" := by decide) (hdb : (x == ("__debug__" : Str)) = false := by decide)
    (hs : starEach [e] X.env = (false, eval e X.env) :: starEach [] X.env := by rfl) (hpl : (backTo pos (starEach [] X.env)).any (·.1) = false := by rfl) : DN C X (.Call (.Name x p) [e] [] pos) (tDCopy t) :=
  (pe_callTy call_dictD hg hm hv (pa_cons he pa_nil hs) hn hdb hs hpl).imp fun σ H Q ⟨ps, Ep, E, Z, Qd, w, h, post⟩ => ⟨ps, Ep, E, Z, _, w, h, fun d E1 Z1 H1 v w1 st1 r1 h1 => by
    split at h1
    · obtain ⟨a, kvs, rfl, ha, ek, rs⟩ := r1.dic
      refine ⟨a, kvs, rfl, .inl ha, fun p hp => ?_⟩
      obtain ⟨st2, w2⟩ := w1.pushD hp ek rs
      exact post _ E1 Z1 _ _ w2 (st1.trans st2) h1
    · cases h1⟩
def tDSorted (t : TD) : TN := fun E Q => t E fun d E1 => match d with
  | .dic ks _ => ∃ xs : List Str, ks = xs.map Sum.inr ∧ xs.length < 64 ∧ ∀ ys : List Str, ys.Perm xs → sortedS ys = true → Q (.lst (ys.map D.str)) E1
  | _ => False
theorem reps_strs {K : Frg} {Z : Addr → Prop} {H : Hp} : ∀ xs : List Str, Reps K Z H (xs.map V.str) (xs.map D.str)
  | [] => .nil
  | x :: xs => .cons (.str x) (reps_strs xs)
theorem dn_dsorted {x : Str} {e : Expr} {t : TD} {p : Pos} (hm : X.mg x = none) (he : DB C X e t) (hc : X.calm = true := by rfl) (hv : bootBuiltins x = some (.builtin "sorted") := by first | rfl | decide +kernel) (hg : Gl X x := by rfl) (hn : x ≠ "__name__" := by decide) (hdb : (x == ("__debug__" : Str)) = false := by decide)
    (hs : starEach [e] X.env = (false, eval e X.env) :: starEach [] X.env := by rfl) (hpl : (backTo pos (starEach [] X.env)).any (·.1) = false := by rfl) : DN C X (.Call (.Name x p) [e] [] pos) (tDSorted t) :=
  (pe_callB (call_sortedD hc) hg hm hv (pa_cons he pa_nil hs) hn hdb hs hpl).imp fun σ H Q ⟨ps, Ep, E, Z, Qd, w, h, post⟩ => ⟨ps, Ep, E, Z, _, w, h, fun d E1 Z1 H1 v w1 st1 r1 h1 => by
    split at h1
    · obtain ⟨xs, e1, e2, h1⟩ := h1
      obtain ⟨a, kvs, rfl, ha, ek, rs⟩ := r1.dic
      refine ⟨a, kvs, xs, rfl, .inl ha, ek.trans e1, e2, fun ys p h3 h4 hp => ?_⟩
      obtain ⟨st2, w2⟩ := w1.push hp (reps_strs ys)
      exact post _ E1 Z1 _ _ w2 (st1.trans st2) (h1 ys h3 h4)
    · cases h1⟩
end
end DL
set_option Elab.async false
set_option linter.all false
set_option maxRecDepth 100000
set_option maxHeartbeats 4000000
/-! DL, part zd: objects of the text's own classes. -/
namespace DL
open PySem PySem.Spec PyProof.Rows L2

/-! ### e.f -/
def fldD : List Str → List D → Str → Option D
  | g :: ns, d :: ds, f => if g = f then some d else fldD ns ds f
  | _, _, _ => none
theorem fldD_rep {K : Frg} {Z : Addr → Prop} {H : Hp} {f : Str} {d : D} : ∀ {fs : List (Str × V)} {ds : List D}, Reps K Z H (fs.map (·.2)) ds → fldD (fs.map (·.1)) ds f = some d → ∃ v, fs.lookup f = some v ∧ Rep K Z H v d
  | [], ds, r, h => by cases r; cases h
  | (g, v) :: fs, ds, r, h => by
    cases r with
    | cons rv rr =>
      rename_i d0 ds0
      have h : (if g = f then some d0 else fldD (fs.map (·.1)) ds0 f) = some d := h
      show ∃ w, (match f == g with | true => some v | false => fs.lookup f) = some w ∧ _
      by_cases e : g = f
      · rw [if_pos e] at h
        cases h
        have : (f == g) = true := by rw [e]; simp
        rw [this]
        exact ⟨v, rfl, rv⟩
      · rw [if_neg e] at h
        have : (f == g) = false := by simpa using fun q => e q.symm
        rw [this]
        exact fldD_rep rr h
/-- what the text's end says of a class and the names of its fields -/
structure Own (K : Frg) (mg : Str → Option Value) (x : Str) (C fI : Addr) (fs : List Str) : Prop where
  cl : Cls K C
  mkr : Mk K C fI
  m : mg x = some (.ref C)
  no : ∀ f ∈ fs, NoAttr K C f
section
variable {C : Ctx} {X : Cx} {pos : Pos} {Cc fI : Addr} {x f : Str} {fs : List Str}
def tAttrD (Cc : Addr) (f : Str) (t : TD) : TD := fun E Q => t E fun d E1 => match d with
  | .obj C' ns ds => C' = Cc ∧ match fldD ns ds f with
    | some y => Q y E1
    | none => False
  | _ => False
theorem de_attr {e : Expr} {t : TD} (O : Own X.K X.mg x Cc fI fs) (he : DE C X e t) (hf : f ∈ fs := by decide) (hb : attributeBase e f X.env (eval e X.env) = eval e X.env := by rfl) : DE C X (.Attribute e f pos) (tAttrD Cc f t) :=
  (pe_fld he hb).imp fun σ H Q ⟨ps, Ep, E, Z, Qd, w, h, post⟩ => ⟨ps, Ep, E, Z, _, w, h, fun d E1 Z1 H1 v w1 st1 r1 h1 => by
    split at h1
    · obtain ⟨rfl, h1⟩ := h1
      cases r1 with
      | obj z ha en rs =>
        split at h1
        · rename_i y ey
          rw [← en] at ey
          obtain ⟨u, lu, ru⟩ := fldD_rep rs ey
          exact ⟨_, _, _, _, u, rfl, ha, O.cl, O.no f hf, lu, post y E1 Z1 H1 u w1 st1 ru h1⟩
        · cases h1
    · cases h1⟩
/-! ### self.f = e, in an __init__: the fields so far, a new one -/
theorem putF_new {f : Str} {v : V} : ∀ {fs : List (Str × V)}, (fs.map (·.1)).contains f = false → putF f v fs = fs ++ [(f, v)]
  | [], _ => rfl
  | (g, y) :: fs, h => by
    have h : (f == g || (fs.map (·.1)).contains f) = false := by simpa [List.contains_cons] using h
    rw [Bool.or_eq_false_iff] at h
    show (if g = f then _ else (g, y) :: putF f v fs) = _
    rw [if_neg (fun e => by rw [e] at h; simp at h), putF_new h.2]
    rfl
theorem TReps.app {K : Frg} {Z : Addr → Prop} {H : Hp} : ∀ {vs : List V} {ts : List T} {F : List Addr} {v : V} {t : T} {G : List Addr}, TReps K Z H vs ts F → TRep K Z H v t G → TReps K Z H (vs ++ [v]) (ts ++ [t]) (F ++ G)
  | _, _, _, _, _, _, .nil, r => by
    have := TReps.cons r .nil
    rw [List.append_nil] at this
    exact this
  | _, _, _, _, _, _, .cons r0 rr, r => by
    rw [List.append_assoc]
    exact .cons r0 (TReps.app rr r)
/-- the object at a name, owned or lent -/
def objAt (E : List S) (i : Nat) (k : Addr → List Str → List T → (List Str → List T → List S) → Prop) : Prop := match E[i]? with
  | some (.ow (.obj C' ns ts)) => k C' ns ts fun ns' ts' => E.set i (.ow (.obj C' ns' ts'))
  | some (.mu (.obj C' ns ts)) => k C' ns ts fun ns' ts' => E.set i (.mu (.obj C' ns' ts'))
  | _ => False
theorem objAt_of {E : List S} {i : Nat} {k : Addr → List Str → List T → (List Str → List T → List S) → Prop} (h : objAt E i k) : ∃ s C' ns ts, E[i]? = some s ∧ s.tree? = some (.obj C' ns ts) ∧ k C' ns ts fun ns' ts' => E.set i (s.put (.obj C' ns' ts')) := by
  unfold objAt at h
  split at h
  · rename_i C' ns ts e; exact ⟨_, C', ns, ts, e, rfl, h⟩
  · rename_i C' ns ts e; exact ⟨_, C', ns, ts, e, rfl, h⟩
  · cases h
/-- a field of data is stored into the object at a name -/
theorem At.fieldD {ps : Sg} {Ep : List S} {Z : Addr → Prop} {σ : Sg} {E : List S} {H : Hp} (w : At C ps Ep Z σ E H) {i : Nat} {s : S} {C' : Addr} {ns : List Str} {ts : List T} (e : E[i]? = some s) (et : s.tree? = some (.obj C' ns ts)) :
    ∃ a dx fs, σ[i]? = some (some (.ref a)) ∧ H a = some (.ins C' dx fs) ∧ fs.map (·.1) = ns ∧ ∀ f v d, ns.contains f = false → Rep C.K Z H v d →
      Stp Z H Z (upd H a (.ins C' dx (putF f v fs))) ∧ At C ps Ep Z σ (E.set i (s.put (.obj C' (ns ++ [f]) (ts ++ [.fr d])))) (upd H a (.ins C' dx (putF f v fs))) := by
  obtain ⟨F, g⟩ := w.2
  obtain ⟨v, e1, r⟩ := (g.sl.rep i s (up_get e)).tree et
  have hi := (List.getElem?_eq_some_iff.mp e).1
  generalize hF : F i = G at r
  cases r with
  | obj h he hs =>
    rename_i a dx fs F0
    have ha : a ∈ F i := by rw [hF]; simp
    refine ⟨a, dx, fs, At.low w.1 hi (getD_some e1), h, he, fun f y d nc rd => ?_⟩
    have st : Stp Z H Z (upd H a (.ins C' dx (putF f y fs))) := Stp.put (g.nz i a ha) h trivial
    refine ⟨st, by rw [List.length_set]; exact w.1, ?_⟩
    have hn : a ∉ F0 := by
      have := g.sl.nd i
      rw [hF] at this
      exact (List.nodup_cons.mp this).1
    have eq : putF f y fs = fs ++ [(f, y)] := putF_new (by rw [he]; exact nc)
    have hs2 : TReps C.K Z (upd H a (.ins C' dx (putF f y fs))) (fs.map (·.2)) ts F0 := hs.mono st fun b hb => upd_ne fun q => hn (q ▸ hb)
    have hr : TReps C.K Z (upd H a (.ins C' dx (putF f y fs))) ((putF f y fs).map (·.2)) (ts ++ [.fr d]) F0 := by
      have := TReps.app hs2 (TRep.fr (rd.mono st))
      rw [List.append_nil] at this
      rw [show (putF f y fs).map (·.2) = fs.map (·.2) ++ [y] by rw [eq, List.map_append]; rfl]
      exact this
    have q := g.put (up_get e) et st (getD_some e1) (TRep.obj (ns := ns ++ [f]) upd_same (by rw [eq, List.map_append, he]; rfl) hr) (fun b hb => .inl (by rw [hF]; exact hb)) (by rw [← hF]; exact g.sl.nd i) (fun j hj b hb => ?_) (fun b o e0 n q => ?_) (fun b z => ?_) upd_kt
    · rw [List.set_append_left _ _ hi] at q
      exact q
    · exact upd_ne fun q => hj (g.sl.dj j i b hb (by rw [q]; exact ha))
    · rw [upd_ne]
      · exact q
      · rintro rfl
        have ei := up_get (Ep := Ep) e
        cases s with
        | un => cases et
        | fr d => cases et
        | ow x =>
          have := g.own i x b ei ha
          rw [e0] at this; cases this
        | mu x =>
          rcases g.mum i x b ei ha with z | z
          · exact n i z
          · rw [e0] at z; cases z
    · by_cases q : b = a
      · rw [q, upd_same]; intro q; cases q
      · rw [upd_ne q]; exact g.zt b z
/-- self.f = e, data -/
def dFieldD (i : Nat) (Cc : Addr) (f : Str) (t : TD) : TSD := fun D E => t E fun d E1 => objAt E1 i fun C' ns ts put => C' = Cc ∧ (ns.contains f = false ∧ ns.length < 900) ∧ D.nx (put (ns ++ [f]) (ts ++ [.fr d]))
theorem ds_fieldD (i : Nat) {y : Str} {e : Expr} {t : TD} {pos' apos : Pos} (cl : Cls X.K Cc) (no : NoAttr X.K Cc f) (he : DE C X e t) (hs : swapsWith e (some (.Attribute (.Name y pos') f apos)) pos.line X.env = pure false := by rfl) (hN : X.N[i]? = some y := by rfl)
    (hvi : Vis X.env.scope y := by first | exact Or.inl rfl | exact Or.inr (Or.inl rfl) | exact Or.inr (Or.inr rfl)) (hd : (y == ("__debug__" : Str)) = false := by decide) (hcd : (y == ("__classdict__" : Str)) = false := by decide) : DS C X (.Assign [.Attribute (.Name y pos') f apos] e pos) (dFieldD i Cc f t) :=
  (ps_fld (pe_var hN hvi hd hcd) he hs).imp fun Dn σ H ⟨ps, Ep, E, Z, Dd, w, h, ft⟩ => ⟨ps, Ep, E, Z, _, w, h, fun d E1 Z1 H1 v w1 st1 r1 h1 => by
    obtain ⟨s, C', ns, ts, e1, e2, ec, ⟨nc, hl⟩, q⟩ := objAt_of h1
    subst ec
    obtain ⟨a, dx, fs, e3, ha, ef, k⟩ := w1.fieldD e1 e2
    obtain ⟨st2, w2⟩ := k f v d nc r1
    have ll : fs.length = ns.length := by rw [← ef, List.length_map]
    exact ⟨.ref a, e3, a, C', dx, fs, rfl, ha, cl, no, by omega, ft.nx _ _ Z1 _ w2 (st1.trans st2) q⟩⟩
end
end DL
set_option Elab.async false
set_option linter.all false
set_option maxRecDepth 100000
set_option maxHeartbeats 4000000
/-! DL, part ze: an object is made. -/
namespace DL
open PySem PySem.Spec PyProof.Rows L2

section
variable {X : Cx} {CX : CXT} {k : Nat} {f C : Addr} {fd : FuncData} {prs : List Str} {sp : Sp}
/-- C(..): its __init__ runs, what that raises is wished for at the caller's slots -/
theorem make_at {W : WX} {pins : List (Addr × Obj)} {σ : Sg} {H : Hp} {s : Shared} {Q : VK} {us : List Value} {vs : List V} (M : Mk X.K C f) (F : FnOk X.prog X.w X.K X.mg X.base CX k f fd prs sp) (hr : Room (k + 1) X.A) (hb : Binds X.K fd prs []) (hx : PassesAt CX X σ (WE W σ)) (I : Inv X pins σ H s) (r : Vals vs us)
    (h : ∀ x dx, H x = none → H dx = none → dx ≠ x → sp (.ref x :: vs) (upd (upd H dx (.own x)) x (.ins C dx [])) (fun v H2 => v = .non ∧ Q (.ref x) H2) (WE W σ)) : wpAny (model X.prog X.w) X.A (call (.ref C) us) (EP X pins σ Q) X.xe s := by
  have q0 := h (s.heap.objs.size + 1) s.heap.objs.size (I.hok.fresh (Nat.le_succ _)) (I.hok.fresh (Nat.le_refl _)) (Nat.ne_of_lt (Nat.lt_succ_self _))
  have I2 := Inv.made (C := C) I
  have r2 : Vals (V.ref (s.heap.objs.size + 1) :: vs) (Value.ref (s.heap.objs.size + 1) :: us) := .cons rfl r
  have hl : (Value.ref (s.heap.objs.size + 1) :: us).length = prs.length := by
    rw [← r2.length]
    exact F.len _ _ _ _ q0
  have bb := hb _ (Value.ref (s.heap.objs.size + 1) :: us) I2.kIn (by rw [List.append_nil]; exact hl)
  rw [List.append_nil] at bb
  refine wpAny_call (make_map (f := f) I.kIn M.makes M.init (beq_iff_eq.mp M.fn) (codeAny_mono (F.run _ X.stack _ _ _ _ _ _ _ (hr.make C us []) (I2.env0.make C us []) bb r2 q0) fun r s' hq => ?_))
  cases r with
  | error e => exact hx pins _ _ e s' I2 hq
  | ok g =>
    cases g with
    | ret u =>
      obtain ⟨v, H', I3, rv, ev, q3⟩ := I2.after hq
      subst ev
      exact ⟨rv, V.ref (s.heap.objs.size + 1), H', I3, rfl, q3⟩
    | next => exact hq.elim
    | brk => exact hq.elim
    | cont => exact hq.elim
def tMakeW (C : Addr) (sp : Sp) (W : WX) (t : TA) : TE := fun σ H Q => t σ H fun vs H1 => ∀ x dx, H1 x = none → H1 dx = none → dx ≠ x → sp (.ref x :: vs) (upd (upd H1 dx (.own x)) x (.ins C dx [])) (fun v H2 => v = .non ∧ Q (.ref x) H2) (WE W σ)
theorem pe_makeW {W : WX} {x : Str} {e : Expr} {es : List Expr} {t : TA} {p pos : Pos} (M : Mk X.K C f) (F : FnOk X.prog X.w X.K X.mg X.base CX k f fd prs sp) (hr : Room (k + 1) X.A) (hg : Gl X x) (hm : X.mg x = some (.ref C)) (hb : Binds X.K fd prs []) (hx : ∀ σ, PassesAt CX X σ (WE W σ)) (ha : PA X (e :: es) t)
    (hdb : (x == ("__debug__" : Str)) = false := by decide) (he : starEach (e :: es) X.env = (false, eval e X.env) :: starEach es X.env := by rfl) (hpl : (backTo pos (starEach es X.env)).any (·.1) = false := by rfl) : PE X (.Call (.Name x p) (e :: es) [] pos) (tMakeW C sp W t) := by
  refine ⟨fun pins s σ H Q I h => wpAny_Call_Name_kw (ld_glob I hg hm ?_ hdb)⟩
  exact PySem.W.callWith_K (h₀ := X.base) I.ok.mod.kin M.kp (thn (ha.run pos pins s σ H _ I h) fun us s1 ⟨vs, H1, I1, r, q⟩ => ⟨I1.kIn, make_at M F hr hb (hx σ) I1 r q⟩) he hpl
end

/-! ### over data -/
section
variable {K : Frg} {Z : Addr → Prop} {σ τ : Sg} {H : Hp}
theorem ArgsOk.lift : ∀ {vs : List V} {as : List AM}, ArgsOk K Z σ H vs as → ArgsOk K Z (σ ++ τ) H vs as
  | _, _, .nil => .nil
  | _, _, .d r h => .d r h.lift
  | _, _, .m e h => .m (At.high e) h.lift
theorem ArgsOk.low : ∀ {vs : List V} {as : List AM} {j : Nat}, ArgsOk K Z σ H vs as → σ.length ≤ j → (msOf as).contains j = false ∧ whoAt as j = none
  | _, _, j, .nil, _ => ⟨rfl, rfl⟩
  | _, _, j, .d r h, hj => by
    obtain ⟨a, b⟩ := h.low hj
    refine ⟨a, ?_⟩
    show (whoAt _ j).map (· + 1) = none
    rw [b]; rfl
  | _, _, j, .m (i := i) e h, hj => by
    obtain ⟨a, b⟩ := h.low hj
    have hi : i < σ.length := (List.getElem?_eq_some_iff.mp e).1
    refine ⟨?_, ?_⟩
    · show (i :: msOf _).contains j = false
      rw [List.contains_cons, a, Bool.or_false]
      simpa using fun q : j = i => by omega
    · show (if i = j then some 0 else (whoAt _ j).map (· + 1)) = none
      rw [if_neg (by omega), b]; rfl
theorem argS_app {E T : List S} : ∀ {vs : List V} {as : List AM}, ArgsOk K Z σ H vs as → σ.length = E.length → as.map (argS (E ++ T)) = as.map (argS E)
  | _, _, .nil, _ => rfl
  | _, _, .d r h, hl => by rw [List.map_cons, List.map_cons, argS_app h hl]; rfl
  | _, _, .m (i := i) e h, hl => by
    rw [List.map_cons, List.map_cons, argS_app h hl]
    congr 1
    unfold argS
    dsimp only
    rw [List.getElem?_append_left (by rw [← hl]; exact (List.getElem?_eq_some_iff.mp e).1)]
end
section
variable {C : Ctx} {X : Cx} {pos : Pos} {CX : CXT} {k : Nat} {Cc fI : Addr} {fd : FuncData} {prs fs : List Str} {sx : SpX} {x : Str} {p : Pos} {e : Expr} {es : List Expr} {ta : TAm} {Wd : WdX}
/-- C(e, ..): an object of one's own, as __init__ has left it -/
def tMakeD (Cc : Addr) (sx : SpX) (Wd : WdX) (ta : TAm) : TN := fun E Q => ta E fun as E1 => apart (msOf as) = true ∧ sx (.mu (.obj Cc [] []) :: as.map (argS E1)) (fun r Em => match r, Em with
  | .fr .non, .mu t :: Em' => Q t (backL as Em' 0 E1)
  | _, _ => False) fun ex Em => Wd ex (backL as Em.tail 0 E1)
theorem backL_app (as : List AM) (Em : List S) : ∀ (j : Nat) (A B : List S), backL as Em j (A ++ B) = backL as Em j A ++ backL as Em (j + A.length) B
  | _, [], B => rfl
  | j, s :: A, B => by
    show backAt as Em j s :: backL as Em (j + 1) (A ++ B) = backAt as Em j s :: (backL as Em (j + 1) A ++ _)
    rw [backL_app as Em (j + 1) A B, List.length_cons, show j + 1 + A.length = j + (A.length + 1) by omega]
theorem backL_low {J : Nat} (as : List AM) (Em : List S) : ∀ (j : Nat) (E : List S), j + E.length ≤ J → backL (.m J :: as) Em j E = backL as Em.tail j E
  | _, [], _ => rfl
  | j, s :: E, h => by
    rw [List.length_cons] at h
    show backAt (.m J :: as) Em j s :: _ = backAt as Em.tail j s :: _
    rw [backL_low as Em (j + 1) E (by omega)]
    congr 1
    have w : whoAt (.m J :: as) j = (whoAt as j).map (· + 1) := by
      show (if J = j then some 0 else (whoAt as j).map (· + 1)) = _
      rw [if_neg (by omega)]
    unfold backAt
    rw [w]
    cases whoAt as j with
    | none => rfl
    | some k =>
      have e : Em[k + 1]? = Em.tail[k]? := by cases Em <;> rfl
      show (match s with | .un => S.un | .fr d => .fr d | s => match Em[k + 1]? with | some (.mu t) => s.put t | _ => .un) = (match s with | .un => S.un | .fr d => .fr d | s => match Em.tail[k]? with | some (.mu t) => s.put t | _ => .un)
      rw [e]
theorem backL_same {as : List AM} {Em : List S} : ∀ (j : Nat) (E : List S), (∀ l, j ≤ l → whoAt as l = none) → backL as Em j E = E
  | _, [], _ => rfl
  | j, s :: E, h => by
    show backAt as Em j s :: _ = _
    rw [backL_same (j + 1) E fun l hl => h l (by omega)]
    congr 1
    unfold backAt
    rw [h j (Nat.le_refl _)]
theorem backL_make {as : List AM} {Em : List S} {E U : List S} {o t : T} (low : ∀ j, E.length ≤ j → whoAt as j = none) : backL (.m (E ++ U).length :: as) (.mu t :: Em) 0 (E ++ (U ++ [S.ow o])) = backL as Em 0 E ++ (U ++ [S.ow t]) := by
  rw [backL_app, backL_app, backL_low as _ 0 E (by rw [List.length_append]; omega)]
  congr 1
  congr 1
  · rw [backL_low as _ _ U (by rw [List.length_append]; omega)]
    exact backL_same _ _ fun l hl => low l (by omega)
  · show [backAt _ _ _ _] = [S.ow t]
    unfold backAt
    have w : whoAt (.m (E ++ U).length :: as) (0 + E.length + U.length) = some 0 := by
      show (if (E ++ U).length = _ then some 0 else _) = some 0
      rw [if_pos (by rw [List.length_append]; omega)]
    rw [w]
    rfl
/-- the first places alone -/
theorem At.first {Z : Addr → Prop} {σ τ : Sg} {A B : List S} {H : Hp} (w : At C [] [] Z (σ ++ τ) (A ++ B) H) (hl : σ.length = A.length) : At C [] [] Z σ A H := by
  have q := w.2
  rw [List.append_nil, List.append_nil] at q
  exact At.drops (ps := τ) (Ep := B) ⟨hl, q⟩
theorem dn_make (O : Own X.K X.mg x Cc fI fs) (G : FnOk X.prog X.w X.K X.mg X.base CX k fI fd prs (spX X.K prs.length sx)) (hx : ∀ σ, PassesAt CX X σ (WE (wxOf C Wd) σ)) (b : Binds X.K fd prs []) (hr : Room (k + 1) X.A) (ha : DM C X (e :: es) ta) (hn : prs.length = (e :: es).length + 1 := by rfl) (hg : Gl X x := by rfl) (hK : X.K = C.K := by rfl)
    (hdb : (x == ("__debug__" : Str)) = false := by decide) (he : starEach (e :: es) X.env = (false, eval e X.env) :: starEach es X.env := by rfl) (hpl : (backTo pos (starEach es X.env)).any (·.1) = false := by rfl) : DN C X (.Call (.Name x p) (e :: es) [] pos) (tMakeD Cc sx Wd ta) :=
  (pe_makeW O.mkr G hr hg O.m b hx ha hdb he hpl).imp fun σ H Q ⟨ps, Ep, E, Z, Qd, w, h, post⟩ => ⟨ps, Ep, E, Z, _, w, h, fun as E1 Z1 H1 vs w1 st1 ok hl ⟨ap, h1⟩ a dx ha hdx hne => by
    rw [hK]
    have w2 := w1.new (o := .own a) hdx
    have st2 : Stp Z1 H1 Z1 (upd H1 dx (.own a)) := Stp.new w1.zt hdx
    have ha2 : upd H1 dx (.own a) a = none := by rw [upd_ne (Ne.symm hne)]; exact ha
    have st3 : Stp Z1 (upd H1 dx (.own a)) Z1 (upd (upd H1 dx (.own a)) a (.ins Cc dx [])) := Stp.new w2.zt ha2
    have w3 : At C (ps ++ [some (.ref a)]) (Ep ++ [.ow (.obj Cc [] [])]) Z1 σ E1 (upd (upd H1 dx (.own a)) a (.ins Cc dx [])) := by
      obtain ⟨F, f⟩ := w2.2
      refine ⟨w2.1, ?_⟩
      rw [← List.append_assoc, ← List.append_assoc]
      exact f.push ha2 (.obj upd_same rfl .nil)
    obtain ⟨w4, e1, e2⟩ := w3.flat
    have ok2 : ArgsOk C.K Z1 (σ ++ (ps ++ [some (.ref a)])) (upd (upd H1 dx (.own a)) a (.ins Cc dx [])) (.ref a :: vs) (.m (E1 ++ Ep).length :: as) := .m e2 (ok.mono (st2.trans st3)).lift
    have hJ : σ.length ≤ (E1 ++ Ep).length := by rw [w1.1, List.length_append]; omega
    have lowJ := ok.low hJ
    have ap2 : apart (msOf (.m (E1 ++ Ep).length :: as)) = true := by
      show (!(msOf as).contains (E1 ++ Ep).length && apart (msOf as)) = true
      rw [lowJ.1, ap]; rfl
    have w4' := w4.2
    rw [List.append_nil, List.append_nil] at w4'
    obtain ⟨F, f⟩ := w4'
    obtain ⟨g1, g2, g3⟩ := call_go (ps := []) (Ep := []) (by rw [List.append_nil, List.append_nil]; exact f) w4.1 ok2 ap2
    have es : (AM.m (E1 ++ Ep).length :: as).map (argS (E1 ++ (Ep ++ [.ow (.obj Cc [] [])]))) = .mu (.obj Cc [] []) :: as.map (argS E1) := by
      rw [List.map_cons, argS_app ok w1.1]
      congr 1
      show (match (E1 ++ (Ep ++ [S.ow (.obj Cc [] [])]))[(E1 ++ Ep).length]? with | some (.ow t) => S.mu t | some (.mu t) => .mu t | some (.fr d) => .fr d | _ => .un) = _
      rw [e1]
    rw [es] at g1
    have back : ∀ {t : T} {Em' : List S}, backL (.m (E1 ++ Ep).length :: as) (.mu t :: Em') 0 (E1 ++ (Ep ++ [.ow (.obj Cc [] [])])) = backL as Em' 0 E1 ++ (Ep ++ [.ow t]) := backL_make fun j hj => (ok.low (by rw [w1.1]; exact hj)).2
    refine ⟨Z1, _, _, _, _, by rw [List.length_cons, ok.length, hl, hn], g1, g2, f.zt, fun i t q => ?_, h1, fun r Em Z' H' v R q => ?_, fun ex Em Z' H' cls d wA xr hw => ?_⟩
    · cases i with
      | zero => cases q
      | succ i => exact argS_no i t q
    · split at q
      · rename_i t Em'
        obtain ⟨st5, R2⟩ := g3 _ _ Z' H' v R
        cases R2.2
        refine ⟨rfl, ?_⟩
        have w6 := R2.1.2
        rw [back, List.append_nil, List.append_nil] at w6
        refine post t _ Z' H' _ ⟨by rw [backL_length]; exact w1.1, w6⟩ (st1.trans (st2.trans (st3.trans st5))) q
      · cases q
    · obtain ⟨st5, R2⟩ := g3 (.fr .non) Em Z' H' .non ⟨wA, .non⟩
      have w6 := R2.1
      rw [backL_app, backL_low as Em 0 E1 (by rw [List.length_append]; omega)] at w6
      exact ⟨[], [], Z', _, ex, w6.first (by rw [backL_length]; exact w1.1), xr, hw⟩⟩
end
end DL
set_option Elab.async false
set_option linter.all false
set_option maxRecDepth 100000
set_option maxHeartbeats 4000000
/-! DL, part zf: chains, zip, the least of two texts, == of dicts, a call of what a name holds. -/
namespace DL
open PySem PySem.Spec PyProof.Rows L2 RZ

section
variable {C : Ctx} {X : Cx} {pos : Pos}
/-! ### a < b < c -/
def tChn (o o' : O2) (ta tb tc : TD) : TD := fun E Q => ta E fun x E1 => tb E1 fun y E2 => o x y fun z => match z with
  | .bl k => brB k (tc E2 fun u E3 => o' y u fun d => Q d E3) (Q (.bl false) E2)
  | _ => False
theorem de_chn {op op' : CmpOp} {o o' : O2} {r r' : R2} {a b c : Expr} {ta tb tc : TD} (ho : OpR X (compareOp op) r ∧ Meets C o r) (ho' : OpR X (compareOp op') r' ∧ Meets C o' r') (ha : DE C X a ta) (hb : DE C X b tb) (hc : DE C X c tc) (hm : lastMarks [op, op'] [b, c] = false := by with_unfolding_all rfl) :
    DE C X (.Compare a [op, op'] [b, c] pos) (tChn o o' ta tb tc) := (pe_chain ho.1 ho'.1 ha hb hc hm).imp fun σ H Q ⟨ps, Ep, E, Z, Qd, w, h, post⟩ =>
  ⟨ps, Ep, E, Z, _, w, h, fun x E1 Z1 H1 v w1 st1 r1 h1 => ⟨ps, Ep, E1, Z1, _, w1, h1, fun y E2 Z2 H2 u w2 st2 r2 h2 => ho.2 Z2 H2 v u x y _ _ (r1.mono st2) r2 h2 fun z d rz q => by
    cases rz with
    | bl k =>
      refine ⟨k, rfl, ?_⟩
      cases k with
      | true =>
        rw [if_pos rfl]
        exact ⟨ps, Ep, E2, Z2, _, w2, q.t, fun z E3 Z3 H3 t w3 st3 r3 h3 => ho'.2 Z3 H3 u t y z _ _ (r2.mono st3) r3 h3 fun dv d rd qd => post d E3 Z3 H3 dv w3 (st1.trans (st2.trans st3)) rd qd⟩
      | false =>
        rw [if_neg Bool.false_ne_true]
        exact post _ E2 Z2 H2 _ w2 (st1.trans st2) (.bl false) q.f
    | _ => cases q⟩⟩
def tChnB (o o' : O2) (ta tb tc : TD) : TB := fun E Q => tChn o o' ta tb tc E fun d E1 => match d with
  | .bl k => Q k E1
  | _ => False
theorem dt_chn {op op' : CmpOp} {o o' : O2} {r r' : R2} {a b c : Expr} {ta tb tc : TD} (ho : OpR X (compareOp op) r ∧ Meets C o r) (ho' : OpR X (compareOp op') r' ∧ Meets C o' r') (ha : DE C X a ta) (hb : DE C X b tb) (hc : DE C X c tc) (hm : lastMarks [op, op'] [b, c] = false := by with_unfolding_all rfl) :
    DT C X (.Compare a [op, op'] [b, c] pos) (tChnB o o' ta tb tc) := (pt_chain ho.1 ho'.1 ha hb hc hm).imp fun σ H Q ⟨ps, Ep, E, Z, Qd, w, h, post⟩ =>
  ⟨ps, Ep, E, Z, _, w, h, fun x E1 Z1 H1 v w1 st1 r1 h1 => ⟨ps, Ep, E1, Z1, _, w1, h1, fun y E2 Z2 H2 u w2 st2 r2 h2 => ho.2 Z2 H2 v u x y _ _ (r1.mono st2) r2 h2 fun z d rz q => by
    cases rz with
    | bl k =>
      refine ⟨k, rfl, ?_⟩
      cases k with
      | true =>
        rw [if_pos rfl]
        exact ⟨ps, Ep, E2, Z2, _, w2, q.t, fun z E3 Z3 H3 t w3 st3 r3 h3 => ho'.2 Z3 H3 u t y z _ _ (r2.mono st3) r3 h3 fun dv d rd qd => by
          cases rd with
          | bl k2 => exact ⟨k2, rfl, post k2 E3 Z3 H3 w3 (st1.trans (st2.trans st3)) qd⟩
          | _ => cases qd⟩
      | false =>
        rw [if_neg Bool.false_ne_true]
        exact ⟨false, rfl, post _ E2 Z2 H2 w2 (st1.trans st2) q.f⟩
    | _ => cases q⟩⟩
/-! ### zip(a, b) of two tuples, of two lists, of one length -/
def prs (ds es : List D) : List D := (ds.zip es).map fun p => .tup [p.1, p.2]
theorem prs_get {ds es : List D} {i : Nat} {d : D} (h : (prs ds es)[i]? = some d) : ∃ x y, ds[i]? = some x ∧ es[i]? = some y ∧ d = .tup [x, y] := by
  unfold prs at h
  rw [List.getElem?_map] at h
  cases e : (ds.zip es)[i]? with
  | none => rw [e] at h; cases h
  | some p =>
    rw [e] at h
    cases h
    have := List.getElem?_zip_eq_some.mp e
    exact ⟨p.1, p.2, this.1, this.2, rfl⟩
def tiZip (t u : TD) : TIt := fun E Q => t E fun d E1 => u E1 fun e E2 => match d, e with
  | .tup ds, .tup es => Q (prs ds es) E2
  | .lst ds, .lst es => Q (prs ds es) E2
  | _, _ => False
theorem walks_zipT {Z : Addr → Prop} {H : Hp} {a b : Addr} {vs ws : List V} {ds es : List D} (ha : SqT C.K H a vs) (hb : SqT C.K H b ws) (ra : Reps C.K Z H vs ds) (rb : Reps C.K Z H ws es) : Walks C (ItzT C.K a b) Z H (prs ds es) (fun _ _ => True) :=
  ⟨fun Z2 σ2 E2 H2 ps Ep st w _ i hi => ⟨vs, ws, sqT_mono st ha, sqT_mono st hb, by
    unfold prs at hi
    rw [List.length_map, List.length_zip] at hi
    rw [ra.length, rb.length]
    omega⟩, fun Z2 σ2 E2 H2 ps Ep st w _ i d e => by
    obtain ⟨x, y, ex, ey, rfl⟩ := prs_get e
    obtain ⟨v, ev, rv⟩ := (ra.mono st).get ex
    obtain ⟨u, eu, ru⟩ := (rb.mono st).get ey
    refine ⟨⟨vs, ws, v, u, sqT_mono st ha, sqT_mono st hb, ev, eu⟩, fun z H3 yl => ?_⟩
    obtain ⟨T0, x', y', rfl, hT, rfl, h1, h2⟩ := yl
    have e1 := h1 vs (sqT_mono st ha)
    have e2 := h2 ws (sqT_mono st hb)
    rw [ev] at e1; rw [eu] at e2
    cases e1; cases e2
    have s3 := Stp.new (o := .tup [v, u]) w.zt hT
    exact ⟨.inr ⟨T0, _, hT, rfl⟩, .tup (.of upd_same) (.cons (rv.mono s3) (.one (ru.mono s3)))⟩⟩
theorem walks_zipL {Z : Addr → Prop} {H : Hp} {a b : Addr} {vs ws : List V} {ds es : List D} (ha : LsR Z H a vs) (hb : LsR Z H b ws) (ra : Reps C.K Z H vs ds) (rb : Reps C.K Z H ws es) : Walks C (Itz C.K a b) Z H (prs ds es) (fun _ _ => True) :=
  ⟨fun Z2 σ2 E2 H2 ps Ep st w _ i hi => ⟨vs, ws, (ha.mono st).sq, (hb.mono st).sq, by
    unfold prs at hi
    rw [List.length_map, List.length_zip] at hi
    rw [ra.length, rb.length]
    omega⟩, fun Z2 σ2 E2 H2 ps Ep st w _ i d e => by
    obtain ⟨x, y, ex, ey, rfl⟩ := prs_get e
    obtain ⟨v, ev, rv⟩ := (ra.mono st).get ex
    obtain ⟨u, eu, ru⟩ := (rb.mono st).get ey
    refine ⟨⟨vs, ws, v, u, (ha.mono st).sq, (hb.mono st).sq, ev, eu⟩, fun z H3 yl => ?_⟩
    obtain ⟨T0, x', y', rfl, hT, rfl, h1, h2⟩ := yl
    have e1 := h1 vs (ha.mono st).sq
    have e2 := h2 ws (hb.mono st).sq
    rw [ev] at e1; rw [eu] at e2
    cases e1; cases e2
    have s3 := Stp.new (o := .tup [v, u]) w.zt hT
    exact ⟨.inr ⟨T0, _, hT, rfl⟩, .tup (.of upd_same) (.cons (rv.mono s3) (.one (ru.mono s3)))⟩⟩
theorem di_zip {a b : Expr} {ta tb : TD} {p tpos : Pos} {elts : List Expr} {kk : Nat} (hm : X.mg "zip" = none) (ha : DE C X a ta) (hb : DE C X b tb) (hg : Gl X "zip" := by rfl) (hs : starEach [a, b] X.env = (false, eval a X.env) :: starEach [b] X.env := by rfl) (hs2 : starEach [b] X.env = (false, eval b X.env) :: starEach [] X.env := by rfl)
    (hpl : (backTo pos (starEach [b] X.env)).any (·.1) = false := by rfl) (hK : X.K = C.K := by rfl) : DI C X (.Tuple elts kk tpos) (.Call (.Name "zip" p) [a, b] [] pos) (tiZip ta tb) :=
  (pi_zipA hg hm (pa_cons ha (pa_cons hb pa_nil hs2) hs) hs hpl).imp fun σ H R ⟨ps, Ep, E, Z, Qd, w, h, post⟩ => ⟨ps, Ep, E, Z, _, w, h, fun d E1 Z1 H1 v w1 st1 r1 h1 => ⟨ps, Ep, E1, Z1, _, w1, h1, fun e E2 Z2 H2 u w2 st2 r2 h2 => by
    rw [hK]
    split at h2
    · have r1' := r1.mono st2
      cases r1' with
      | tup s1 q1 =>
        cases r2 with
        | tup s2 q2 => exact ⟨_, _, _, _, rfl, .inr ⟨s1, s2, post _ _ E2 Z2 H2 w2 (st1.trans st2) (walks_zipT s1 s2 q1 q2) h2⟩⟩
    · have r1' := r1.mono st2
      cases r1' with
      | lst s1 q1 =>
        cases r2 with
        | lst s2 q2 => exact ⟨_, _, _, _, rfl, .inl ⟨s1.sq, s2.sq, post _ _ E2 Z2 H2 w2 (st1.trans st2) (walks_zipL s1 s2 q1 q2) h2⟩⟩
    · cases h2⟩⟩
/-! ### == of dicts that are equal -/
def oEqDic : O2 := fun x y q => match x, y with
  | .dic ks ds, .dic ls es => (ks.length = ls.length ∧ ∀ (i : Nat) k d, ks[i]? = some k → ds[i]? = some d → ∃ e, getK ls es k = some e ∧ d.shp = true ∧ e.shp = true ∧ d.eqv e = true) ∧ q (.bl true)
  | _, _ => False
def rEqDic (K : Frg) : R2 := fun x y H Q => EqR K H (fun u v => ∃ d e, Dp K H u d ∧ Dp K H v e ∧ SeqAt.shaped d = true ∧ SeqAt.shaped e = true ∧ PyData.eqv d e = true) x y ∧ Q (.bl true) H
theorem op_eqDic (hu : X.A.units + 65 < cLine) : OpR X (compareOp .Eq) (rEqDic X.K) := by
  intro pins s σ H x y v u Q I rx ry ⟨h, q⟩
  refine eqR_run I (A := X.A) (by omega) (fun x y v u ⟨d, e, hd, he, sd, se, ev⟩ rx ry => ?_) h rx ry _ _ ⟨.bl true, H, I, rfl, q⟩
  obtain ⟨as, r1⟩ := Dp.reads I d x v hd rx
  obtain ⟨bs, r2⟩ := Dp.reads I e y u he ry
  have := SeqAt.eqAt_reads d e X.A.in1 s v u as bs r1 r2 (SeqAt.canLay_of_shaped sd) (SeqAt.canLay_of_shaped se) (SeqAt.room_of_shaped sd (by show X.A.units + 1 + 64 < cLine; omega))
  rw [ev] at this
  exact this.eqP
theorem getV {K : Frg} {Z : Addr → Prop} {H : Hp} : ∀ {kvs : List (Key × V)} {ds : List D} {p : Key × V}, Reps K Z H (kvs.map (·.2)) ds → p ∈ kvs → ∃ (i : Nat) (d : D), (kvs.map (·.1))[i]? = some p.1 ∧ ds[i]? = some d ∧ Rep K Z H p.2 d := fun {kvs ds p} r hp => by
  obtain ⟨i, hi⟩ := List.getElem?_of_mem hp
  have e2 : (kvs.map (·.2))[i]? = some p.2 := by rw [List.getElem?_map, hi]; rfl
  obtain ⟨d, e3, rd⟩ := r.getv e2
  exact ⟨i, d, by rw [List.getElem?_map, hi]; rfl, e3, rd⟩
theorem o_eqDic (hu : X.A.units + 65 < cLine) (hK : X.K = C.K := by rfl) : OpR X (compareOp .Eq) (rEqDic X.K) ∧ Meets C oEqDic (rEqDic X.K) := ⟨op_eqDic hu, fun Z H v w x y q Q rx ry h k => by
  rw [hK]
  unfold oEqDic at h
  split at h
  · obtain ⟨⟨hl, ha⟩, h⟩ := h
    cases rx with
    | dic zx hx ex rsx =>
      cases ry with
      | dic zy hy ey rsy =>
        refine ⟨.inr ⟨_, _, _, _, rfl, rfl, hx, hy, ?_, fun p hp => ?_⟩, k _ _ (.bl true) h⟩
        · rw [← ex, ← ey, List.length_map, List.length_map] at hl; exact hl
        · obtain ⟨i, d, e1, e2, rd⟩ := getV rsx hp
          rw [ex] at e1
          obtain ⟨e, g, sd, se, ev⟩ := ha i p.1 d e1 e2
          have gg := getK_rep (k := p.1) rsy
          rw [ey, g] at gg
          obtain ⟨u, eu, ru⟩ := gg
          exact ⟨u, eu, _, _, rd.dp (shp_lay sd), ru.dp (shp_lay se), sd, se, ev⟩
  · cases h⟩
end
end DL
set_option Elab.async false
set_option linter.all false
set_option maxRecDepth 100000
set_option maxHeartbeats 4000000
/-! DL, part zg: the least of two texts, a call of the def that a name holds. -/
namespace DL
open PySem PySem.Spec PyProof.Rows L2

section
variable {prog : Program} {w : World} {A : Around} {Er : Value → Shared → Prop} {s : Shared} {Q : Value → Shared → Prop}
theorem min_strs {a b : Str} {t u : Tok} (hh : A.handled = none) (h : ∀ h' tk, (∀ c o, s.heap.get? c = some o → h'.get? c = some o) → Q (if b.cps.toList < a.cps.toList then .str b u else .str a t) { s with heap := h', toks := tk }) : wpAny (model prog w) A (call (.builtin "min") [.str a t, .str b u]) Q Er s := by
  have hT : (s.heap.push { cls := .type "tuple", data := .seq #[.str a t, .str b u] }).IsTuple s.heap.objs.size #[.str a t, .str b u] := ⟨_, Heap.get?_push_size _ rfl, rfl, 0, rfl⟩
  have hz : (s.heap.push { cls := .type "tuple", data := .seq #[.str a t, .str b u] }).objs.size = s.heap.objs.size + 1 := Heap.size_push ..
  refine call_min_two (wpAny_pyIter_tuple hT ?_)
  have cm : CmpOf prog w A.in1 .Lt (fun i v => (#[Value.str a t, Value.str b u] : Array Value)[i]? = some v) (fun i j => decide ((if i = 0 then a else b).cps.toList < (if j = 0 then a else b).cps.toList)) := fun i j vi vj s Q E hi hj h => by
    have val : ∀ (i : Nat) (v : Value), (#[Value.str a t, Value.str b u] : Array Value)[i]? = some v → ∃ t', v = .str (if i = 0 then a else b) t' := fun i v e => by
      match i, e with
      | 0, e => cases e; exact ⟨t, rfl⟩
      | 1, e => cases e; exact ⟨u, rfl⟩
      | i + 2, e => simp at e
    obtain ⟨t1, rfl⟩ := val i vi hi
    obtain ⟨t2, rfl⟩ := val j vj hj
    exact richCompare_gives (op := .Lt) (typeIs_str s _ t1) (typeIs_str s _ t2) F.slot_str_lt F.entry_str_lt (F.args_str_lt_2 _ _) (gives_str_lt _ _ t1 t2) (fun e => nomatch e) h
  refine ⟨_, [_, s.heap.objs.size], [_], _, _, _, _, rfl, Walks.tuple (A := A.in1) hh _ s.heap.objs.size (by rw [hz]; exact Nat.ne_of_lt (Nat.lt_succ_self _)) #[.str a t, .str b u], ⟨⟨_, Heap.get?_push_size _ rfl, rfl, rfl⟩, hT.push _⟩, fun c hc => ?_, by simp, cm, fun v h' tk hP hk => ?_⟩
  · show c < ((s.heap.push _).push _).objs.size
    rw [Heap.size_push, hz]
    rcases List.mem_cons.mp hc with rfl | hc
    · rw [hz]; exact Nat.lt_succ_self _
    · rw [List.mem_singleton.mp hc]; exact Nat.lt_succ_of_lt (Nat.lt_succ_self _)
  · have old : ∀ c o, s.heap.get? c = some o → h'.get? c = some o := fun c o e => by
      refine hk c o (fun hm => ?_) (Heap.get?_push_of_some _ (Heap.get?_push_of_some _ e))
      have := Heap.lt_size e
      rw [List.mem_singleton.mp hm, hz] at this
      exact Nat.lt_irrefl _ (Nat.lt_of_succ_lt this)
    have q := h h' tk old
    have hv : v = if b.cps.toList < a.cps.toList then Value.str b u else Value.str a t := by
      have hP' : (#[Value.str a t, Value.str b u] : Array Value)[argBest (fun i j => decide ((if i = 0 then a else b).cps.toList < (if j = 0 then a else b).cps.toList)) 1]? = some v := hP
      by_cases hba : b.cps.toList < a.cps.toList
      · have e : argBest (fun i j => decide ((if i = 0 then a else b).cps.toList < (if j = 0 then a else b).cps.toList)) 1 = 1 := by simp [argBest, hba]
        rw [e] at hP'
        rw [if_pos hba]
        exact (Option.some.inj hP').symm
      · have e : argBest (fun i j => decide ((if i = 0 then a else b).cps.toList < (if j = 0 then a else b).cps.toList)) 1 = 0 := by simp [argBest, hba]
        rw [e] at hP'
        rw [if_neg hba]
        exact (Option.some.inj hP').symm
    rw [hv]
    exact q
end
section
variable {C : Ctx} {X : Cx} {pos : Pos}
def minS (a b : Str) : Str := if b.cps.toList < a.cps.toList then b else a
def oMnS : O2 := fun x y q => match x, y with
  | .str a, .str b => q (.str (minS a b))
  | _, _ => False
def rMnS : R2 := fun x y H Q => ∃ a b, x = .str a ∧ y = .str b ∧ Q (.str (minS a b)) H
theorem b_minS (hc : X.calm = true := by rfl) : CallR X (.builtin "min") (fun xs H Q => ∃ v w, xs = [v, w] ∧ rMnS v w H Q) := fun pins s σ H xs us Q I r ⟨v, w, e, a, b, e1, e2, q⟩ => by
  subst e e1 e2
  obtain ⟨u1, u2, rfl, ⟨t1, rfl⟩, ⟨t2, rfl⟩⟩ := vals2 r
  refine min_strs (I.ok.hd hc) fun h' tk k => ⟨_, H, I.kept k, ?_, q⟩
  unfold minS
  split
  · exact ⟨_, rfl⟩
  · exact ⟨_, rfl⟩
theorem m_minS : Meets C oMnS rMnS := fun Z H v w x y q Q rx ry h k => by
  unfold oMnS at h
  split at h
  · cases rx; cases ry
    exact ⟨_, _, rfl, rfl, k _ _ (.str _) h⟩
  · cases h
/-! ### f(e, ..), f a name that holds a def -/
structure HeldX (X : Cx) (k n : Nat) (f : Addr) (sx : SpX) : Prop where
  ex : ∃ (fd : FuncData) (prs : List Str), FnOk X.prog X.w X.K X.mg X.base (L2.CX X.prog X.w) k f fd prs (spX X.K n sx) ∧ PySem.W.keepIn X.K (.ref f) = true ∧ Binds X.K fd prs []
def tCallP (i : Nat) (S : Addr → Option SpX) (Wd : WdX) (ta : TAm) : TD := fun E Q => ∃ f sx, E[i]? = some (.fr (.kon f)) ∧ S f = some sx ∧ tCallXD sx Wd ta E Q
theorem de_callP (i : Nat) {k : Nat} {x : Str} {p : Pos} {e : Expr} {es : List Expr} {ta : TAm} {Wd : WdX} {S : Addr → Option SpX} (HS : ∀ f sx, S f = some sx → HeldX X k (e :: es).length f sx) (tk : Takes X (wxOf C Wd)) (hr : Room k X.A) (ha : DM C X (e :: es) ta) (hN : X.N[i]? = some x := by rfl)
    (hv : Vis X.env.scope x := by first | exact Or.inl rfl | exact Or.inr (Or.inl rfl) | exact Or.inr (Or.inr rfl)) (hdb : (x == ("__debug__" : Str)) = false := by decide) (hcd : (x == ("__classdict__" : Str)) = false := by decide) (hK : X.K = C.K := by rfl)
    (he : starEach (e :: es) X.env = (false, eval e X.env) :: starEach es X.env := by rfl) (hpl : (backTo pos (starEach es X.env)).any (·.1) = false := by rfl) : DE C X (.Call (.Name x p) (e :: es) [] pos) (tCallP i S Wd ta) := by
  refine ⟨fun pins s σ H Q I ⟨ps, Ep, E, Z, Qd, w, ⟨f, sx, ef, hS, h⟩, post⟩ => ?_⟩
  obtain ⟨fd, prs, F, hk, hb⟩ := (HS f sx hS).ex
  obtain ⟨v, ev, rv⟩ := w.get ef
  cases rv
  refine wpAny_Call_Name_kw (thn ((pe_var (pos := p) hN hv hdb hcd).run pins s σ H (fun v H1 => v = .ref f ∧ H1 = H) I ⟨.ref f, ev, rfl, rfl⟩) fun u s1 ⟨v, H1, I1, r1, q1⟩ => ?_)
  obtain ⟨rfl, rfl⟩ := q1
  cases r1
  have q := callX_imp (n := (e :: es).length) (sx := sx) (Wd := Wd) (Q := Q) (Qr := fun r E' => match r with | .fr d => Qd d E' | _ => False) w h fun r E' Z' H' v R st q => by
    cases r with
    | fr d => exact post d E' Z' H' v R.1 st R.2 q
    | un => cases q
    | ow t => cases q
    | mu t => cases q
  refine PySem.W.callWith_K (h₀ := X.base) I.ok.mod.kin hk (thn (ha.run pos pins s1 σ _ _ I1 q) fun us s2 ⟨vs, H2, I2, r, q⟩ => ⟨I2.kIn, ?_⟩) he hpl
  exact run_fnSD (dvs := []) (ds := []) (E := WE (wxOf C Wd)) F hr hb .nil (passAt tk σ) I2 r (by rw [hK]; exact q)
end
end DL
namespace DL
open PySem PySem.Spec PyProof.Rows L2
/-- a module's int -/
theorem de_cst {C : Ctx} {X : Cx} {x : Str} {i : Int} {pos : Pos} (h : ∃ t, X.mg x = some (.int i t)) (hg : Gl X x := by rfl) (hd : (x == ("__debug__" : Str)) = false := by decide) : DE C X (.Name x pos) (tc (.int i)) :=
  let ⟨t, h⟩ := h
  de_glob hg h (v := .int i) ⟨t, rfl⟩ (fun _ _ => .int i) hd
end DL
set_option maxRecDepth 100000
namespace DL
open PySem PySem.Spec PyProof.Rows L2
section
variable {C : Ctx} {X : Cx} {pos : Pos}
/-- a, b = x, y with plain names -/
def dPar (i j : Nat) (t : TL) : TSD := fun D E => t E fun ds E1 => ∃ a b, ds = [a, b] ∧ S.free E1[i]? = true ∧ S.free E1[j]? = true ∧ D.nx ((E1.set i (.fr a)).set j (.fr b))
theorem ds_par (i j : Nat) {x y : Str} {a b : Expr} {t : TL} {px py pt : Pos} {kt k2 pt2} (hN : X.N.Nodup) (ha : DA C X [a, b] t) (hij : i ≠ j := by decide) (hi : X.N[i]? = some x := by rfl) (hj : X.N[j]? = some y := by rfl)
    (hx : X.env.scope.names.lookup x = some .local := by rfl) (hy : X.env.scope.names.lookup y = some .local := by rfl) (hc : X.calm = true := by rfl)
    (hw : swappedStores [.Tuple [.Name x px, .Name y py] kt pt] (.Tuple [a, b] k2 pt2) X.env = pure (some [x, y]) := by rfl)
    (hs : swapsWithSole [.Tuple [.Name x px, .Name y py] kt pt] (.Tuple [a, b] k2 pt2) pos.line X.env = pure false := by rfl) :
    DS C X (.Assign [.Tuple [.Name x px, .Name y py] kt pt] (.Tuple [a, b] k2 pt2) pos) (dPar i j t) := (ps_par hc hN hi hj hij hx hy ha hw hs).imp fun Dn σ H ⟨ps, Ep, E, Z, Dd, w, h, f⟩ =>
  ⟨ps, Ep, E, Z, _, w, h, fun ds E1 Z1 H1 vs w1 st1 r1 n ⟨d1, d2, e, f1, f2, q⟩ => by
    subst e
    cases r1 with
    | cons p r1 =>
      cases r1 with
      | cons p' r1 =>
        cases r1
        refine ⟨_, _, rfl, ?_⟩
        obtain ⟨l1, m1⟩ := free_lt f1
        obtain ⟨l2, m2⟩ := free_lt f2
        refine f.nx _ _ Z1 H1 ((w1.setD p l1 m1).setD p' (by rw [List.length_set]; exact l2) (by rw [List.getElem?_set_ne hij]; exact m2)) st1 q⟩
end
end DL
set_option Elab.async false
set_option linter.all false
set_option maxRecDepth 100000
set_option maxHeartbeats 4000000
namespace K29
open PySem PySem.Spec PyProof.Rows L2 DL

inductive Eff where
  | pay | ship | tell
  deriving DecidableEq
def Eff.str : Eff → Str
  | .pay => "pay"
  | .ship => "ship"
  | .tell => "tell"
abbrev Ky := List Int × Int
structure Cl where
  k : Ky
  e : Eff
  as : List Int
  deriving DecidableEq
def ky (k : Ky) : D := .tup [.tup (k.1.map D.int), .int k.2]
def cl (c : Cl) : D := .tup [ky c.k, .str c.e.str, .tup (c.as.map D.int)]

theorem eqvAll_ints : ∀ ns ms : List Int, PyData.eqvAll (D.pys (ns.map D.int)) (D.pys (ms.map D.int)) = decide (ns = ms)
  | [], [] => rfl
  | [], _ :: _ => rfl
  | _ :: _, [] => rfl
  | n :: ns, m :: ms => by
    show ((n == m) && PyData.eqvAll (D.pys (ns.map D.int)) (D.pys (ms.map D.int))) = _
    rw [eqvAll_ints ns ms]
    by_cases h : n = m
    · subst h; simp
    · simp [h]
theorem str_inj : ∀ {e f : Eff}, (e.str == f.str) = decide (e = f) := by
  intro e f
  cases e <;> cases f <;> decide +kernel
theorem eqv_ky (a b : Ky) : (ky a).eqv (ky b) = decide (a = b) := by
  show (PyData.eqvAll (D.pys (a.1.map D.int)) (D.pys (b.1.map D.int)) && ((a.2 == b.2) && true)) = _
  rw [eqvAll_ints]
  obtain ⟨a1, a2⟩ := a
  obtain ⟨b1, b2⟩ := b
  by_cases h1 : a1 = b1 <;> by_cases h2 : a2 = b2 <;> simp [h1, h2]
theorem eqv_cl (a b : Cl) : (cl a).eqv (cl b) = decide (a = b) := by
  have e : (cl a).eqv (cl b) = ((ky a.k).eqv (ky b.k) && ((a.e.str == b.e.str) && (PyData.eqvAll (D.pys (a.as.map D.int)) (D.pys (b.as.map D.int)) && true))) := rfl
  rw [e, eqv_ky, str_inj, eqvAll_ints]
  obtain ⟨a1, a2, a3⟩ := a
  obtain ⟨b1, b2, b3⟩ := b
  by_cases h1 : a1 = b1 <;> by_cases h2 : a2 = b2 <;> by_cases h3 : a3 = b3 <;> simp [h1, h2, h3]
theorem lay_ints : ∀ ns : List Int, PyData.canLayAll0 (D.pys (ns.map D.int)) = true
  | [] => rfl
  | n :: ns => lay_ints ns
theorem dep_ints : ∀ ns : List Int, PyData.depthAll (D.pys (ns.map D.int)) = 0
  | [] => rfl
  | n :: ns => by
    show max 0 (PyData.depthAll (D.pys (ns.map D.int))) = 0
    rw [dep_ints ns]; rfl
theorem lay_ky (k : Ky) : (ky k).py.canLay0 = true := by
  show (PyData.canLayAll0 (D.pys (k.1.map D.int)) && (true && true)) = true
  rw [lay_ints]; rfl
theorem dep_ky (k : Ky) : (ky k).py.depth = 2 := by
  show max (PyData.depthAll (D.pys (k.1.map D.int)) + 1) (max 0 0) + 1 = 2
  rw [dep_ints]; rfl
theorem lay_cl (c : Cl) : (cl c).py.canLay0 = true := by
  have e : (cl c).py.canLay0 = ((ky c.k).py.canLay0 && (PyData.strOk c.e.str && (PyData.canLayAll0 (D.pys (c.as.map D.int)) && true))) := rfl
  rw [e, lay_ky, lay_ints]
  cases c.e <;> decide +kernel
theorem dep_cl (c : Cl) : (cl c).py.depth = 3 := by
  have e : (cl c).py.depth = max (ky c.k).py.depth (max 0 (max (PyData.depthAll (D.pys (c.as.map D.int)) + 1) 0)) + 1 := rfl
  rw [e, dep_ky, dep_ints]; rfl
theorem shp_of {d : D} (h1 : d.py.canLay0 = true) (h2 : d.py.depth ≤ 64) : d.shp = true := Bool.and_eq_true_iff.mpr ⟨h1, decide_eq_true h2⟩
theorem shp_ky (k : Ky) : (ky k).shp = true := shp_of (lay_ky k) (by rw [dep_ky]; decide)
theorem shp_cl (c : Cl) : (cl c).shp = true := shp_of (lay_cl c) (by rw [dep_cl]; decide)
theorem lay_list {α : Type} (f : α → D) (h : ∀ a, (f a).py.canLay0 = true) : ∀ l : List α, PyData.canLayAll0 (D.pys (l.map f)) = true
  | [] => rfl
  | a :: l => Bool.and_eq_true_iff.mpr ⟨h a, lay_list f h l⟩
theorem dep_list {α : Type} (f : α → D) {n : Nat} (h : ∀ a, (f a).py.depth ≤ n) : ∀ l : List α, PyData.depthAll (D.pys (l.map f)) ≤ n
  | [] => Nat.zero_le _
  | a :: l => Nat.max_le.mpr ⟨h a, dep_list f h l⟩
theorem shp_list {α : Type} (f : α → D) (h1 : ∀ a, (f a).py.canLay0 = true) (h2 : ∀ a, (f a).py.depth ≤ 60) (l : List α) : (D.lst (l.map f)).shp = true :=
  shp_of (lay_list f h1 l) (Nat.le_trans (Nat.succ_le_succ (dep_list f h2 l)) (by decide))
theorem shp_kys (l : List Ky) : (D.lst (l.map ky)).shp = true := shp_list ky lay_ky (fun k => by rw [dep_ky]; decide) l
theorem shp_cls (l : List Cl) : (D.lst (l.map cl)).shp = true := shp_list cl lay_cl (fun k => by rw [dep_cl]; decide) l
theorem any_kys (l : List Ky) (k : Ky) : ((l.map ky).any fun z => z.eqv (ky k)) = decide (k ∈ l) := by
  rw [List.any_map]
  induction l with
  | nil => simp
  | cons a l ih =>
    rw [List.any_cons, ih]
    show ((ky a).eqv (ky k) || _) = _
    rw [eqv_ky]
    by_cases h : a = k
    · subst h; simp
    · have h' : ¬ k = a := fun e => h e.symm
      simp [h, h']
theorem any_cls (l : List Cl) (k : Cl) : ((l.map cl).any fun z => z.eqv (cl k)) = decide (k ∈ l) := by
  rw [List.any_map]
  induction l with
  | nil => simp
  | cons a l ih =>
    rw [List.any_cons, ih]
    show ((cl a).eqv (cl k) || _) = _
    rw [eqv_cl]
    by_cases h : a = k
    · subst h; simp
    · have h' : ¬ k = a := fun e => h e.symm
      simp [h, h']
theorem map_at {α : Type} {f : α → D} {l : List α} {i : Nat} {d : D} (h : (l.map f)[i]? = some d) : ∃ a, d = f a ∧ l[i]? = some a := by
  rw [List.getElem?_map] at h
  cases e : l[i]? with
  | none => rw [e] at h; cases h
  | some z => rw [e] at h; cases h; exact ⟨z, rfl, rfl⟩

/-! ### the order -/
theorem alike_ints : ∀ ns ms : List Int, PySem.W.alikeAll (D.pys (ns.map D.int)) (D.pys (ms.map D.int)) = true
  | [], _ => by simp [PySem.W.alikeAll, D.pys]
  | _ :: _, [] => rfl
  | n :: ns, m :: ms => alike_ints ns ms
theorem alike_cl (a b : Cl) : PySem.W.alike (cl a).py (cl b).py = true := by
  have e : PySem.W.alike (cl a).py (cl b).py = ((PySem.W.alikeAll (D.pys (a.k.1.map D.int)) (D.pys (b.k.1.map D.int)) && (true && true)) && (true && (PySem.W.alikeAll (D.pys (a.as.map D.int)) (D.pys (b.as.map D.int)) && true))) := rfl
  rw [e, alike_ints, alike_ints]; rfl
theorem sort_ok (l : List Cl) (h : l.length ≤ 1000) : SortOk (l.map cl) where
  al := fun d hd d' hd' => by
    rw [List.map_map] at hd hd'
    obtain ⟨a, _, rfl⟩ := List.mem_map.mp hd
    obtain ⟨b, _, rfl⟩ := List.mem_map.mp hd'
    exact alike_cl a b
  so := .inl fun d hd => by
    rw [List.map_map] at hd
    obtain ⟨a, _, rfl⟩ := List.mem_map.mp hd
    exact ⟨_, _, rfl⟩
  ln := by rw [List.length_map, sizeLine_eq]; omega
  sh := fun d hd => by
    obtain ⟨a, _, rfl⟩ := List.mem_map.mp hd
    exact shp_cl a
def clLe (a b : Cl) : Bool := PySem.W.dataLe false D.py (cl a) (cl b)
theorem sort_map (l : List Cl) : sortD (l.map cl) = (l.mergeSort clLe).map cl := by
  unfold sortD
  exact (PySem.W.sort_maps (r := clLe) (s := PySem.W.dataLe false D.py) cl fun a _ b _ => rfl).symm
theorem eqv_of_toks {x y : PyData} (h : PySem.W.alike x y = true) (e : PySem.W.keyToks x = PySem.W.keyToks y) : PyData.eqv x y = true := by
  cases q : PyData.eqv x y with
  | true => rfl
  | false =>
    have := (PySem.W.toks_eqv x y h).2 q [] [.inl 0]
    rw [e, PySem.W.lex_pre, PyProof.Rows.lex_irrefl] at this
    exact absurd this (by decide)
abbrev LO : KeyOrd := listOrd PyProof.Rows.itemOrd
theorem clLe_total : PySem.W.TotalLe clLe := PySem.W.sortLe_total LO false fun c : Cl => PySem.W.keyToks (cl c).py
theorem clLe_anti (a b : Cl) (h1 : clLe a b = true) (h2 : clLe b a = true) : a = b := by
  have e : PySem.W.keyToks (cl a).py = PySem.W.keyToks (cl b).py := by
    refine LO.total (PySem.W.keyToks (cl a).py) (PySem.W.keyToks (cl b).py) ?_ ?_
    · have : (!_) = true := h2
      simpa using this
    · have : (!_) = true := h1
      simpa using this
  have q := eqv_of_toks (alike_cl a b) e
  have q : (cl a).eqv (cl b) = true := q
  rw [eqv_cl] at q
  exact of_decide_eq_true q
def srt (l : List Cl) : List Cl := l.mergeSort clLe
theorem srt_perm {l m : List Cl} (h : l.Perm m) : srt l = srt m :=
  List.Perm.eq_of_pairwise (le := fun a b => clLe a b = true) (fun a b _ _ => clLe_anti a b) (PySem.W.sort_pairwise clLe_total l) (PySem.W.sort_pairwise clLe_total m)
    ((List.mergeSort_perm l clLe).trans (h.trans (List.mergeSort_perm m clLe).symm))
theorem srt_self (l : List Cl) : (srt l).Perm l := List.mergeSort_perm l clLe
/-! ### the law's mathematics -/
def both (a b : List Cl) : List Cl := a.filter fun c => decide (c ∈ b)
def alone (a b : List Cl) : List Cl := a.filter fun c => !decide (c ∈ b)
theorem both_comm {a b : List Cl} (ha : a.Nodup) (hb : b.Nodup) : (both a b).Perm (both b a) := by
  refine (List.perm_ext_iff_of_nodup (ha.sublist List.filter_sublist) (hb.sublist List.filter_sublist)).mpr fun c => ?_
  show c ∈ a.filter (fun c => decide (c ∈ b)) ↔ c ∈ b.filter (fun c => decide (c ∈ a))
  rw [List.mem_filter, List.mem_filter, decide_eq_true_iff, decide_eq_true_iff]
  exact And.comm
theorem both_self (a : List Cl) : both a a = a := List.filter_eq_self.mpr fun c hc => decide_eq_true hc
theorem alone_self (a : List Cl) : alone a a = [] := List.filter_eq_nil_iff.mpr fun c hc => by simp [hc]
theorem parts (a b : List Cl) : (both a b ++ alone a b).Perm a := by
  have : alone a b = a.filter fun c => !(decide (c ∈ b)) := rfl
  unfold both
  rw [this]
  exact List.filter_append_perm _ a
theorem srt_parts (a b : List Cl) : srt (srt (both a b) ++ srt (alone a b)) = srt a :=
  srt_perm (((srt_self _).append (srt_self _)).trans (parts a b))
/-! ### what the draws give -/
structure KOk (ks : List Ky) : Prop where
  nd : ks.Nodup
  sh : ∀ k ∈ ks, k.1.length ≤ 1 ∨ ∃ j : Nat, k = ([1, (j : Int)], 50 + (j : Int)) ∧ j < ks.length
theorem KOk.nil : KOk [] := ⟨List.nodup_nil, fun k h => by cases h⟩
theorem nodup_snoc {α : Type} {l : List α} {a : α} (h : l.Nodup) (n : a ∉ l) : (l ++ [a]).Nodup := by
  rw [List.nodup_append]
  refine ⟨h, by simp, fun x hx y hy => ?_⟩
  have := List.mem_singleton.mp hy
  subst this
  exact fun e => n (e ▸ hx)
theorem KOk.new {ks : List Ky} (h : KOk ks) {k : Ky} (hk : k.1.length ≤ 1) (n : k ∉ ks) : KOk (ks ++ [k]) := by
  refine ⟨nodup_snoc h.nd n, fun x hx => ?_⟩
  rcases List.mem_append.mp hx with hx | hx
  · rcases h.sh x hx with q | ⟨j, e, q⟩
    · exact .inl q
    · exact .inr ⟨j, e, by rw [List.length_append]; omega⟩
  · have := List.mem_singleton.mp hx
    subst this
    exact .inl hk
theorem KOk.fall {ks : List Ky} (h : KOk ks) : KOk (ks ++ [([1, (ks.length : Int)], 50 + (ks.length : Int))]) := by
  refine ⟨nodup_snoc h.nd fun m => ?_, fun x hx => ?_⟩
  · rcases h.sh _ m with q | ⟨j, e, q⟩
    · simp at q
    · injection e with e1 e2
      injection e1 with _ e1
      injection e1 with e1 _
      omega
  · rcases List.mem_append.mp hx with hx | hx
    · rcases h.sh x hx with q | ⟨j, e, q⟩
      · exact .inl q
      · exact .inr ⟨j, e, by rw [List.length_append]; omega⟩
    · have := List.mem_singleton.mp hx
      subst this
      exact .inr ⟨ks.length, rfl, by rw [List.length_append, List.length_singleton]; omega⟩
def Cl.ok (c : Cl) : Prop := c.e = .pay → ∃ a, c.as = [a]
theorem take_snoc {α : Type} {l : List α} {i : Nat} {a : α} (h : l[i]? = some a) : l.take (i + 1) = l.take i ++ [a] := by
  rw [List.take_add_one, h]; rfl
theorem shp_eff (e : Eff) : (D.str e.str).shp = true := by cases e <;> decide +kernel
theorem shp_int (i : Int) : (D.int i).shp = true := rfl
theorem eqv_int (i j : Int) : (D.int i).eqv (D.int j) = decide (i = j) := by
  show (i == j) = _
  by_cases h : i = j <;> simp [h]
theorem eqv_eff (e f : Eff) : (D.str e.str).eqv (D.str f.str) = decide (e = f) := str_inj
end K29
set_option Elab.async false
set_option linter.all false
set_option maxRecDepth 100000
set_option maxHeartbeats 4000000
namespace K30
open PySem PySem.Spec PyProof.Rows L2 DL
def topS (i : Nat) : Stmt := PySem.Challenge.pw_retroact_k30_prices_of_deeds.main.body.getD i (.Pass ⟨0, 0, 0, 0⟩)
abbrev s_l_mix : Stmt := topS 13
abbrev N_l_mix : List Str := ["_law_number", "_law_k"]
theorem sc_l_mix : FnScope N_l_mix ["_law_number", "_law_k"] (defScope s_l_mix) := ⟨rfl, rfl, rfl, by decide +kernel, rfl, by decide +kernel, by decide +kernel⟩
abbrev s_l_numbers : Stmt := topS 14
abbrev N_l_numbers : List Str := ["_law_script", "_law_count", "_law_row", "_law_base", "_law_cell", "_law_k", "_law_rest"]
theorem sc_l_numbers : FnScope N_l_numbers ["_law_script", "_law_count"] (defScope s_l_numbers) := ⟨rfl, rfl, rfl, by decide +kernel, rfl, by decide +kernel, by decide +kernel⟩
abbrev s_l_take : Stmt := topS 15
abbrev N_l_take : List Str := ["_law_row", "_law_bound"]
theorem sc_l_take : FnScope N_l_take ["_law_row", "_law_bound"] (defScope s_l_take) := ⟨rfl, rfl, rfl, by decide +kernel, rfl, by decide +kernel, by decide +kernel⟩
abbrev s_l_price : Stmt := topS 18
abbrev N_l_price : List Str := ["_law_row", "_law_change_here"]
theorem sc_l_price : FnScope N_l_price ["_law_row"] (defScope s_l_price) := ⟨rfl, rfl, rfl, by decide +kernel, rfl, by decide +kernel, by decide +kernel⟩
abbrev s_l_prices : Stmt := topS 19
abbrev N_l_prices : List Str := ["_law_row"]
theorem sc_l_prices : FnScope N_l_prices ["_law_row"] (defScope s_l_prices) := ⟨rfl, rfl, rfl, by decide +kernel, rfl, by decide +kernel, by decide +kernel⟩
abbrev s_is_price : Stmt := topS 6
abbrev N_is_price : List Str := ["number"]
theorem sc_is_price : FnScope N_is_price ["number"] (defScope s_is_price) := ⟨rfl, rfl, rfl, by decide +kernel, rfl, by decide +kernel, by decide +kernel⟩
abbrev s_Prices_init : Stmt := inClass (topS 7) 0
abbrev N_Prices_init : List Str := ["self", "effects", "name", "undo", "do", "change", "number"]
theorem sc_Prices_init : FnScope N_Prices_init ["self", "effects"] (defScope s_Prices_init) := ⟨rfl, rfl, rfl, by decide +kernel, rfl, by decide +kernel, by decide +kernel⟩
abbrev s_l_call : Stmt := topS 16
abbrev N_l_call : List Str := ["_law_row", "_law_keys", "_law_key", "_law_effect"]
theorem sc_l_call : FnScope N_l_call ["_law_row", "_law_keys"] (defScope s_l_call) := ⟨rfl, rfl, rfl, by decide +kernel, rfl, by decide +kernel, by decide +kernel⟩
abbrev s_l_calls : Stmt := topS 17
abbrev N_l_calls : List Str := ["_law_row", "_law_most", "_law_calls_here", "_law_k", "_law_call_here"]
theorem sc_l_calls : FnScope N_l_calls ["_law_row", "_law_most"] (defScope s_l_calls) := ⟨rfl, rfl, rfl, by decide +kernel, rfl, by decide +kernel, by decide +kernel⟩
abbrev s_l_refused : Stmt := topS 21
abbrev N_l_refused : List Str := ["_law_effects", "error"]
theorem sc_l_refused : FnScope N_l_refused ["_law_effects"] (defScope s_l_refused) := ⟨rfl, rfl, rfl, by decide +kernel, rfl, by decide +kernel, by decide +kernel⟩
abbrev s_l_unknown : Stmt := topS 22
abbrev N_l_unknown : List Str := ["_law_call_here", "_law_first", "_law_second", "error"]
theorem sc_l_unknown : FnScope N_l_unknown ["_law_call_here", "_law_first", "_law_second"] (defScope s_l_unknown) := ⟨rfl, rfl, rfl, by decide +kernel, rfl, by decide +kernel, by decide +kernel⟩
abbrev s_prices_of : Stmt := topS 8
abbrev N_prices_of : List Str := ["prices", "call"]
theorem sc_prices_of : FnScope N_prices_of ["prices", "call"] (defScope s_prices_of) := ⟨rfl, rfl, rfl, by decide +kernel, rfl, by decide +kernel, by decide +kernel⟩
abbrev s_change_cost : Stmt := topS 11
abbrev N_change_cost : List Str := ["prices", "first", "second", "change", "base", "each", "a", "b"]
theorem sc_change_cost : FnScope N_change_cost ["prices", "first", "second"] (defScope s_change_cost) := ⟨rfl, rfl, rfl, by decide +kernel, rfl, by decide +kernel, by decide +kernel⟩
abbrev s_undo_cost : Stmt := topS 9
abbrev N_undo_cost : List Str := ["prices", "call"]
theorem sc_undo_cost : FnScope N_undo_cost ["prices", "call"] (defScope s_undo_cost) := ⟨rfl, rfl, rfl, by decide +kernel, rfl, by decide +kernel, by decide +kernel⟩
abbrev s_do_cost : Stmt := topS 10
abbrev N_do_cost : List Str := ["prices", "call"]
theorem sc_do_cost : FnScope N_do_cost ["prices", "call"] (defScope s_do_cost) := ⟨rfl, rfl, rfl, by decide +kernel, rfl, by decide +kernel, by decide +kernel⟩
abbrev s_l_change : Stmt := topS 20
abbrev N_l_change : List Str := ["_law_prices_here", "_law_first", "_law_second", "_law_base", "_law_total", "_law_k"]
theorem sc_l_change : FnScope N_l_change ["_law_prices_here", "_law_first", "_law_second"] (defScope s_l_change) := ⟨rfl, rfl, rfl, by decide +kernel, rfl, by decide +kernel, by decide +kernel⟩
abbrev s_law : Stmt := topS 23
abbrev N_law : List Str := ["_law_script", "_law_row", "_law_effects", "_law_prices_here", "_law_first", "_law_names", "_law_bad", "_law_k", "_law_wrong", "_law_there", "_law_here", "_law_second"]
theorem sc_law : FnScope N_law ["_law_script"] (defScope s_law) := ⟨rfl, rfl, rfl, by decide +kernel, rfl, by decide +kernel, by decide +kernel⟩
structure Tx (K : Frg) (mg : Str → Option Value) where
  f_l_mix : Addr
  fd_l_mix : FuncData
  d_l_mix : Dn K mg "_law_mix" s_l_mix ["_law_number", "_law_k"] f_l_mix fd_l_mix
  f_l_numbers : Addr
  fd_l_numbers : FuncData
  d_l_numbers : Dn K mg "_law_numbers" s_l_numbers ["_law_script", "_law_count"] f_l_numbers fd_l_numbers
  f_l_take : Addr
  fd_l_take : FuncData
  d_l_take : Dn K mg "_law_take" s_l_take ["_law_row", "_law_bound"] f_l_take fd_l_take
  f_l_price : Addr
  fd_l_price : FuncData
  d_l_price : Dn K mg "_law_price" s_l_price ["_law_row"] f_l_price fd_l_price
  f_l_prices : Addr
  fd_l_prices : FuncData
  d_l_prices : Dn K mg "_law_prices" s_l_prices ["_law_row"] f_l_prices fd_l_prices
  f_is_price : Addr
  fd_is_price : FuncData
  d_is_price : Dn K mg "is_price" s_is_price ["number"] f_is_price fd_is_price
  f_Prices_init : Addr
  fd_Prices_init : FuncData
  F_Prices_init : Fun K "__init__" "Prices.__init__" s_Prices_init f_Prices_init fd_Prices_init
  b_Prices_init : Binds K fd_Prices_init ["self", "effects"] []
  x_Prices : Addr
  c_Prices : Own K mg "Prices" x_Prices f_Prices_init ["effects"]
  f_l_call : Addr
  fd_l_call : FuncData
  d_l_call : Dn K mg "_law_call" s_l_call ["_law_row", "_law_keys"] f_l_call fd_l_call
  f_l_calls : Addr
  fd_l_calls : FuncData
  d_l_calls : Dn K mg "_law_calls" s_l_calls ["_law_row", "_law_most"] f_l_calls fd_l_calls
  f_l_refused : Addr
  fd_l_refused : FuncData
  d_l_refused : Dn K mg "_law_refused" s_l_refused ["_law_effects"] f_l_refused fd_l_refused
  f_l_unknown : Addr
  fd_l_unknown : FuncData
  d_l_unknown : Dn K mg "_law_unknown" s_l_unknown ["_law_call_here", "_law_first", "_law_second"] f_l_unknown fd_l_unknown
  f_prices_of : Addr
  fd_prices_of : FuncData
  d_prices_of : Dn K mg "prices_of" s_prices_of ["prices", "call"] f_prices_of fd_prices_of
  f_change_cost : Addr
  fd_change_cost : FuncData
  d_change_cost : Dn K mg "change_cost" s_change_cost ["prices", "first", "second"] f_change_cost fd_change_cost
  f_undo_cost : Addr
  fd_undo_cost : FuncData
  d_undo_cost : Dn K mg "undo_cost" s_undo_cost ["prices", "call"] f_undo_cost fd_undo_cost
  f_do_cost : Addr
  fd_do_cost : FuncData
  d_do_cost : Dn K mg "do_cost" s_do_cost ["prices", "call"] f_do_cost fd_do_cost
  f_l_change : Addr
  fd_l_change : FuncData
  d_l_change : Dn K mg "_law_change" s_l_change ["_law_prices_here", "_law_first", "_law_second"] f_l_change fd_l_change
  f_law : Addr
  fd_law : FuncData
  d_law : Dn K mg "law" s_law ["_law_script"] f_law fd_law
  x_InvalidPrices : Addr
  xi_InvalidPrices : Addr
  xd_InvalidPrices : FuncData
  c_InvalidPrices : DL.E1 K mg "InvalidPrices" "name" x_InvalidPrices xi_InvalidPrices xd_InvalidPrices "name"
  e_InvalidPrices : PySem.W.exmOne K (.ref x_InvalidPrices) (.ref x_InvalidPrices) = some true
  x_UnknownEffect : Addr
  xi_UnknownEffect : Addr
  xd_UnknownEffect : FuncData
  c_UnknownEffect : DL.E1 K mg "UnknownEffect" "name" x_UnknownEffect xi_UnknownEffect xd_UnknownEffect "name"
  e_UnknownEffect : PySem.W.exmOne K (.ref x_UnknownEffect) (.ref x_UnknownEffect) = some true
  x_RetroactError : Addr
  n_RetroactError : mg "RetroactError" = some (.ref x_RetroactError)
  v_MOST_PRICE : ∃ t, mg "MOST_PRICE" = some (.int 1000000 t)
  m_sorted : mg "sorted" = none
  m_dict : mg "dict" = none
  m_all : mg "all" = none
  m_sum : mg "sum" = none
  m_abs : mg "abs" = none
  m_zip : mg "zip" = none
  m_int : mg "int" = none
  m_range : mg "range" = none
  m_len : mg "len" = none
  m_min : mg "min" = none
variable {P : Program} {w : World} {K : Frg} {mg : Str → Option Value} {base : Heap}
end K30
set_option Elab.async false
set_option linter.all false
set_option maxRecDepth 100000
set_option maxHeartbeats 4000000
namespace K30
open PySem PySem.Spec PyProof.Rows L2 DL K29
variable {P : Program} {w : World} {K : Frg} {mg : Str → Option Value} {base : Heap}

def sd_l_take : SpD := fun args Q => ∃ (ns : List Int) (b : Int), args = [.mu (.lst (ns.map D.int)), .fr (.int b)] ∧ 0 < b ∧ ∀ (k : Int) (ns' : List Int), 0 ≤ k → k < b → ns'.length ≤ ns.length → Q (.fr (.int k)) [.mu (.lst (ns'.map D.int)), .un]
theorem ok_l_take (T : Tx K mg) : FnOk P w K mg base CX0 1 T.f_l_take T.fd_l_take ["_law_row", "_law_bound"] (spD K 2 sd_l_take) := by
  refine fn_D (k := 0) T.d_l_take.F sc_l_take (fun H0 Fm Z0 vs cdv A outer s H Ex hr =>
    have nd := sc_l_take.nd; have u64 := hr.units; have u65 := u65_of hr; have u70 := u70_of hr
    (dss_cons (ds_if (dt_not (dt_b (db_v 0))) (dss_one (ds_ret de_int)) dss_nil)
    (dss_one (ds_ret (de_op o_mod (de_t1 b_int T.m_int (db_e (de_pop 0))) (de_v 1)))))) (fun args Qd hl h => ?_)
  obtain ⟨ns, b, rfl, hb, q⟩ := h
  conv => whnf
  refine br (fun e => ?_) fun e => ?_
  · conv => whnf
    exact ⟨(by decide : 2 ≤ 2), q 0 ns (by omega) hb (Nat.le_refl _)⟩
  · have ne : ns ≠ [] := fun z => by subst z; simp at e
    obtain ⟨init, x, rfl⟩ := snoc_of_ne ne
    conv => whnf
    refine popMuI (init := init) (x := x) rfl ?_
    conv => whnf
    refine ⟨hb, by show 2 ≤ 2; decide, q _ init (Int.emod_nonneg _ (by omega)) (Int.emod_lt_of_pos _ hb) (by simp)⟩

def sd_l_mix : SpD := fun args Q => ∃ (a b : Int), args = [.fr (.int a), .fr (.int b)] ∧ ∀ r : Int, Q (.fr (.int r)) [.un, .un]
theorem ok_l_mix (T : Tx K mg) : FnOk P w K mg base CX0 1 T.f_l_mix T.fd_l_mix ["_law_number", "_law_k"] (spD K 2 sd_l_mix) := by
  refine fn_D (k := 0) T.d_l_mix.F sc_l_mix (fun H0 Fm Z0 vs cdv A outer s H Ex hr =>
    have nd := sc_l_mix.nd; have u64 := hr.units; have u65 := u65_of hr; have u70 := u70_of hr
    (dss_one (ds_ret (de_op o_mod (de_op o_mul (de_op o_mod (de_t1 b_int T.m_int (db_e (de_op o_mul (de_op o_add (de_op o_add (de_op o_mod (de_t1 b_int T.m_int (db_v 0)) de_int) (de_op o_mul de_int (de_v 1))) de_int) de_int))) de_int) de_int) de_int)))) (fun args Qd hl h => ?_)
  obtain ⟨a, b, rfl, q⟩ := h
  conv => whnf
  refine ⟨(by decide : (0 : Int) < 1000003), ?_⟩
  conv => whnf
  refine ⟨.inl (by decide), ?_⟩
  conv => whnf
  refine ⟨.inr (by decide), ?_⟩
  conv => whnf
  refine ⟨(by decide : (0 : Int) < 1000033), ?_⟩
  conv => whnf
  refine ⟨.inr (by decide), ?_⟩
  conv => whnf
  refine ⟨(by decide : (0 : Int) < 998244353), ?_⟩
  exact ⟨(by decide : 2 ≤ 2), q _⟩

theorem free_fr {d : D} : S.free (some (.fr d)) = true := rfl
theorem free_un : S.free (some .un) = true := rfl
theorem int_at {ns : List Int} {i : Nat} {d : D} (h : (ns.map D.int)[i]? = some d) : ∃ z, d = .int z ∧ ns[i]? = some z := by
  rw [List.getElem?_map] at h
  cases e : ns[i]? with
  | none => rw [e] at h; cases h
  | some z => rw [e] at h; cases h; exact ⟨z, rfl, rfl⟩
theorem snoc_int (ms : List Int) (z : Int) : ms.map D.int ++ [D.int z] = (ms ++ [z]).map D.int := by rw [List.map_append]; rfl
def sd_l_numbers : SpD := fun args Q => ∃ (ns : List Int) (c : Int), args = [.fr (.scr (ns.map D.int)), .fr (.int c)] ∧ ns.length ≤ 63 ∧ 0 ≤ c ∧ c ≤ 1000 ∧ ∀ ms : List Int, Q (.ow (.lst (ms.map D.int))) [.un, .un]
theorem ok_l_numbers (T : Tx K mg) : FnOk P w K mg base CX0 2 T.f_l_numbers T.fd_l_numbers ["_law_script", "_law_count"] (spD K 2 sd_l_numbers) := by
  have G_l_mix := ok_l_mix (P := P) (w := w) (base := base) T
  refine fn_D (k := 1) T.d_l_numbers.F sc_l_numbers (fun H0 Fm Z0 vs cdv A outer s H Ex hr =>
    have nd := sc_l_numbers.nd; have u64 := hr.units; have u65 := u65_of hr; have u70 := u70_of hr
    (dss_cons (ds_setn 2 nd (dn_lst da_nil))
    (dss_cons (ds_set 3 nd de_int)
    (dss_cons (ds_for PassesOwn.never (di_seq (de_n (dn_sl (de_v 0) do_n (do_s de_int)))) (dg_n 4 nd) (dss_cons (ds_set 3 nd (de_op o_add (de_v 3) (de_v 4)))
    (dss_one (ds_if (dt_cmp (o_ge) (de_v 4) de_int) (dss_cons (ds_set 6 nd (de_v 4))
    (dss_one (ds_for PassesOwn.never (di_range1 rfl T.m_range de_int) (dg_n 5 nd) (dss_cons (ds_expr (de_append 2 (de_op o_mod (de_t1 b_int T.m_int (db_v 6)) de_int)))
    (dss_cons (ds_set 6 nd (de_op o_fdiv (de_v 6) de_int))
    (dss_one (ds_if (dt_cmp (o_eq u64) (de_v 6) de_int) (dss_one ds_break) dss_nil))))))) (dss_one (ds_expr (de_append 2 (dcall G_l_mix T.d_l_mix (hr.mono (by decide)) (dm_d (dcall G_l_mix T.d_l_mix (hr.mono (by decide)) (dm_d (de_v 4) (dm_d de_int dm_nil))) (dm_d de_int dm_nil))))))))))
    (dss_cons (ds_for PassesOwn.never (di_range1 rfl T.m_range (de_v 1)) (dg_n 5 nd) (dss_one (ds_expr (de_append 2 (dcall G_l_mix T.d_l_mix (hr.mono (by decide)) (dm_d (dcall G_l_mix T.d_l_mix (hr.mono (by decide)) (dm_d (de_op o_add (de_v 3) (de_op o_mul de_int (de_v 5))) (dm_d (de_op o_add de_int (de_v 5)) dm_nil))) (dm_d de_int dm_nil)))))))
    (dss_cons (ds_expr (de_reverse 2))
    (dss_one (ds_retv 2)))))))) (fun args Qd hl h => ?_)
  obtain ⟨ns, c, rfl, hn, h0, h1, q⟩ := h
  obtain ⟨cs, ec, hc⟩ := cut_ints ns none (some 63)
  conv => whnf
  refine ⟨rfl, ?_⟩
  conv => whnf
  refine ⟨rfl, ?_⟩
  conv => whnf
  rw [ec]
  refine ⟨fun i E => ∃ (ms : List Int) (b : Int) (x4 x5 x6 : S), E = [.fr (.scr (ns.map D.int)), .fr (.int c), .ow (.lst (ms.map D.int)), .fr (.int b), x4, x5, x6] ∧ (S.free (some x4) = true ∧ S.free (some x5) = true ∧ S.free (some x6) = true) ∧ ms.length ≤ 60 * i,
    ⟨[], 0, .un, .un, .un, rfl, ⟨rfl, rfl, rfl⟩, Nat.zero_le _⟩, fun i d E' hd hi => ?_, fun E' hi => ?_⟩
  · obtain ⟨z, rfl, hz⟩ := int_at hd
    obtain ⟨ms, b, x4, x5, x6, rfl, ⟨f4, f5, f6⟩, hl⟩ := hi
    have i63 : i < 63 := by have := (List.getElem?_eq_some_iff.mp hz).1; omega
    refine ⟨f4, ?_⟩
    conv => whnf
    refine ⟨rfl, ?_⟩
    conv => whnf
    refine br (fun _ => ?_) fun _ => ?_
    · conv => whnf
      refine ⟨f6, ?_⟩
      conv => whnf
      refine ⟨⟨by decide, by decide, by decide, by decide⟩, ?_⟩
      conv => whnf
      refine ⟨fun j E => ∃ (ms : List Int) (x5 : S) (r : Int), E = [.fr (.scr (ns.map D.int)), .fr (.int c), .ow (.lst (ms.map D.int)), .fr (.int (b + z)), .fr (.int z), x5, .fr (.int r)] ∧ S.free (some x5) = true ∧ ms.length ≤ 60 * i + j,
        ⟨ms, x5, z, rfl, f5, hl⟩, fun j d E' hd hj => ?_, fun E' hj => ?_⟩
      · obtain ⟨j60, rfl⟩ := rng_get hd
        obtain ⟨ms, x5, r, rfl, f5, hl⟩ := hj
        have j60 : j < 60 := j60
        refine ⟨f5, ?_⟩
        conv => whnf
        refine ⟨(by decide : (0 : Int) < 840), ?_⟩
        conv => whnf
        refine ⟨by rw [List.length_map, sizeLine_eq]; omega, ?_⟩
        rw [snoc_int]
        conv => whnf
        refine ⟨⟨by decide, by decide⟩, ?_⟩
        conv => whnf
        refine ⟨rfl, ?_⟩
        conv => whnf
        refine ⟨⟨rfl, rfl⟩, ?_⟩
        conv => whnf
        refine br (fun _ => ?_) fun _ => ?_
        · exact ⟨_, _, _, _, _, rfl, ⟨rfl, rfl, rfl⟩, by rw [List.length_append, List.length_singleton]; omega⟩
        · exact ⟨_, _, _, rfl, rfl, by rw [List.length_append, List.length_singleton]; omega⟩
      · obtain ⟨ms, x5, r, rfl, f5, hl⟩ := hj
        have hl : ms.length ≤ 60 * i + 60 := hl
        exact ⟨ms, _, _, _, _, rfl, ⟨rfl, f5, rfl⟩, by omega⟩
    · conv => whnf
      refine ⟨rfl, z, 3, rfl, fun r => ?_⟩
      conv => whnf
      refine ⟨rfl, r, 5, rfl, fun r2 => ?_⟩
      conv => whnf
      refine ⟨by rw [List.length_map, sizeLine_eq]; omega, ?_⟩
      rw [snoc_int]
      exact ⟨_, _, _, _, _, rfl, ⟨rfl, f5, f6⟩, by rw [List.length_append, List.length_singleton]; omega⟩
  · obtain ⟨ms, b, x4, x5, x6, rfl, ⟨f4, f5, f6⟩, hl⟩ := hi
    have hl : ms.length ≤ 60 * 63 := by rw [List.length_map] at hl; omega
    conv => whnf
    refine ⟨⟨by decide, by decide, by omega, by omega⟩, ?_⟩
    conv => whnf
    refine ⟨fun j E => ∃ (ms : List Int) (x4 x5 x6 : S), E = [.fr (.scr (ns.map D.int)), .fr (.int c), .ow (.lst (ms.map D.int)), .fr (.int b), x4, x5, x6] ∧ (S.free (some x4) = true ∧ S.free (some x5) = true ∧ S.free (some x6) = true) ∧ ms.length ≤ 60 * 63 + j,
      ⟨ms, _, _, _, rfl, ⟨f4, f5, f6⟩, hl⟩, fun j d E' hd hj => ?_, fun E' hj => ?_⟩
    · obtain ⟨jc, rfl⟩ := rng_get hd
      obtain ⟨ms, x4, x5, x6, rfl, ⟨f4, f5, f6⟩, hl⟩ := hj
      refine ⟨f5, ?_⟩
      conv => whnf
      refine ⟨.inl (by decide), ?_⟩
      conv => whnf
      refine ⟨rfl, _, _, rfl, fun r => ?_⟩
      conv => whnf
      refine ⟨rfl, r, 17, rfl, fun r2 => ?_⟩
      conv => whnf
      refine ⟨by rw [List.length_map, sizeLine_eq]; omega, ?_⟩
      rw [snoc_int]
      exact ⟨_, _, _, _, rfl, ⟨f4, rfl, f6⟩, by rw [List.length_append, List.length_singleton]; omega⟩
    · obtain ⟨ms, x4, x5, x6, rfl, _, hl⟩ := hj
      exact ⟨(by decide : 2 ≤ 7), by
        have e : ∀ l : List Int, (l.map D.int).reverse = l.reverse.map D.int := fun l => by rw [List.map_reverse]
        rw [e]
        exact q _⟩
end K30
set_option Elab.async false
set_option linter.all false
set_option maxRecDepth 100000
set_option maxHeartbeats 4000000
namespace K30
open PySem PySem.Spec PyProof.Rows L2 DL K29
variable {P : Program} {w : World} {K : Frg} {mg : Str → Option Value} {base : Heap}

def Eff.ar : Eff → Nat
  | .pay => 1
  | .ship => 2
  | .tell => 0
def okA (c : Cl) : Prop := c.as.length = Eff.ar c.e
def sd_l_call : SpD := fun args Q => ∃ (ns : List Int) (ks : List Ky), args = [.mu (.lst (ns.map D.int)), .fr (.lst (ks.map ky))] ∧ KOk ks ∧ ks.length ≤ 1000 ∧ ∀ (c : Cl) (ns' : List Int), okA c → KOk (ks ++ [c.k]) → Q (.fr (cl c)) [.mu (.lst (ns'.map D.int)), .un]
theorem ok_l_call (T : Tx K mg) : FnOk P w K mg base CX0 2 T.f_l_call T.fd_l_call ["_law_row", "_law_keys"] (spD K 2 sd_l_call) := by
  have G_l_take := ok_l_take (P := P) (w := w) (base := base) T
  refine fn_D (k := 1) T.d_l_call.F sc_l_call (fun H0 Fm Z0 vs cdv A outer s H Ex hr =>
    have nd := sc_l_call.nd; have u64 := hr.units; have u65 := u65_of hr; have u70 := u70_of hr
    (dss_cons (ds_set 2 nd (de_tup (da_cons (de_tup da_nil) (da_cons (dcall G_l_take T.d_l_take (hr.mono (by decide)) (dm_m 0 (dm_d de_int dm_nil))) da_nil))))
    (dss_join (ds_if (dt_cmp (o_eq u64) (dcall G_l_take T.d_l_take (hr.mono (by decide)) (dm_m 0 (dm_d de_int dm_nil))) de_int) (dss_one (ds_set 2 nd (de_tup (da_cons (de_tup (da_cons (dcall G_l_take T.d_l_take (hr.mono (by decide)) (dm_m 0 (dm_d de_int dm_nil))) da_nil)) (da_cons (dcall G_l_take T.d_l_take (hr.mono (by decide)) (dm_m 0 (dm_d de_int dm_nil))) da_nil))))) dss_nil)
    (dss_join (ds_if (dt_in u65 (de_v 2) (db_v 1)) (dss_one (ds_set 2 nd (de_tup (da_cons (de_tup (da_cons de_int (da_cons (de_b1 b_len T.m_len (db_v 1)) da_nil))) (da_cons (de_op o_add de_int (de_b1 b_len T.m_len (db_v 1))) da_nil))))) dss_nil)
    (dss_join (ds_set 3 nd (de_ix (de_n (dn_lst (da_cons de_str (da_cons de_str (da_cons de_str da_nil))))) (dcall G_l_take T.d_l_take (hr.mono (by decide)) (dm_m 0 (dm_d de_int dm_nil)))))
    (dss_cons (ds_if (dt_cmp (o_eq u64) (de_v 3) de_str) (dss_one (ds_ret (de_tup (da_cons (de_v 2) (da_cons (de_v 3) (da_cons (de_tup da_nil) da_nil)))))) dss_nil)
    (dss_cons (ds_if (dt_cmp (o_eq u64) (de_v 3) de_str) (dss_one (ds_ret (de_tup (da_cons (de_v 2) (da_cons (de_v 3) (da_cons (de_tup (da_cons (de_op o_sub (dcall G_l_take T.d_l_take (hr.mono (by decide)) (dm_m 0 (dm_d de_int dm_nil))) de_int) da_nil)) da_nil)))))) dss_nil)
    (dss_one (ds_ret (de_tup (da_cons (de_v 2) (da_cons (de_v 3) (da_cons (de_tup (da_cons (dcall G_l_take T.d_l_take (hr.mono (by decide)) (dm_m 0 (dm_d de_int dm_nil))) (da_cons (dcall G_l_take T.d_l_take (hr.mono (by decide)) (dm_m 0 (dm_d de_int dm_nil))) da_nil))) da_nil))))))))))))) (fun args Qd hl h => ?_)
  obtain ⟨ns, ks, rfl, hk, hl2, q⟩ := h
  conv => whnf
  refine ⟨rfl, rfl, _, _, rfl, by decide, fun n1 ns1 _ _ _ => ?_⟩
  conv => whnf
  refine ⟨rfl, ?_⟩
  conv => whnf
  refine ⟨fun E => ∃ (k : Ky) (ns : List Int), E = [.mu (.lst (ns.map D.int)), .fr (.lst (ks.map ky)), .fr (ky k), .un] ∧ k.1.length ≤ 1, ?_, ?_⟩
  · conv => whnf
    refine ⟨rfl, rfl, _, _, rfl, by decide, fun n2 ns2 _ _ _ => ?_⟩
    conv => whnf
    refine ⟨⟨rfl, rfl⟩, ?_⟩
    conv => whnf
    refine br (fun _ => ?_) fun _ => ?_
    · conv => whnf
      refine ⟨rfl, rfl, _, _, rfl, by decide, fun n3 ns3 _ _ _ => ?_⟩
      conv => whnf
      refine ⟨rfl, rfl, _, _, rfl, by decide, fun n4 ns4 _ _ _ => ?_⟩
      conv => whnf
      exact ⟨rfl, ([n3], n4), ns4, rfl, (by decide : 1 ≤ 1)⟩
    · exact ⟨([], n1), ns2, rfl, (by decide : 0 ≤ 1)⟩
  · rintro E ⟨k, ns, rfl, hk1⟩
    refine ⟨fun E => ∃ (k : Ky) (ns : List Int), E = [.mu (.lst (ns.map D.int)), .fr (.lst (ks.map ky)), .fr (ky k), .un] ∧ KOk (ks ++ [k]), ?_, ?_⟩
    · conv => whnf
      refine ⟨⟨shp_ky k, shp_kys ks⟩, ?_⟩
      conv => whnf
      rw [any_kys]
      refine br (fun e => ?_) fun e => ?_
      · conv => whnf
        refine ⟨rfl, ([1, (ks.length : Int)], 50 + (ks.length : Int)), ns, ?_, hk.fall⟩
        rw [List.length_map]
        rfl
      · exact ⟨k, ns, rfl, hk.new hk1 (of_decide_eq_false e)⟩
    · rintro E ⟨k, ns, rfl, hk2⟩
      refine ⟨fun E => ∃ (e : Eff) (ns : List Int), E = [.mu (.lst (ns.map D.int)), .fr (.lst (ks.map ky)), .fr (ky k), .fr (.str e.str)], ?_, ?_⟩
      · conv => whnf
        refine ⟨rfl, rfl, _, _, rfl, by decide, fun n5 ns5 h0 h3 _ => ?_⟩
        have hn : n5 = 0 ∨ n5 = 1 ∨ n5 = 2 := by omega
        rcases hn with rfl | rfl | rfl
        · conv => whnf
          exact ⟨rfl, .pay, ns5, rfl⟩
        · conv => whnf
          exact ⟨rfl, .ship, ns5, rfl⟩
        · conv => whnf
          exact ⟨rfl, .tell, ns5, rfl⟩
      · rintro E ⟨e, ns, rfl⟩
        conv => whnf
        refine ⟨⟨shp_eff e, shp_eff .tell⟩, ?_⟩
        conv => whnf
        rw [show (D.str (Str.ofString "tell")) = D.str Eff.tell.str from rfl, eqv_eff]
        refine br (fun he => ?_) fun he => ?_
        · have he := of_decide_eq_true he
          subst he
          conv => whnf
          exact ⟨(by decide : 2 ≤ 4), q ⟨k, .tell, []⟩ ns rfl hk2⟩
        · conv => whnf
          refine ⟨⟨shp_eff e, shp_eff .pay⟩, ?_⟩
          conv => whnf
          rw [show (D.str (Str.ofString "pay")) = D.str Eff.pay.str from rfl, eqv_eff]
          refine br (fun he => ?_) fun he => ?_
          · have he := of_decide_eq_true he
            subst he
            conv => whnf
            refine ⟨rfl, rfl, _, _, rfl, by decide, fun n6 ns6 _ _ _ => ?_⟩
            conv => whnf
            exact ⟨(by decide : 2 ≤ 4), q ⟨k, .pay, [n6 - 2]⟩ ns6 rfl hk2⟩
          · have he := of_decide_eq_false he
            conv => whnf
            refine ⟨rfl, rfl, _, _, rfl, by decide, fun n6 ns6 _ _ _ => ?_⟩
            conv => whnf
            refine ⟨rfl, rfl, _, _, rfl, by decide, fun n7 ns7 _ _ _ => ?_⟩
            conv => whnf
            exact ⟨(by decide : 2 ≤ 4), q ⟨k, e, [n6, n7]⟩ ns7 (by cases e with | pay => exact absurd rfl he | ship => rfl | tell => simp_all) hk2⟩
end K30
set_option Elab.async false
set_option linter.all false
set_option maxRecDepth 100000
set_option maxHeartbeats 4000000
namespace K30
open PySem PySem.Spec PyProof.Rows L2 DL K29
variable {P : Program} {w : World} {K : Frg} {mg : Str → Option Value} {base : Heap}

def ks (cs : List Cl) : List Ky := cs.map (·.k)
theorem ks_snoc (cs : List Cl) (c : Cl) : ks (cs ++ [c]) = ks cs ++ [c.k] := by unfold ks; rw [List.map_append]; rfl
theorem cl_snoc (cs : List Cl) (c : Cl) : cs.map cl ++ [cl c] = (cs ++ [c]).map cl := by rw [List.map_append]; rfl
theorem ky_snoc (cs : List Cl) (c : Cl) : (ks cs).map ky ++ [ky c.k] = (ks (cs ++ [c])).map ky := by rw [ks_snoc, List.map_append]; rfl
def sd_l_calls : SpD := fun args Q => ∃ (ns : List Int) (m : Int), args = [.mu (.lst (ns.map D.int)), .fr (.int m)] ∧ 0 ≤ m ∧ m ≤ 50 ∧ ∀ (cs : List Cl) (ns' : List Int), (ks cs).Nodup → (∀ c ∈ cs, okA c) → cs.length ≤ 50 → Q (.ow (.lst (cs.map cl))) [.mu (.lst (ns'.map D.int)), .un]
theorem ok_l_calls (T : Tx K mg) : FnOk P w K mg base CX0 3 T.f_l_calls T.fd_l_calls ["_law_row", "_law_most"] (spD K 2 sd_l_calls) := by
  have G_l_take := ok_l_take (P := P) (w := w) (base := base) T
  have G_l_call := ok_l_call (P := P) (w := w) (base := base) T
  refine fn_D (k := 2) T.d_l_calls.F sc_l_calls (fun H0 Fm Z0 vs cdv A outer s H Ex hr =>
    have nd := sc_l_calls.nd; have u64 := hr.units; have u65 := u65_of hr; have u70 := u70_of hr
    (dss_cons (ds_setn 2 nd (dn_lst da_nil))
    (dss_cons (ds_for PassesOwn.never (di_range1 rfl T.m_range (dcall G_l_take T.d_l_take (hr.mono (by decide)) (dm_m 0 (dm_d (de_op o_add (de_v 1) de_int) dm_nil)))) (dg_n 3 nd) (dss_one (ds_expr (de_append 2 (dcall G_l_call T.d_l_call (hr.mono (by decide)) (dm_m 0 (dm_d (de_n (dn_lcB 2 nd (di_b 2) (blkOk_by (own := [("_law_call_here", 4)]) (N := N_l_calls) (sc := defScope s_l_calls) (by decide +kernel)) (fun _ _ _ _ _ => (dg_n 4 nd)) (fun _ _ _ _ _ => dts_nil) (fun _ _ _ _ _ => (de_ixo 4 de_int)))) dm_nil)))))))
    (dss_one (ds_retv 2))))) (fun args Qd hl h => ?_)
  obtain ⟨ns, m, rfl, h0, h1, q⟩ := h
  conv => whnf
  refine ⟨rfl, ?_⟩
  conv => whnf
  refine ⟨rfl, rfl, ns, m + 1, rfl, by omega, fun k ns1 hk0 hk1 _ => ?_⟩
  conv => whnf
  refine ⟨⟨by decide, by decide, by omega, by omega⟩, ?_⟩
  refine ⟨fun i E => ∃ (cs : List Cl) (ns : List Int) (x3 : S), E = [.mu (.lst (ns.map D.int)), .fr (.int m), .ow (.lst (cs.map cl)), x3, .un] ∧ S.free (some x3) = true ∧ KOk (ks cs) ∧ (∀ c ∈ cs, okA c) ∧ cs.length ≤ i,
    ⟨[], ns1, .un, rfl, rfl, KOk.nil, (fun c h => by cases h), Nat.le_refl _⟩, fun i d E' hd hi => ?_, fun E' hi => ?_⟩
  · obtain ⟨ik, rfl⟩ := rng_get hd
    obtain ⟨cs, ns, x3, rfl, f3, hk, hok, hl⟩ := hi
    refine ⟨f3, ?_⟩
    conv => whnf
    refine ⟨rfl, ?_⟩
    conv => whnf
    refine ⟨fun j acc E => E = [.mu (.lst (ns.map D.int)), .fr (.int m), .ow (.lst (cs.map cl)), .fr (.int (0 + (i : Int))), .un] ∧ acc = (ks (cs.take j)).map ky, ⟨rfl, rfl⟩, fun j acc E h => ?_, fun j d acc E hd h => ?_, fun acc E h _ => ?_⟩
    · obtain ⟨rfl, _⟩ := h
      exact ⟨_, rfl, rfl⟩
    · obtain ⟨rfl, rfl⟩ := h
      obtain ⟨c, rfl, hc⟩ := map_at hd
      refine ⟨rfl, ?_⟩
      conv => whnf
      refine br (fun _ => ?_) fun z => nomatch z
      conv => whnf
      refine ⟨rfl, ?_⟩
      conv => whnf
      refine ⟨?_, rfl, ?_⟩
      · rw [List.length_map, sizeLine_eq]
        unfold ks
        rw [List.length_map, List.length_take]
        omega
      · rw [take_snoc hc]
        exact ky_snoc _ c
    · obtain ⟨rfl, rfl⟩ := h
      rw [List.length_map, List.take_length]
      conv => whnf
      refine ⟨rfl, ns, ks cs, rfl, hk, ?_, fun c ns' hc hk' => ?_⟩
      · unfold ks; rw [List.length_map]; omega
      · conv => whnf
        refine ⟨by rw [List.length_map, sizeLine_eq]; omega, ?_⟩
        refine ⟨cs ++ [c], ns', _, by rw [← cl_snoc]; rfl, rfl, by rw [ks_snoc]; exact hk', fun x hx => ?_, by rw [List.length_append, List.length_singleton]; omega⟩
        rcases List.mem_append.mp hx with hx | hx
        · exact hok x hx
        · have := List.mem_singleton.mp hx
          subst this
          exact hc
  · obtain ⟨cs, ns, x3, rfl, f3, hk, hok, hl⟩ := hi
    conv => whnf
    refine ⟨(by decide : 2 ≤ 5), q cs ns hk.nd hok ?_⟩
    rw [rng_len] at hl
    omega
end K30
set_option Elab.async false
set_option linter.all false
set_option maxRecDepth 100000
set_option maxHeartbeats 4000000
namespace K30
open PySem PySem.Spec PyProof.Rows L2 DL K29
variable {P : Program} {w : World} {K : Frg} {mg : Str → Option Value} {base : Heap}

/-! ### prices -/
structure Pr where
  u : Int
  d : Int
  ch : Option (Int × Int)
def chD : Option (Int × Int) → D
  | none => .non
  | some c => .tup [.int c.1, .int c.2]
def prD (p : Pr) : D := .tup [.int p.u, .int p.d, chD p.ch]
def okP (n : Int) : Bool := decide (0 ≤ n) && decide (n ≤ 1000000)
def goodP (p : Pr) : Bool := (okP p.u && okP p.d) && match p.ch with
  | none => true
  | some c => okP c.1 && okP c.2
/-- small numbers, as the law draws them -/
def smallP (p : Pr) : Prop := (0 ≤ p.u ∧ p.u ≤ 8) ∧ (0 ≤ p.d ∧ p.d ≤ 8) ∧ ∀ c, p.ch = some c → (0 ≤ c.1 ∧ c.1 ≤ 3) ∧ (0 ≤ c.2 ∧ c.2 ≤ 2)
theorem small_good {p : Pr} (h : smallP p) : goodP p = true := by
  obtain ⟨h1, h2, h3⟩ := h
  have ok : ∀ n : Int, 0 ≤ n → n ≤ 8 → okP n = true := fun n a b => by
    unfold okP
    rw [decide_eq_true a, decide_eq_true (by omega)]
    rfl
  unfold goodP
  rw [ok _ h1.1 h1.2, ok _ h2.1 h2.2]
  cases e : p.ch with
  | none => rfl
  | some c =>
    obtain ⟨a, b⟩ := h3 c e
    show (okP c.1 && okP c.2) = true
    rw [ok _ a.1 (by omega), ok _ b.1 (by omega)]
    rfl
def sd_is_price : SpD := fun args Q => ∃ n : Int, args = [.fr (.int n)] ∧ Q (.fr (.bl (okP n))) [.un]
theorem ok_is_price (T : Tx K mg) : FnOk P w K mg base CX0 1 T.f_is_price T.fd_is_price ["number"] (spD K 1 sd_is_price) := by
  refine fn_D (k := 0) T.d_is_price.F sc_is_price (fun H0 Fm Z0 vs cdv A outer s H Ex hr =>
    have nd := sc_is_price.nd; have u64 := hr.units; have u65 := u65_of hr; have u70 := u70_of hr
    (dss_one (ds_ret (de_chn (o_le) (o_le) de_int (de_v 0) (de_cst T.v_MOST_PRICE))))) (fun args Qd hl h => ?_)
  obtain ⟨n, rfl, q⟩ := h
  unfold okP at q
  conv => whnf
  refine br (fun h => ?_) fun h => ?_
  · have h' : decide (0 ≤ n) = true := h
    rw [h', Bool.true_and] at q
    conv => whnf
    exact ⟨(by decide : 1 ≤ 1), q⟩
  · have h' : decide (0 ≤ n) = false := h
    rw [h', Bool.false_and] at q
    conv => whnf
    exact ⟨(by decide : 1 ≤ 1), q⟩

def sd_l_price : SpD := fun args Q => ∃ ns : List Int, args = [.mu (.lst (ns.map D.int))] ∧ ∀ (p : Pr) (ns' : List Int), smallP p → Q (.fr (prD p)) [.mu (.lst (ns'.map D.int))]
theorem ok_l_price (T : Tx K mg) : FnOk P w K mg base CX0 2 T.f_l_price T.fd_l_price ["_law_row"] (spD K 1 sd_l_price) := by
  have G_l_take := ok_l_take (P := P) (w := w) (base := base) T
  refine fn_D (k := 1) T.d_l_price.F sc_l_price (fun H0 Fm Z0 vs cdv A outer s H Ex hr =>
    have nd := sc_l_price.nd; have u64 := hr.units; have u65 := u65_of hr; have u70 := u70_of hr
    (dss_cons (ds_set 1 nd de_non)
    (dss_cons (ds_if (dt_cmp (o_gt) (dcall G_l_take T.d_l_take (hr.mono (by decide)) (dm_m 0 (dm_d de_int dm_nil))) de_int) (dss_one (ds_set 1 nd (de_tup (da_cons (dcall G_l_take T.d_l_take (hr.mono (by decide)) (dm_m 0 (dm_d de_int dm_nil))) (da_cons (dcall G_l_take T.d_l_take (hr.mono (by decide)) (dm_m 0 (dm_d de_int dm_nil))) da_nil))))) dss_nil)
    (dss_one (ds_ret (de_tup (da_cons (dcall G_l_take T.d_l_take (hr.mono (by decide)) (dm_m 0 (dm_d de_int dm_nil))) (da_cons (dcall G_l_take T.d_l_take (hr.mono (by decide)) (dm_m 0 (dm_d de_int dm_nil))) (da_cons (de_v 1) da_nil))))))))) (fun args Qd hl h => ?_)
  obtain ⟨ns, rfl, q⟩ := h
  have fin : ∀ (o : Option (Int × Int)) (ms : List Int), (∀ c, o = some c → (0 ≤ c.1 ∧ c.1 ≤ 3) ∧ (0 ≤ c.2 ∧ c.2 ≤ 2)) →
      (tTupD (tlCons (tCallD sd_l_take (tmM 0 (tmD (tc (.int 9)) tmNil))) (tlCons (tCallD sd_l_take (tmM 0 (tmD (tc (.int 9)) tmNil))) (tlCons (tv 1) tlNil)))) [.mu (.lst (ms.map D.int)), .fr (chD o)] fun d E1 => 1 ≤ E1.length ∧ Qd (.fr d) ((E1.take 1).map muO) := by
    intro o ms ho
    conv => whnf
    refine ⟨rfl, rfl, _, _, rfl, by decide, fun n1 ns1 a0 a1 _ => ?_⟩
    conv => whnf
    refine ⟨rfl, rfl, _, _, rfl, by decide, fun n2 ns2 b0 b1 _ => ?_⟩
    conv => whnf
    exact ⟨(by decide : 1 ≤ 2), q ⟨n1, n2, o⟩ ns2 ⟨⟨a0, by show n1 ≤ 8; omega⟩, ⟨b0, by show n2 ≤ 8; omega⟩, ho⟩⟩
  conv => whnf
  refine ⟨rfl, ?_⟩
  conv => whnf
  refine ⟨rfl, rfl, _, _, rfl, by decide, fun n0 ns0 _ _ _ => ?_⟩
  conv => whnf
  refine br (fun _ => ?_) fun _ => ?_
  · conv => whnf
    refine ⟨rfl, rfl, _, _, rfl, by decide, fun n1 ns1 a0 a1 _ => ?_⟩
    conv => whnf
    refine ⟨rfl, rfl, _, _, rfl, by decide, fun n2 ns2 b0 b1 _ => ?_⟩
    conv => whnf
    refine ⟨rfl, ?_⟩
    exact fin (some (n1, n2)) ns2 fun c hc => by cases hc; exact ⟨⟨a0, by show n1 ≤ 3; omega⟩, ⟨b0, by show n2 ≤ 2; omega⟩⟩
  · exact fin none ns0 fun c hc => by cases hc

def ksE : List Key := [.inr "pay", .inr "ship", .inr "tell"]
def dsE (f : Eff → Pr) : List D := [prD (f .pay), prD (f .ship), prD (f .tell)]
def sd_l_prices : SpD := fun args Q => ∃ ns : List Int, args = [.mu (.lst (ns.map D.int))] ∧ ∀ (f : Eff → Pr) (ns' : List Int), (∀ e, smallP (f e)) → Q (.ow (.dic ksE (dsE f))) [.mu (.lst (ns'.map D.int))]
theorem ok_l_prices (T : Tx K mg) : FnOk P w K mg base CX0 3 T.f_l_prices T.fd_l_prices ["_law_row"] (spD K 1 sd_l_prices) := by
  have G_l_price := ok_l_price (P := P) (w := w) (base := base) T
  refine fn_D (k := 2) T.d_l_prices.F sc_l_prices (fun H0 Fm Z0 vs cdv A outer s H Ex hr =>
    have nd := sc_l_prices.nd; have u64 := hr.units; have u65 := u65_of hr; have u70 := u70_of hr
    (dss_one (ds_retn (dn_disp (dps_cons de_str (dcall G_l_price T.d_l_price (hr.mono (by decide)) (dm_m 0 dm_nil)) (dps_cons de_str (dcall G_l_price T.d_l_price (hr.mono (by decide)) (dm_m 0 dm_nil)) (dps_cons de_str (dcall G_l_price T.d_l_price (hr.mono (by decide)) (dm_m 0 dm_nil)) dps_nil))))))) (fun args Qd hl h => ?_)
  obtain ⟨ns, rfl, q⟩ := h
  conv => whnf
  refine ⟨rfl, rfl, _, rfl, fun p1 ns1 s1 => ?_⟩
  conv => whnf
  refine ⟨rfl, rfl, _, rfl, fun p2 ns2 s2 => ?_⟩
  conv => whnf
  refine ⟨rfl, rfl, _, rfl, fun p3 ns3 s3 => ?_⟩
  conv => whnf
  refine ⟨by show 3 ≤ 15; decide, (by decide : 1 ≤ 1), ?_⟩
  exact q (fun e => match e with | .pay => p1 | .ship => p2 | .tell => p3) ns3 fun e => match e with | .pay => s1 | .ship => s2 | .tell => s3
end K30
set_option Elab.async false
set_option linter.all false
set_option maxRecDepth 100000
set_option maxHeartbeats 4000000
namespace K30
open PySem PySem.Spec PyProof.Rows L2 DL K29
variable {P : Program} {w : World} {K : Frg} {mg : Str → Option Value} {base : Heap}

/-! ### Prices: the first bad name in order -/
def firstBad (L : List (Str × Pr)) : Option Str := (L.find? fun x => !goodP x.2).map (·.1)
def kL (L : List (Str × Pr)) : List Key := (L.map (·.1)).map Sum.inr
def dL (L : List (Str × Pr)) : List D := L.map fun x => prD x.2
theorem firstBad_bad {L : List (Str × Pr)} {i : Nat} {n : Str} {p : Pr} (h : L[i]? = some (n, p)) (hb : goodP p = false) : firstBad (L.drop i) = some n := by
  obtain ⟨h1, h2⟩ := List.getElem?_eq_some_iff.mp h
  rw [List.drop_eq_getElem_cons h1, h2]
  unfold firstBad
  rw [List.find?_cons_of_pos (by show (!goodP p) = true; rw [hb]; rfl)]
  rfl
theorem firstBad_good {L : List (Str × Pr)} {i : Nat} {n : Str} {p : Pr} (h : L[i]? = some (n, p)) (hb : goodP p = true) : firstBad (L.drop i) = firstBad (L.drop (i + 1)) := by
  obtain ⟨h1, h2⟩ := List.getElem?_eq_some_iff.mp h
  rw [List.drop_eq_getElem_cons h1, h2]
  unfold firstBad
  rw [List.find?_cons_of_neg (by show ¬ (!goodP p) = true; rw [hb]; exact Bool.false_ne_true)]
theorem getL : ∀ {L : List (Str × Pr)} {i : Nat} {n : Str} {p : Pr}, (L.map (·.1)).Nodup → L[i]? = some (n, p) → getK (kL L) (dL L) (.inr n) = some (prD p)
  | [], i, n, p, _, h => by simp at h
  | x :: L, 0, n, p, _, h => by
    cases h
    show (if (Sum.inr n : Key) = Sum.inr n then some (prD p) else _) = _
    rw [if_pos rfl]
  | x :: L, i + 1, n, p, nd, h => by
    have h : L[i]? = some (n, p) := h
    have nd := List.nodup_cons.mp nd
    have ne : x.1 ≠ n := fun e => nd.1 (show x.1 ∈ L.map (·.1) by rw [e]; exact List.mem_map.mpr ⟨(n, p), List.mem_of_getElem? h, rfl⟩)
    show (if (Sum.inr x.1 : Key) = Sum.inr n then some (prD x.2) else getK (kL L) (dL L) (.inr n)) = _
    rw [if_neg (fun e => ne (Sum.inr.inj e)), getL nd.2 h]
def sd_Prices_init (T : Tx K mg) : SpX := fun args Qd Wd => ∃ (s : S) (L : List (Str × Pr)), args = [.mu (.obj T.x_Prices [] []), s] ∧ (s = .mu (.dic (kL L) (dL L)) ∨ s = .fr (.dic (kL L) (dL L))) ∧ (L.map (·.1)).Nodup ∧ L.length < 64 ∧ (∀ ys : List Str, ys.Perm (L.map (·.1)) → sortedS ys = true → ys = L.map (·.1)) ∧
  (firstBad L = none → Qd (.fr .non) [.mu (.obj T.x_Prices ["effects"] [.fr (.dic (kL L) (dL L))]), muO s]) ∧ (∀ n, firstBad L = some n → Wd ⟨T.x_InvalidPrices, ["name"], [.str n]⟩ [.mu (.obj T.x_Prices [] []), muO s])
theorem ok_Prices_init (T : Tx K mg) : FnOk P w K mg base (L2.CX P w) 3 T.f_Prices_init T.fd_Prices_init ["self", "effects"] (spX K 2 (sd_Prices_init T)) := by
  have G_is_price := ok_is_price (P := P) (w := w) (base := base) T
  refine fn_DX (k := 2) T.F_Prices_init sc_Prices_init (fun H0 Fm Z0 vs cdv A outer s H Ex Wd hr tk hp =>
    have nd := sc_Prices_init.nd; have u64 := hr.units; have u65 := u65_of hr; have u70 := u70_of hr
    (dss_cons (ds_for hp (di_seq (de_n (dn_dsorted T.m_sorted (db_v 1)))) (dg_n 2 nd) (dss_cons (ds_asg (de_dgo 1 u65 (de_v 2)) (dg_tup (n := 3) (dgs_cons (dg_n 3 nd) (dgs_cons (dg_n 4 nd) (dgs_cons (dg_n 5 nd) dgs_nil)))))
    (dss_cons (ds_if (dt_w (dw_or (dt_not (dt_b (db_e (dcall G_is_price T.d_is_price (hr.mono (by decide)) (dm_d (de_v 3) dm_nil))))) (dw_or1 (dt_not (dt_b (db_e (dcall G_is_price T.d_is_price (hr.mono (by decide)) (dm_d (de_v 4) dm_nil)))))))) (dss_one (ds_raise1 T.c_InvalidPrices tk (hr.mono (by decide)) (de_v 2))) dss_nil)
    (dss_one (ds_if (dt_w (dw_and (dt_cmp (o_isnt) (de_v 5) de_non) (dw_and1 (dt_not (dt_b (db_e (de_b1 b_all T.m_all (db_e (de_n (dn_lc nd (di_seq (de_v 5)) (blkOk_by (own := [("number", 6)]) (N := N_Prices_init) (sc := defScope s_Prices_init) (by decide +kernel)) (fun _ _ _ _ _ => (dg_n 6 nd)) (fun _ _ _ _ _ => dts_nil) (fun _ _ _ _ _ => (dcall G_is_price T.d_is_price (hr.mono (by decide)) (dm_d (de_v 6) dm_nil))))))))))))) (dss_one (ds_raise1 T.c_InvalidPrices tk (hr.mono (by decide)) (de_v 2))) dss_nil)))))
    (dss_one (ds_fieldD 0 T.c_Prices.cl (T.c_Prices.no _ (by decide)) (de_n (dn_dcopy T.m_dict (db_v 1))))))) (fun args Qd Wd hl h => ?_)
  obtain ⟨s0, L, rfl, hs, nd, hl64, srt, q, qx⟩ := h
  rcases hs with rfl | rfl
  · conv => whnf
    refine ⟨L.map (·.1), rfl, by rw [List.length_map]; exact hl64, fun ys hp hsr => ?_⟩
    have e := srt ys hp hsr
    subst e
    conv => whnf
    refine ⟨fun i E => ∃ x2 x3 x4 x5 : S, E = [.mu (.obj T.x_Prices [] []), .mu (.dic (kL L) (dL L)), x2, x3, x4, x5, .un] ∧ (S.free (some x2) = true ∧ S.free (some x3) = true ∧ S.free (some x4) = true ∧ S.free (some x5) = true) ∧ firstBad L = firstBad (L.drop i),
      ⟨.un, .un, .un, .un, rfl, ⟨rfl, rfl, rfl, rfl⟩, rfl⟩, fun i d E' hd hi => ?_, fun E' hi => ?_⟩
    · obtain ⟨name, rfl, hn⟩ := map_at hd
      rw [List.getElem?_map] at hn
      obtain ⟨⟨n, p⟩, hz, hnn⟩ := Option.map_eq_some_iff.mp hn
      have hnn : n = name := hnn
      subst hnn
      obtain ⟨x2, x3, x4, x5, rfl, ⟨f2, f3, f4, f5⟩, hb⟩ := hi
      have bad : goodP p = false → (2 ≤ 7 ∧ Wd ⟨T.x_InvalidPrices, ["name"], [.str n]⟩ [.mu (.obj T.x_Prices [] []), muO (.mu (.dic (kL L) (dL L)))]) := fun g => ⟨by decide, qx n (hb.trans (firstBad_bad hz g))⟩
      have good : goodP p = true → firstBad L = firstBad (L.drop (i + 1)) := fun g => hb.trans (firstBad_good hz g)
      refine ⟨f2, ?_⟩
      conv => whnf
      refine ⟨rfl, ?_⟩
      conv => whnf
      rw [getL nd hz]
      conv => whnf
      refine ⟨rfl, ?_⟩
      conv => whnf
      refine ⟨f3, ?_⟩
      conv => whnf
      refine ⟨f4, ?_⟩
      conv => whnf
      refine ⟨f5, ?_⟩
      conv => whnf
      refine ⟨rfl, p.u, rfl, ?_⟩
      conv => whnf
      refine br (fun h1 => ?_) fun h1 => ?_
      · have h1 : okP p.u = false := by simpa using h1
        conv => whnf
        refine brT rfl ?_
        conv => whnf
        exact bad (by unfold goodP; rw [h1]; rfl)
      · have h1 : okP p.u = true := by simpa using h1
        conv => whnf
        refine ⟨rfl, p.d, rfl, ?_⟩
        conv => whnf
        refine br (fun h2 => ?_) fun h2 => ?_
        · have h2 : okP p.d = false := by simpa using h2
          conv => whnf
          exact bad (by unfold goodP; rw [h1, h2]; rfl)
        · have h2 : okP p.d = true := by simpa using h2
          conv => whnf
          cases hch : p.ch with
          | none =>
            refine brF rfl ?_
            conv => whnf
            refine brF rfl ?_
            conv => whnf
            exact ⟨_, _, _, _, rfl, ⟨rfl, rfl, rfl, rfl⟩, good (by unfold goodP; rw [h1, h2, hch]; rfl)⟩
          | some c =>
            refine brT rfl ?_
            conv => whnf
            refine ⟨fun j acc E => E = [.mu (.obj T.x_Prices [] []), .mu (.dic (kL L) (dL L)), .fr (.str n), .fr (.int p.u), .fr (.int p.d), .fr (chD (some c)), .un] ∧ acc = ([okP c.1, okP c.2].take j).map D.bl, ⟨rfl, rfl⟩, fun j d acc E hd h => ?_, fun acc E h _ => ?_⟩
            · obtain ⟨rfl, rfl⟩ := h
              match j, hd with
              | 0, hd =>
                cases hd
                refine ⟨rfl, ?_⟩
                conv => whnf
                refine brT rfl ?_
                conv => whnf
                refine ⟨rfl, c.1, rfl, ?_⟩
                conv => whnf
                exact ⟨by show 0 < sizeLine; decide, rfl, rfl⟩
              | 1, hd =>
                cases hd
                refine ⟨rfl, ?_⟩
                conv => whnf
                refine brT rfl ?_
                conv => whnf
                refine ⟨rfl, c.2, rfl, ?_⟩
                conv => whnf
                exact ⟨by show 1 < sizeLine; decide, rfl, rfl⟩
              | j + 2, hd => simp at hd
            obtain ⟨rfl, rfl⟩ := h
            conv => whnf
            refine ⟨[okP c.1, okP c.2], rfl, ?_⟩
            conv => whnf
            refine br (fun h3 => ?_) fun h3 => ?_
            · have h3 : (okP c.1 && okP c.2) = false := by
                generalize okP c.1 = x at h3 ⊢
                generalize okP c.2 = y at h3 ⊢
                cases x <;> cases y <;> first | rfl | exact absurd h3 (by decide)
              conv => whnf
              exact bad (by unfold goodP; rw [h1, h2, hch]; exact h3)
            · have h3 : (okP c.1 && okP c.2) = true := by simpa using h3
              conv => whnf
              exact ⟨_, _, _, _, rfl, ⟨rfl, rfl, rfl, rfl⟩, good (by unfold goodP; rw [h1, h2, hch]; exact h3)⟩
    · obtain ⟨x2, x3, x4, x5, rfl, _, hb⟩ := hi
      rw [List.length_map, List.length_map, List.drop_length] at hb
      conv => whnf
      refine ⟨rfl, ⟨rfl, by show 0 < 900; decide⟩, (by decide : 2 ≤ 7), ?_⟩
      exact q hb
  · conv => whnf
    refine ⟨L.map (·.1), rfl, by rw [List.length_map]; exact hl64, fun ys hp hsr => ?_⟩
    have e := srt ys hp hsr
    subst e
    conv => whnf
    refine ⟨fun i E => ∃ x2 x3 x4 x5 : S, E = [.mu (.obj T.x_Prices [] []), .fr (.dic (kL L) (dL L)), x2, x3, x4, x5, .un] ∧ (S.free (some x2) = true ∧ S.free (some x3) = true ∧ S.free (some x4) = true ∧ S.free (some x5) = true) ∧ firstBad L = firstBad (L.drop i),
      ⟨.un, .un, .un, .un, rfl, ⟨rfl, rfl, rfl, rfl⟩, rfl⟩, fun i d E' hd hi => ?_, fun E' hi => ?_⟩
    · obtain ⟨name, rfl, hn⟩ := map_at hd
      rw [List.getElem?_map] at hn
      obtain ⟨⟨n, p⟩, hz, hnn⟩ := Option.map_eq_some_iff.mp hn
      have hnn : n = name := hnn
      subst hnn
      obtain ⟨x2, x3, x4, x5, rfl, ⟨f2, f3, f4, f5⟩, hb⟩ := hi
      have bad : goodP p = false → (2 ≤ 7 ∧ Wd ⟨T.x_InvalidPrices, ["name"], [.str n]⟩ [.mu (.obj T.x_Prices [] []), muO (.fr (.dic (kL L) (dL L)))]) := fun g => ⟨by decide, qx n (hb.trans (firstBad_bad hz g))⟩
      have good : goodP p = true → firstBad L = firstBad (L.drop (i + 1)) := fun g => hb.trans (firstBad_good hz g)
      refine ⟨f2, ?_⟩
      conv => whnf
      refine ⟨rfl, ?_⟩
      conv => whnf
      rw [getL nd hz]
      conv => whnf
      refine ⟨rfl, ?_⟩
      conv => whnf
      refine ⟨f3, ?_⟩
      conv => whnf
      refine ⟨f4, ?_⟩
      conv => whnf
      refine ⟨f5, ?_⟩
      conv => whnf
      refine ⟨rfl, p.u, rfl, ?_⟩
      conv => whnf
      refine br (fun h1 => ?_) fun h1 => ?_
      · have h1 : okP p.u = false := by simpa using h1
        conv => whnf
        refine brT rfl ?_
        conv => whnf
        exact bad (by unfold goodP; rw [h1]; rfl)
      · have h1 : okP p.u = true := by simpa using h1
        conv => whnf
        refine ⟨rfl, p.d, rfl, ?_⟩
        conv => whnf
        refine br (fun h2 => ?_) fun h2 => ?_
        · have h2 : okP p.d = false := by simpa using h2
          conv => whnf
          exact bad (by unfold goodP; rw [h1, h2]; rfl)
        · have h2 : okP p.d = true := by simpa using h2
          conv => whnf
          cases hch : p.ch with
          | none =>
            refine brF rfl ?_
            conv => whnf
            refine brF rfl ?_
            conv => whnf
            exact ⟨_, _, _, _, rfl, ⟨rfl, rfl, rfl, rfl⟩, good (by unfold goodP; rw [h1, h2, hch]; rfl)⟩
          | some c =>
            refine brT rfl ?_
            conv => whnf
            refine ⟨fun j acc E => E = [.mu (.obj T.x_Prices [] []), .fr (.dic (kL L) (dL L)), .fr (.str n), .fr (.int p.u), .fr (.int p.d), .fr (chD (some c)), .un] ∧ acc = ([okP c.1, okP c.2].take j).map D.bl, ⟨rfl, rfl⟩, fun j d acc E hd h => ?_, fun acc E h _ => ?_⟩
            · obtain ⟨rfl, rfl⟩ := h
              match j, hd with
              | 0, hd =>
                cases hd
                refine ⟨rfl, ?_⟩
                conv => whnf
                refine brT rfl ?_
                conv => whnf
                refine ⟨rfl, c.1, rfl, ?_⟩
                conv => whnf
                exact ⟨by show 0 < sizeLine; decide, rfl, rfl⟩
              | 1, hd =>
                cases hd
                refine ⟨rfl, ?_⟩
                conv => whnf
                refine brT rfl ?_
                conv => whnf
                refine ⟨rfl, c.2, rfl, ?_⟩
                conv => whnf
                exact ⟨by show 1 < sizeLine; decide, rfl, rfl⟩
              | j + 2, hd => simp at hd
            obtain ⟨rfl, rfl⟩ := h
            conv => whnf
            refine ⟨[okP c.1, okP c.2], rfl, ?_⟩
            conv => whnf
            refine br (fun h3 => ?_) fun h3 => ?_
            · have h3 : (okP c.1 && okP c.2) = false := by
                generalize okP c.1 = x at h3 ⊢
                generalize okP c.2 = y at h3 ⊢
                cases x <;> cases y <;> first | rfl | exact absurd h3 (by decide)
              conv => whnf
              exact bad (by unfold goodP; rw [h1, h2, hch]; exact h3)
            · have h3 : (okP c.1 && okP c.2) = true := by simpa using h3
              conv => whnf
              exact ⟨_, _, _, _, rfl, ⟨rfl, rfl, rfl, rfl⟩, good (by unfold goodP; rw [h1, h2, hch]; exact h3)⟩
    · obtain ⟨x2, x3, x4, x5, rfl, _, hb⟩ := hi
      rw [List.length_map, List.length_map, List.drop_length] at hb
      conv => whnf
      refine ⟨rfl, ⟨rfl, by show 0 < 900; decide⟩, (by decide : 2 ≤ 7), ?_⟩
      exact q hb
end K30
set_option Elab.async false
set_option linter.all false
set_option maxRecDepth 100000
set_option maxHeartbeats 4000000
namespace K30
open PySem PySem.Spec PyProof.Rows L2 DL K29
variable {P : Program} {w : World} {K : Frg} {mg : Str → Option Value} {base : Heap}

def pobj (T : Tx K mg) (ks : List Key) (ds : List D) : D := .obj T.x_Prices ["effects"] [.dic ks ds]
def unk (T : Tx K mg) (c : Cl) : EX := ⟨T.x_UnknownEffect, ["name"], [.str c.e.str]⟩
def sd_prices_of (T : Tx K mg) : SpX := fun args Qd Wd => ∃ (ks : List Key) (ds : List D) (c : Cl), args = [.fr (pobj T ks ds), .fr (cl c)] ∧ (∀ d, getK ks ds (.inr c.e.str) = some d → Qd (.fr d) [.un, .un]) ∧ (getK ks ds (.inr c.e.str) = none → Wd (unk T c) [.un, .un])
theorem ok_prices_of (T : Tx K mg) : FnOk P w K mg base (L2.CX P w) 3 T.f_prices_of T.fd_prices_of ["prices", "call"] (spX K 2 (sd_prices_of T)) := by
  refine fn_DX (k := 2) T.d_prices_of.F sc_prices_of (fun H0 Fm Z0 vs cdv A outer s H Ex Wd hr tk hp =>
    have nd := sc_prices_of.nd; have u64 := hr.units; have u65 := u65_of hr; have u70 := u70_of hr
    (dss_cons (ds_if (dt_dnin u65 (de_ixo 1 de_int) (db_e (de_attr T.c_Prices (de_v 0)))) (dss_one (ds_raise1 T.c_UnknownEffect tk (hr.mono (by decide)) (de_ixo 1 de_int))) dss_nil)
    (dss_one (ds_ret (de_dgf u65 (de_attr T.c_Prices (de_v 0)) (de_ixo 1 de_int)))))) (fun args Qd Wd hl h => ?_)
  obtain ⟨ks, ds, c, rfl, q, qx⟩ := h
  conv => whnf
  refine ⟨rfl, ?_⟩
  conv => whnf
  refine ⟨rfl, ?_⟩
  conv => whnf
  cases hg : getK ks ds (.inr c.e.str) with
  | none =>
    refine brT rfl ?_
    conv => whnf
    refine ⟨rfl, ?_⟩
    conv => whnf
    exact ⟨(by decide : 2 ≤ 2), qx hg⟩
  | some d =>
    refine brF rfl ?_
    conv => whnf
    refine ⟨rfl, ?_⟩
    conv => whnf
    refine ⟨rfl, ?_⟩
    conv => whnf
    rw [hg]
    conv => whnf
    exact ⟨(by decide : 2 ≤ 2), q d hg⟩

def sd_undo_cost (T : Tx K mg) : SpX := fun args Qd Wd => ∃ (ks : List Key) (ds : List D) (c : Cl) (o : Option Pr), args = [.fr (pobj T ks ds), .fr (cl c)] ∧ getK ks ds (.inr c.e.str) = o.map prD ∧ (∀ p, o = some p → Qd (.fr (.int p.u)) [.un, .un]) ∧ (o = none → Wd (unk T c) [.un, .un])
theorem ok_undo_cost (T : Tx K mg) : FnOk P w K mg base (L2.CX P w) 4 T.f_undo_cost T.fd_undo_cost ["prices", "call"] (spX K 2 (sd_undo_cost T)) := by
  have G_prices_of := ok_prices_of (P := P) (w := w) (base := base) T
  refine fn_DX (k := 3) T.d_undo_cost.F sc_undo_cost (fun H0 Fm Z0 vs cdv A outer s H Ex Wd hr tk hp =>
    have nd := sc_undo_cost.nd; have u64 := hr.units; have u65 := u65_of hr; have u70 := u70_of hr
    (dss_one (ds_ret (de_ix (dcallx G_prices_of T.d_prices_of tk (hr.mono (by decide)) (dm_d (de_v 0) (dm_d (de_v 1) dm_nil))) de_int)))) (fun args Qd Wd hl h => ?_)
  obtain ⟨ks, ds, c, o, rfl, hg, q, qx⟩ := h
  conv => whnf
  refine ⟨rfl, ks, ds, c, rfl, fun d hd => ?_, fun hd => ?_⟩
  · cases o with
    | none => rw [hg] at hd; cases hd
    | some p =>
      rw [hg] at hd
      cases hd
      conv => whnf
      exact ⟨(by decide : 2 ≤ 2), q p rfl⟩
  · cases o with
    | none => exact ⟨(by decide : 2 ≤ 2), qx rfl⟩
    | some p => rw [hg] at hd; cases hd

def sd_do_cost (T : Tx K mg) : SpX := fun args Qd Wd => ∃ (ks : List Key) (ds : List D) (c : Cl) (o : Option Pr), args = [.fr (pobj T ks ds), .fr (cl c)] ∧ getK ks ds (.inr c.e.str) = o.map prD ∧ (∀ p, o = some p → Qd (.fr (.int p.d)) [.un, .un]) ∧ (o = none → Wd (unk T c) [.un, .un])
theorem ok_do_cost (T : Tx K mg) : FnOk P w K mg base (L2.CX P w) 4 T.f_do_cost T.fd_do_cost ["prices", "call"] (spX K 2 (sd_do_cost T)) := by
  have G_prices_of := ok_prices_of (P := P) (w := w) (base := base) T
  refine fn_DX (k := 3) T.d_do_cost.F sc_do_cost (fun H0 Fm Z0 vs cdv A outer s H Ex Wd hr tk hp =>
    have nd := sc_do_cost.nd; have u64 := hr.units; have u65 := u65_of hr; have u70 := u70_of hr
    (dss_one (ds_ret (de_ix (dcallx G_prices_of T.d_prices_of tk (hr.mono (by decide)) (dm_d (de_v 0) (dm_d (de_v 1) dm_nil))) de_int)))) (fun args Qd Wd hl h => ?_)
  obtain ⟨ks, ds, c, o, rfl, hg, q, qx⟩ := h
  conv => whnf
  refine ⟨rfl, ks, ds, c, rfl, fun d hd => ?_, fun hd => ?_⟩
  · cases o with
    | none => rw [hg] at hd; cases hd
    | some p =>
      rw [hg] at hd
      cases hd
      conv => whnf
      exact ⟨(by decide : 2 ≤ 2), q p rfl⟩
  · cases o with
    | none => exact ⟨(by decide : 2 ≤ 2), qx rfl⟩
    | some p => rw [hg] at hd; cases hd

def absd (z : Int × Int) : Int := if z.1 - z.2 < 0 then -(z.1 - z.2) else z.1 - z.2
def chg (p : Pr) (c c2 : Cl) : D := if c.e = c2.e then (match p.ch with
  | none => .non
  | some x => .int (x.1 + x.2 * ((c.as.zip c2.as).map absd).sum)) else .non
def sd_change_cost (T : Tx K mg) : SpX := fun args Qd Wd => ∃ (ks : List Key) (ds : List D) (c c2 : Cl) (o : Option Pr), args = [.fr (pobj T ks ds), .fr (cl c), .fr (cl c2)] ∧ getK ks ds (.inr c.e.str) = o.map prD ∧ (∀ p, o = some p → smallP p ∧ (getK ks ds (.inr c2.e.str)).isSome = true) ∧ (c.as.length ≤ 2 ∧ c2.as.length ≤ 2) ∧
  (∀ p, o = some p → Qd (.fr (chg p c c2)) [.un, .un, .un]) ∧ (o = none → Wd (unk T c) [.un, .un, .un])
theorem ok_change_cost (T : Tx K mg) : FnOk P w K mg base (L2.CX P w) 4 T.f_change_cost T.fd_change_cost ["prices", "first", "second"] (spX K 3 (sd_change_cost T)) := by
  have G_prices_of := ok_prices_of (P := P) (w := w) (base := base) T
  refine fn_DX (k := 3) T.d_change_cost.F sc_change_cost (fun H0 Fm Z0 vs cdv A outer s H Ex Wd hr tk hp =>
    have nd := sc_change_cost.nd; have u64 := hr.units; have u65 := u65_of hr; have u70 := u70_of hr
    (dss_cons (ds_set 3 nd (de_ix (dcallx G_prices_of T.d_prices_of tk (hr.mono (by decide)) (dm_d (de_v 0) (dm_d (de_v 1) dm_nil))) de_int))
    (dss_cons (ds_expr (dcallx G_prices_of T.d_prices_of tk (hr.mono (by decide)) (dm_d (de_v 0) (dm_d (de_v 2) dm_nil))))
    (dss_cons (ds_if (dt_w (dw_or (dt_cmp (o_ne u64) (de_ixo 1 de_int) (de_ixo 2 de_int)) (dw_or1 (dt_cmp (o_is) (de_v 3) de_non)))) (dss_one (ds_ret de_non)) dss_nil)
    (dss_cons (ds_asg (de_v 3) (dg_tup (n := 2) (dgs_cons (dg_n 4 nd) (dgs_cons (dg_n 5 nd) dgs_nil))))
    (dss_one (ds_ret (de_op o_add (de_v 4) (de_op o_mul (de_v 5) (de_b1 b_sum T.m_sum (db_e (de_n (dn_lc nd (di_zip T.m_zip (de_ixo 1 de_int) (de_ixo 2 de_int)) (blkOk_by (own := [("a", 6), ("b", 7)]) (N := N_change_cost) (sc := defScope s_change_cost) (by decide +kernel)) (fun _ _ _ _ _ => (dg_tup (n := 2) (dgs_cons (dg_n 6 nd) (dgs_cons (dg_n 7 nd) dgs_nil)))) (fun _ _ _ _ _ => dts_nil) (fun _ _ _ _ _ => (de_b1 b_abs T.m_abs (db_e (de_op o_sub (de_v 6) (de_v 7)))))))))))))))))) (fun args Qd Wd hl h => ?_)
  obtain ⟨ks, ds, c, c2, o, rfl, hg, sm, ⟨la, lb⟩, q, qx⟩ := h
  conv => whnf
  refine ⟨rfl, ks, ds, c, rfl, fun d hd => ?_, fun hd => ?_⟩
  rotate_left
  · cases o with
    | none => exact ⟨(by decide : 3 ≤ 8), qx rfl⟩
    | some p => rw [hg] at hd; cases hd
  cases o with
  | none => rw [hg] at hd; cases hd
  | some p =>
    obtain ⟨⟨_, _, s3⟩, is⟩ := sm p rfl
    have q := q p rfl
    rw [hg] at hd
    cases hd
    conv => whnf
    refine ⟨rfl, ?_⟩
    conv => whnf
    refine ⟨rfl, ks, ds, c2, rfl, fun d2 hd2 => ?_, fun hd2 => by rw [hd2] at is; cases is⟩
    conv => whnf
    refine ⟨rfl, ?_⟩
    conv => whnf
    refine ⟨rfl, ?_⟩
    conv => whnf
    refine ⟨⟨shp_eff c.e, shp_eff c2.e⟩, ?_⟩
    conv => whnf
    rw [eqv_eff]
    refine br (fun he => ?_) fun he => ?_
    · have he : ¬ c.e = c2.e := by simpa using he
      refine brT rfl ?_
      conv => whnf
      refine ⟨(by decide : 3 ≤ 8), ?_⟩
      unfold chg at q
      rw [if_neg he] at q
      exact q
    · have he : c.e = c2.e := by simpa using he
      unfold chg at q
      rw [if_pos he] at q
      conv => whnf
      cases hch : p.ch with
      | none =>
        rw [hch] at q
        refine brT rfl ?_
        conv => whnf
        exact ⟨(by decide : 3 ≤ 8), q⟩
      | some x =>
        rw [hch] at q
        obtain ⟨b1, b2⟩ := s3 x hch
        refine brF rfl ?_
        conv => whnf
        refine ⟨rfl, ?_⟩
        conv => whnf
        refine ⟨rfl, ?_⟩
        conv => whnf
        refine ⟨rfl, ?_⟩
        conv => whnf
        refine ⟨rfl, ?_⟩
        conv => whnf
        refine ⟨rfl, ?_⟩
        conv => whnf
        refine ⟨fun j acc E => E = [.fr (pobj T ks ds), .fr (cl c), .fr (cl c2), .fr (chD (some x)), .fr (.int x.1), .fr (.int x.2), .un, .un] ∧ acc = (((c.as.zip c2.as).take j).map absd).map D.int, ⟨rfl, rfl⟩, fun j d acc E hd h => ?_, fun acc E h _ => ?_⟩
        · obtain ⟨rfl, rfl⟩ := h
          obtain ⟨y, z, ey, ez, rfl⟩ := prs_get hd
          obtain ⟨y, rfl, hy⟩ := map_at ey
          obtain ⟨z, rfl, hz⟩ := map_at ez
          have hyz : (c.as.zip c2.as)[j]? = some (y, z) := List.getElem?_zip_eq_some.mpr ⟨hy, hz⟩
          refine ⟨rfl, ?_⟩
          conv => whnf
          refine ⟨rfl, ?_⟩
          conv => whnf
          refine ⟨rfl, ?_⟩
          conv => whnf
          refine brT rfl ?_
          conv => whnf
          refine ⟨?_, rfl, ?_⟩
          · rw [List.length_map, List.length_map, List.length_take, sizeLine_eq]
            have := (List.getElem?_eq_some_iff.mp hy).1
            omega
          · rw [take_snoc hyz, List.map_append, List.map_append]
            rfl
        obtain ⟨rfl, rfl⟩ := h
        have ll : (prs (c.as.map D.int) (c2.as.map D.int)).length = (c.as.zip c2.as).length := by unfold prs; rw [List.length_map, List.length_zip, List.length_zip, List.length_map, List.length_map]
        rw [show (prs (c.as.map D.int) (c2.as.map D.int)).length = (c.as.zip c2.as).length from ll, List.take_length]
        conv => whnf
        refine ⟨_, rfl, ?_⟩
        conv => whnf
        refine ⟨.inl ⟨by omega, by omega⟩, ?_⟩
        conv => whnf
        exact ⟨(by decide : 3 ≤ 8), q⟩
end K30
set_option Elab.async false
set_option linter.all false
set_option maxRecDepth 100000
set_option maxHeartbeats 4000000
namespace K30
open PySem PySem.Spec PyProof.Rows L2 DL K29
variable {P : Program} {w : World} {K : Frg} {mg : Str → Option Value} {base : Heap}

theorem get_pd (f : Eff → Pr) (e : Eff) : getK ksE (dsE f) (.inr e.str) = some (prD (f e)) := by cases e <;> rfl
theorem as_at {ns : List Int} {i : Nat} {z : Int} (h : ns[i]? = some z) : atI (ns.map D.int) (0 + (i : Int)) = some (.int z) := at_pos (i := i) (by omega) (by rw [List.getElem?_map, h]; rfl)
def sd_l_change : SpD := fun args Q => ∃ (f : Eff → Pr) (c c2 : Cl), args = [.mu (.dic ksE (dsE f)), .fr (cl c), .fr (cl c2)] ∧ okA c ∧ okA c2 ∧ (∀ e, smallP (f e)) ∧ Q (.fr (chg (f c.e) c c2)) [.mu (.dic ksE (dsE f)), .un, .un]
theorem ok_l_change (T : Tx K mg) : FnOk P w K mg base CX0 1 T.f_l_change T.fd_l_change ["_law_prices_here", "_law_first", "_law_second"] (spD K 3 sd_l_change) := by
  refine fn_D (k := 0) T.d_l_change.F sc_l_change (fun H0 Fm Z0 vs cdv A outer s H Ex hr =>
    have nd := sc_l_change.nd; have u64 := hr.units; have u65 := u65_of hr; have u70 := u70_of hr
    (dss_cons (ds_set 3 nd (de_ix (de_dgo 0 u65 (de_ixo 1 de_int)) de_int))
    (dss_cons (ds_if (dt_w (dw_or (dt_cmp (o_ne u64) (de_ixo 1 de_int) (de_ixo 2 de_int)) (dw_or1 (dt_cmp (o_is) (de_v 3) de_non)))) (dss_one (ds_ret de_non)) dss_nil)
    (dss_cons (ds_set 4 nd (de_ixo 3 de_int))
    (dss_cons (ds_for PassesOwn.never (di_range1 rfl T.m_range (de_b1 b_len T.m_len (db_e (de_ixo 1 de_int)))) (dg_n 5 nd) (dss_one (ds_set 4 nd (de_op o_add (de_v 4) (de_op o_mul (de_ixo 3 de_int) (de_b1 b_abs T.m_abs (db_e (de_op o_sub (de_ix (de_ixo 1 de_int) (de_v 5)) (de_ix (de_ixo 2 de_int) (de_v 5))))))))))
    (dss_one (ds_ret (de_v 4)))))))) (fun args Qd hl h => ?_)
  obtain ⟨f, c, c2, rfl, oa, ob, sm, q⟩ := h
  conv => whnf
  refine ⟨rfl, ?_⟩
  conv => whnf
  refine ⟨rfl, ?_⟩
  conv => whnf
  rw [get_pd]
  conv => whnf
  refine ⟨rfl, ?_⟩
  conv => whnf
  refine ⟨rfl, ?_⟩
  conv => whnf
  refine ⟨rfl, ?_⟩
  conv => whnf
  refine ⟨⟨shp_eff c.e, shp_eff c2.e⟩, ?_⟩
  conv => whnf
  rw [eqv_eff]
  refine br (fun he => ?_) fun he => ?_
  · have he : ¬ c.e = c2.e := by simpa using he
    refine brT rfl ?_
    conv => whnf
    refine ⟨(by decide : 3 ≤ 6), ?_⟩
    unfold chg at q
    rw [if_neg he] at q
    exact q
  · have he : c.e = c2.e := by simpa using he
    have ll : c.as.length = c2.as.length := by
      have h1 : c.as.length = Eff.ar c.e := oa
      have h2 : c2.as.length = Eff.ar c2.e := ob
      rw [h1, h2, he]
    have l2 : c.as.length ≤ 2 := by
      have h1 : c.as.length = Eff.ar c.e := oa
      rw [h1]
      cases c.e <;> decide
    unfold chg at q
    rw [if_pos he] at q
    obtain ⟨_, _, s3⟩ := sm c.e
    conv => whnf
    cases hch : (f c.e).ch with
    | none =>
      rw [hch] at q
      refine brT rfl ?_
      conv => whnf
      exact ⟨(by decide : 3 ≤ 6), q⟩
    | some x =>
      rw [hch] at q
      obtain ⟨b1, b2⟩ := s3 x hch
      refine brF rfl ?_
      conv => whnf
      refine ⟨rfl, ?_⟩
      conv => whnf
      refine ⟨rfl, ?_⟩
      conv => whnf
      refine ⟨rfl, ?_⟩
      conv => whnf
      refine ⟨⟨by decide, by decide, by rw [List.length_map]; omega, by rw [List.length_map]; omega⟩, ?_⟩
      conv => whnf
      refine ⟨fun i E => ∃ x5 : S, E = [.mu (.dic ksE (dsE f)), .fr (cl c), .fr (cl c2), .fr (chD (some x)), .fr (.int (x.1 + x.2 * (((c.as.zip c2.as).take i).map absd).sum)), x5] ∧ S.free (some x5) = true, ⟨.un, ?_, rfl⟩, fun i d E' hd hi => ?_, fun E' hi => ?_⟩
      · show _ = [S.mu (.dic ksE (dsE f)), .fr (cl c), .fr (cl c2), .fr (chD (some x)), .fr (.int (x.1 + x.2 * 0)), .un]
        rw [Int.mul_zero, Int.add_zero]
        rfl
      · obtain ⟨hi', rfl⟩ := rng_get hd
        obtain ⟨x5, rfl, f5⟩ := hi
        rw [List.length_map] at hi'
        have hi' : i < c.as.length := by omega
        have hy := List.getElem?_eq_getElem hi'
        have hz := List.getElem?_eq_getElem (show i < c2.as.length by omega)
        generalize c.as[i] = y at hy
        generalize c2.as[i] = z at hz
        have hyz : (c.as.zip c2.as)[i]? = some (y, z) := List.getElem?_zip_eq_some.mpr ⟨hy, hz⟩
        refine ⟨f5, ?_⟩
        conv => whnf
        refine ⟨rfl, ?_⟩
        conv => whnf
        refine ⟨rfl, ?_⟩
        conv => whnf
        rw [as_at hy]
        conv => whnf
        refine ⟨rfl, ?_⟩
        conv => whnf
        rw [as_at hz]
        conv => whnf
        refine ⟨.inl ⟨by omega, by omega⟩, ?_⟩
        conv => whnf
        refine ⟨rfl, ?_⟩
        have e : x.1 + x.2 * (((c.as.zip c2.as).take (i + 1)).map absd).sum = x.1 + x.2 * (((c.as.zip c2.as).take i).map absd).sum + x.2 * absd (y, z) := by
          rw [take_snoc hyz, List.map_append, List.sum_append, Int.mul_add, Int.add_assoc]
          congr 2
          show x.2 * (absd (y, z) + 0) = _
          rw [Int.add_zero]
        refine ⟨?x5, ?eq, ?fr⟩
        case eq => rw [e]; rfl
        case fr => rfl
      · obtain ⟨x5, rfl, _⟩ := hi
        rw [rng_len, List.length_map, List.take_of_length_le (by rw [List.length_zip]; omega)]
        conv => whnf
        exact ⟨(by decide : 3 ≤ 6), q⟩

def sd_l_refused (T : Tx K mg) : SpD := fun args Q => ∃ L : List (Str × Pr), args = [.mu (.dic (kL L) (dL L))] ∧ (L.map (·.1)).Nodup ∧ L.length < 64 ∧ (∀ ys : List Str, ys.Perm (L.map (·.1)) → sortedS ys = true → ys = L.map (·.1)) ∧
  (firstBad L = none → Q (.fr .non) [.mu (.dic (kL L) (dL L))]) ∧ (∀ n, firstBad L = some n → Q (.fr (.str n)) [.mu (.dic (kL L) (dL L))])
theorem ok_l_refused (T : Tx K mg) : FnOk P w K mg base CX0 5 T.f_l_refused T.fd_l_refused ["_law_effects"] (spD K 1 (sd_l_refused T)) := by
  have G_Prices_init := ok_Prices_init (P := P) (w := w) (base := base) T
  refine fn_D (k := 4) T.d_l_refused.F sc_l_refused (fun H0 Fm Z0 vs cdv A outer s H Ex hr =>
    have nd := sc_l_refused.nd; have u64 := hr.units; have u65 := u65_of hr; have u70 := u70_of hr
    (dss_cons (ds_try (K := K) nd takes_no (fun fZ fH Wd pn xe tk hp => (dss_one (ds_expr (de_n (dn_make T.c_Prices G_Prices_init (fun σ => passAt tk σ) T.b_Prices_init (hr.mono (by decide)) (dm_m 0 dm_nil)))))) (.named 1 ⟨by rfl, by decide, .inl T.c_InvalidPrices.m⟩ (fun a oe cls d pn fZ fH ex hz hf xr => (dss_one (ds_ret (de_exf 1 T.c_InvalidPrices.xf T.c_InvalidPrices.no hz hf xr)))) .nil))
    (dss_one (ds_ret de_non)))) (fun args Qd hl h => ?_)
  obtain ⟨L, rfl, nd, hl64, srt, q1, q2⟩ := h
  conv => whnf
  refine ⟨rfl, rfl, _, L, rfl, .inl rfl, nd, hl64, srt, fun hb => ?_, fun n hb => ?_⟩
  · conv => whnf
    exact ⟨(by decide : 1 ≤ 2), q1 hb⟩
  · conv => whnf
    refine ⟨true, T.e_InvalidPrices, fun _ => ⟨rfl, fun a => ?_⟩, fun z => nomatch z⟩
    conv => whnf
    refine ⟨⟨rfl, rfl⟩, ?_⟩
    conv => whnf
    exact ⟨(by decide : 1 ≤ 2), q2 n hb⟩

def S2 (T : Tx K mg) : Addr → Option SpX := fun f => if f = T.f_undo_cost then some (sd_undo_cost T) else if f = T.f_do_cost then some (sd_do_cost T) else none
def S3 (T : Tx K mg) : Addr → Option SpX := fun f => if f = T.f_change_cost then some (sd_change_cost T) else none
def sd_l_unknown (T : Tx K mg) : SpD := fun args Q => ∃ (f : Addr) (c : Cl) (s2 : D), args = [.fr (.kon f), .fr (cl c), .fr s2] ∧ ((s2 = .non ∧ (f = T.f_undo_cost ∨ f = T.f_do_cost)) ∨ (s2 = cl c ∧ f = T.f_change_cost)) ∧ c.as.length ≤ 2 ∧ Q (.fr (.bl true)) [.un, .un, .un]
theorem ok_l_unknown (T : Tx K mg) : FnOk P w K mg base CX0 5 T.f_l_unknown T.fd_l_unknown ["_law_call_here", "_law_first", "_law_second"] (spD K 3 (sd_l_unknown T)) := by
  have HS2 : ∀ f sx, S2 T f = some sx → ∃ (fd : FuncData) (prs : List Str), FnOk P w K mg base (L2.CX P w) 4 f fd prs (spX K 2 sx) ∧ PySem.W.keepIn K (.ref f) = true ∧ Binds K fd prs [] := fun f sx h => by
    unfold S2 at h
    split at h
    · rename_i e; cases h; subst e; exact ⟨_, _, ok_undo_cost T, T.d_undo_cost.F.kp, T.d_undo_cost.b⟩
    · split at h
      · rename_i e; cases h; subst e; exact ⟨_, _, ok_do_cost T, T.d_do_cost.F.kp, T.d_do_cost.b⟩
      · cases h
  have HS3 : ∀ f sx, S3 T f = some sx → ∃ (fd : FuncData) (prs : List Str), FnOk P w K mg base (L2.CX P w) 4 f fd prs (spX K 3 sx) ∧ PySem.W.keepIn K (.ref f) = true ∧ Binds K fd prs [] := fun f sx h => by
    unfold S3 at h
    split at h
    · rename_i e; cases h; subst e; exact ⟨_, _, ok_change_cost T, T.d_change_cost.F.kp, T.d_change_cost.b⟩
    · cases h
  have G_Prices_init := ok_Prices_init (P := P) (w := w) (base := base) T
  refine fn_D (k := 4) T.d_l_unknown.F sc_l_unknown (fun H0 Fm Z0 vs cdv A outer s H Ex hr =>
    have nd := sc_l_unknown.nd; have u64 := hr.units; have u65 := u65_of hr; have u70 := u70_of hr
    (dss_cons (ds_try (K := K) nd takes_no (fun fZ fH Wd pn xe tk hp => (dss_one (ds_if (dt_cmp (o_is) (de_v 2) de_non) (dss_one (ds_expr (de_callP 0 (k := 4) (fun f sx h => ⟨HS2 f sx h⟩) tk (hr.mono (by decide)) (dm_d (de_n (dn_make T.c_Prices G_Prices_init (fun σ => passAt tk σ) T.b_Prices_init (hr.mono (by decide)) (dm_d (de_n dn_dnew) dm_nil))) (dm_d (de_v 1) dm_nil))))) (dss_one (ds_expr (de_callP 0 (k := 4) (fun f sx h => ⟨HS3 f sx h⟩) tk (hr.mono (by decide)) (dm_d (de_n (dn_make T.c_Prices G_Prices_init (fun σ => passAt tk σ) T.b_Prices_init (hr.mono (by decide)) (dm_d (de_n dn_dnew) dm_nil))) (dm_d (de_v 1) (dm_d (de_v 2) dm_nil))))))))) (.named 3 ⟨by rfl, by decide, .inl T.c_UnknownEffect.m⟩ (fun a oe cls d pn fZ fH ex hz hf xr => (dss_one (ds_ret (de_cmp (o_eq (by exact u64)) (de_exf 3 T.c_UnknownEffect.xf T.c_UnknownEffect.no hz hf xr) (de_ixo 1 de_int))))) (.bare ⟨by rfl, by decide, .inl T.n_RetroactError⟩ (fun a oe cls d pn fZ fH ex hz hf xr => (dss_one (ds_ret de_bl))) .nil)))
    (dss_one (ds_ret de_bl)))) (fun args Qd hl h => ?_)
  obtain ⟨f, c, s2, rfl, hs, l2, q⟩ := h
  rcases hs with ⟨rfl, hf⟩ | ⟨rfl, rfl⟩
  · obtain ⟨sx, hS, hsx⟩ : ∃ sx, S2 T f = some sx ∧ (sx = sd_undo_cost T ∨ sx = sd_do_cost T) := by
      unfold S2
      by_cases e : f = T.f_undo_cost
      · rw [if_pos e]; exact ⟨_, rfl, .inl rfl⟩
      · rw [if_neg e, if_pos (hf.resolve_left e)]; exact ⟨_, rfl, .inr rfl⟩
    conv => whnf
    refine brT rfl ?_
    conv => whnf
    refine ⟨f, sx, rfl, hS, ?_⟩
    conv => whnf
    refine ⟨rfl, _, [], rfl, .inr rfl, List.nodup_nil, by decide, fun ys hp _ => List.Perm.eq_nil hp, fun _ => ?_, fun n hn => by cases hn⟩
    conv => whnf
    rcases hsx with rfl | rfl
    · refine ⟨rfl, [], [], c, none, rfl, rfl, (fun p hp => by cases hp), fun _ => ?_⟩
      conv => whnf
      refine ⟨true, T.e_UnknownEffect, fun _ => ⟨rfl, fun a => ?_⟩, fun z => nomatch z⟩
      conv => whnf
      refine ⟨⟨rfl, rfl⟩, ?_⟩
      conv => whnf
      refine ⟨rfl, ?_⟩
      conv => whnf
      refine ⟨⟨shp_eff c.e, shp_eff c.e⟩, ?_⟩
      refine ⟨(by decide : 3 ≤ 4), ?_⟩
      rw [show (D.str c.e.str).eqv (.str c.e.str) = true by rw [eqv_eff, decide_eq_true rfl]]
      exact q
    · refine ⟨rfl, [], [], c, none, rfl, rfl, (fun p hp => by cases hp), fun _ => ?_⟩
      conv => whnf
      refine ⟨true, T.e_UnknownEffect, fun _ => ⟨rfl, fun a => ?_⟩, fun z => nomatch z⟩
      conv => whnf
      refine ⟨⟨rfl, rfl⟩, ?_⟩
      conv => whnf
      refine ⟨rfl, ?_⟩
      conv => whnf
      refine ⟨⟨shp_eff c.e, shp_eff c.e⟩, ?_⟩
      refine ⟨(by decide : 3 ≤ 4), ?_⟩
      rw [show (D.str c.e.str).eqv (.str c.e.str) = true by rw [eqv_eff, decide_eq_true rfl]]
      exact q
  · have hS : S3 T T.f_change_cost = some (sd_change_cost T) := by unfold S3; rw [if_pos rfl]
    conv => whnf
    refine brF rfl ?_
    conv => whnf
    refine ⟨_, _, rfl, hS, ?_⟩
    conv => whnf
    refine ⟨rfl, _, [], rfl, .inr rfl, List.nodup_nil, by decide, fun ys hp _ => List.Perm.eq_nil hp, fun _ => ?_, fun n hn => by cases hn⟩
    conv => whnf
    refine ⟨rfl, [], [], c, c, none, rfl, rfl, (fun p hp => by cases hp), ⟨l2, l2⟩, (fun p hp => by cases hp), fun _ => ?_⟩
    conv => whnf
    refine ⟨true, T.e_UnknownEffect, fun _ => ⟨rfl, fun a => ?_⟩, fun z => nomatch z⟩
    conv => whnf
    refine ⟨⟨rfl, rfl⟩, ?_⟩
    conv => whnf
    refine ⟨rfl, ?_⟩
    conv => whnf
    refine ⟨⟨shp_eff c.e, shp_eff c.e⟩, ?_⟩
    refine ⟨(by decide : 3 ≤ 4), ?_⟩
    rw [show (D.str c.e.str).eqv (.str c.e.str) = true by rw [eqv_eff, decide_eq_true rfl]]
    exact q
end K30
set_option Elab.async false
set_option linter.all false
set_option maxRecDepth 100000
set_option maxHeartbeats 4000000
namespace K30
open PySem PySem.Spec PyProof.Rows L2 DL K29
variable {P : Program} {w : World} {K : Frg} {mg : Str → Option Value} {base : Heap}

def LL (f : Eff → Pr) : List (Str × Pr) := [(Eff.pay.str, f .pay), (Eff.ship.str, f .ship), (Eff.tell.str, f .tell)]
def updE (f : Eff → Pr) (e : Eff) (b : Pr) : Eff → Pr := fun x => if x = e then b else f x
theorem put_pd (f : Eff → Pr) (e : Eff) (b : Pr) : putKs ksE (.inr e.str) = ksE ∧ putKd ksE (dsE f) (.inr e.str) (prD b) = dsE (updE f e b) := by cases e <;> exact ⟨rfl, rfl⟩
theorem fb_none {f : Eff → Pr} (h : ∀ e, goodP (f e) = true) : firstBad (LL f) = none := by
  unfold firstBad LL
  simp [List.find?_cons, h]
theorem fb_first {f : Eff → Pr} (h : goodP (f .pay) = false) : firstBad (LL f) = some Eff.pay.str := by
  unfold firstBad LL
  simp [List.find?_cons, h]
theorem fb_second {f : Eff → Pr} (h1 : goodP (f .pay) = true) (h : goodP (f .ship) = false) : firstBad (LL f) = some Eff.ship.str := by
  unfold firstBad LL
  simp [List.find?_cons, h, h1]
theorem fb_third {f : Eff → Pr} (h1 : goodP (f .pay) = true) (h2 : goodP (f .ship) = true) (h : goodP (f .tell) = false) : firstBad (LL f) = some Eff.tell.str := by
  unfold firstBad LL
  simp [List.find?_cons, h, h1, h2]
theorem nd_LL (f : Eff → Pr) : ((LL f).map (·.1)).Nodup := by
  show [Eff.pay.str, Eff.ship.str, Eff.tell.str].Nodup
  decide +kernel
theorem perm3 (f : Eff → Pr) (ys : List Str) (h : ys.Perm ((LL f).map (·.1))) (s : sortedS ys = true) : ys = (LL f).map (·.1) := by
  have nd : ys.Nodup := h.nodup_iff.mpr (nd_LL f)
  have hl : ys.length = 3 := h.length_eq
  match ys, hl with
  | [a, b, c], _ =>
    have mem : ∀ x ∈ [a, b, c], ∃ e : Eff, x = e.str := fun x hx => by
      have hx : x ∈ [Eff.pay.str, Eff.ship.str, Eff.tell.str] := h.mem_iff.mp hx
      rcases List.mem_cons.mp hx with e | hx
      · exact ⟨.pay, e⟩
      · rcases List.mem_cons.mp hx with e | hx
        · exact ⟨.ship, e⟩
        · exact ⟨.tell, List.mem_singleton.mp hx⟩
    obtain ⟨ea, rfl⟩ := mem a (by simp)
    obtain ⟨eb, rfl⟩ := mem b (by simp)
    obtain ⟨ec, rfl⟩ := mem c (by simp)
    show [ea.str, eb.str, ec.str] = [Eff.pay.str, Eff.ship.str, Eff.tell.str]
    have key : ∀ ea eb ec : Eff, [ea.str, eb.str, ec.str].Nodup → sortedS [ea.str, eb.str, ec.str] = true → ea = .pay ∧ eb = .ship ∧ ec = .tell := by
      intro ea eb ec
      cases ea <;> cases eb <;> cases ec <;> decide +kernel
    obtain ⟨rfl, rfl, rfl⟩ := key ea eb ec nd s
    rfl
theorem shp_chg (p : Pr) (c c2 : Cl) : (chg p c c2).shp = true := by
  unfold chg
  split
  · split <;> rfl
  · rfl
theorem eqv_chg (p : Pr) (c c2 : Cl) : (chg p c c2).eqv (chg p c c2) = true := by
  unfold chg
  split
  · split
    · rfl
    · rw [eqv_int, decide_eq_true rfl]
  · rfl
theorem len_ok {c : Cl} (h : okA c) : c.as.length ≤ 2 := by
  have h1 : c.as.length = Eff.ar c.e := h
  rw [h1]
  cases c.e <;> decide
def effN (k : Int) : Eff := if k = 0 then .pay else if k = 1 then .ship else .tell
theorem at_names {k : Int} (h0 : 0 ≤ k) (h : k < 3) : atI [D.str "pay", .str "ship", .str "tell"] k = some (.str (effN k).str) := by
  have : k = 0 ∨ k = 1 ∨ k = 2 := by omega
  rcases this with rfl | rfl | rfl <;> rfl
def bads : List Pr := [⟨-1, 0, none⟩, ⟨0, 1000001, none⟩, ⟨0, 0, some (-1, 0)⟩, ⟨0, 0, some (0, 1000001)⟩]
theorem at_bads {k : Int} (h0 : 0 ≤ k) (h : k < 4) : ∃ b, atI (bads.map prD) k = some (prD b) ∧ goodP b = false := by
  have : k = 0 ∨ k = 1 ∨ k = 2 ∨ k = 3 := by omega
  rcases this with rfl | rfl | rfl | rfl
  · exact ⟨_, rfl, by decide⟩
  · exact ⟨_, rfl, by decide⟩
  · exact ⟨_, rfl, by decide⟩
  · exact ⟨_, rfl, by decide⟩
theorem fb_upd {f : Eff → Pr} (h : ∀ e, goodP (f e) = true) (e : Eff) {b : Pr} (hb : goodP b = false) : firstBad (LL (updE f e b)) = some e.str := by
  cases e with
  | pay => exact fb_first hb
  | ship => exact fb_second (h _) hb
  | tell => exact fb_third (h _) (h _) hb
theorem fb_two {f : Eff → Pr} (h : ∀ e, goodP (f e) = true) {k : Int} (h0 : 0 ≤ k) (h3 : k < 3) {b : Pr} (hb : goodP b = false) : firstBad (LL (updE (updE f (effN k) b) (effN ((k + 1) % 3)) b)) = some (minS (effN k).str (effN ((k + 1) % 3)).str) := by
  have : k = 0 ∨ k = 1 ∨ k = 2 := by omega
  rcases this with rfl | rfl | rfl
  · rw [show minS (effN 0).str (effN ((0 + 1) % 3)).str = Eff.pay.str by decide +kernel]
    exact fb_first hb
  · rw [show minS (effN 1).str (effN ((1 + 1) % 3)).str = Eff.ship.str by decide +kernel]
    exact fb_second (h _) hb
  · rw [show minS (effN 2).str (effN ((2 + 1) % 3)).str = Eff.pay.str by decide +kernel]
    exact fb_first hb
theorem put_pl (f : Eff → Pr) (e : Eff) (b : Pr) : putKs (kL (LL f)) (.inr e.str) = ksE ∧ putKd (kL (LL f)) (dL (LL f)) (.inr e.str) (prD b) = dsE (updE f e b) := put_pd f e b
theorem min_eff (k : Int) : ∃ e : Eff, minS (effN k).str (effN ((k + 1) % 3)).str = e.str := by
  generalize effN k = a
  generalize effN ((k + 1) % 3) = b
  cases a <;> cases b
  · exact ⟨.pay, by decide +kernel⟩
  · exact ⟨.pay, by decide +kernel⟩
  · exact ⟨.pay, by decide +kernel⟩
  · exact ⟨.pay, by decide +kernel⟩
  · exact ⟨.ship, by decide +kernel⟩
  · exact ⟨.ship, by decide +kernel⟩
  · exact ⟨.pay, by decide +kernel⟩
  · exact ⟨.ship, by decide +kernel⟩
  · exact ⟨.tell, by decide +kernel⟩
theorem shp_pr (p : Pr) : (prD p).shp = true := by
  unfold prD
  cases p.ch <;> rfl
theorem eqv_pr (p : Pr) : (prD p).eqv (prD p) = true := by
  unfold prD
  cases p.ch with
  | none =>
    show ((D.int p.u).eqv (D.int p.u) && ((D.int p.d).eqv (D.int p.d) && (D.non.eqv D.non && true))) = true
    rw [eqv_int, eqv_int, decide_eq_true rfl, decide_eq_true rfl]
    rfl
  | some c =>
    show ((D.int p.u).eqv (D.int p.u) && ((D.int p.d).eqv (D.int p.d) && (((D.int c.1).eqv (D.int c.1) && ((D.int c.2).eqv (D.int c.2) && true)) && true))) = true
    rw [eqv_int, eqv_int, eqv_int, eqv_int, decide_eq_true rfl, decide_eq_true rfl, decide_eq_true rfl, decide_eq_true rfl]
    rfl
def L1 : List (Str × Pr) := [("pay", ⟨3, 4, none⟩)]
abbrev sd_law := DL.sdLaw
theorem ok_law (T : Tx K mg) : FnOk P w K mg base CX0 6 T.f_law T.fd_law ["_law_script"] (spD K 1 sd_law) := by
  have G_l_numbers := ok_l_numbers (P := P) (w := w) (base := base) T
  have G_l_prices := ok_l_prices (P := P) (w := w) (base := base) T
  have G_Prices_init := ok_Prices_init (P := P) (w := w) (base := base) T
  have G_l_take := ok_l_take (P := P) (w := w) (base := base) T
  have G_l_calls := ok_l_calls (P := P) (w := w) (base := base) T
  have G_l_refused := ok_l_refused (P := P) (w := w) (base := base) T
  have G_l_unknown := ok_l_unknown (P := P) (w := w) (base := base) T
  have G_change_cost := ok_change_cost (P := P) (w := w) (base := base) T
  have G_undo_cost := ok_undo_cost (P := P) (w := w) (base := base) T
  have G_do_cost := ok_do_cost (P := P) (w := w) (base := base) T
  have G_l_change := ok_l_change (P := P) (w := w) (base := base) T
  have tk := @takes_no
  refine fn_D (k := 5) T.d_law.F sc_law (fun H0 Fm Z0 vs cdv A outer s H Ex hr =>
    have nd := sc_law.nd; have u64 := hr.units; have u65 := u65_of hr; have u70 := u70_of hr
    (dss_cons (ds_setn 1 nd (dcalln G_l_numbers T.d_l_numbers (hr.mono (by decide)) (dm_d (de_v 0) (dm_d de_int dm_nil))))
    (dss_cons (ds_setn 2 nd (dcalln G_l_prices T.d_l_prices (hr.mono (by decide)) (dm_m 1 dm_nil)))
    (dss_cons (ds_setn 3 nd (dn_make T.c_Prices G_Prices_init (fun σ => passAt tk σ) T.b_Prices_init (hr.mono (by decide)) (dm_m 2 dm_nil)))
    (dss_cons (ds_par 9 10 nd (da_cons (de_n (dcalln G_l_calls T.d_l_calls (hr.mono (by decide)) (dm_m 1 (dm_d de_int dm_nil)))) (da_cons (de_n (dcalln G_l_calls T.d_l_calls (hr.mono (by decide)) (dm_m 1 (dm_d de_int dm_nil)))) da_nil)))
    (dss_cons (ds_for PassesOwn.never (di_seq (de_v 9)) (dg_n 4 nd) (dss_cons (ds_if (dt_w (dw_or (dt_cmp (o_ne u64) (dcallx G_undo_cost T.d_undo_cost tk (hr.mono (by decide)) (dm_d (de_v 3) (dm_d (de_v 4) dm_nil))) (de_ix (de_dgo 2 u65 (de_ixo 4 de_int)) de_int)) (dw_or1 (dt_cmp (o_ne u64) (dcallx G_do_cost T.d_do_cost tk (hr.mono (by decide)) (dm_d (de_v 3) (dm_d (de_v 4) dm_nil))) (de_ix (de_dgo 2 u65 (de_ixo 4 de_int)) de_int))))) (dss_one (ds_ret de_bl)) dss_nil)
    (dss_cons (ds_if (dt_w (dw_or (dt_not (dt_b (db_e (dcall G_l_unknown T.d_l_unknown (hr.mono (by decide)) (dm_d (de_glob rfl T.d_undo_cost.m (v := .ref T.f_undo_cost) rfl (fun _ _ => .kon _)) (dm_d (de_v 4) (dm_d de_non dm_nil))))))) (dw_or1 (dt_not (dt_b (db_e (dcall G_l_unknown T.d_l_unknown (hr.mono (by decide)) (dm_d (de_glob rfl T.d_do_cost.m (v := .ref T.f_do_cost) rfl (fun _ _ => .kon _)) (dm_d (de_v 4) (dm_d de_non dm_nil)))))))))) (dss_one (ds_ret de_bl)) dss_nil)
    (dss_cons (ds_for PassesOwn.never (di_seq (de_v 10)) (dg_n 11 nd) (dss_one (ds_if (dt_cmp (o_ne u64) (dcallx G_change_cost T.d_change_cost tk (hr.mono (by decide)) (dm_d (de_v 3) (dm_d (de_v 4) (dm_d (de_v 11) dm_nil)))) (dcall G_l_change T.d_l_change (hr.mono (by decide)) (dm_m 2 (dm_d (de_v 4) (dm_d (de_v 11) dm_nil))))) (dss_one (ds_ret de_bl)) dss_nil)))
    (dss_one (ds_if (dt_not (dt_b (db_e (dcall G_l_unknown T.d_l_unknown (hr.mono (by decide)) (dm_d (de_glob rfl T.d_change_cost.m (v := .ref T.f_change_cost) rfl (fun _ _ => .kon _)) (dm_d (de_v 4) (dm_d (de_v 4) dm_nil))))))) (dss_one (ds_ret de_bl)) dss_nil))))))
    (dss_cons (ds_setn 5 nd (dn_lst (da_cons de_str (da_cons de_str (da_cons de_str da_nil)))))
    (dss_cons (ds_set 6 nd (de_ix (de_n (dn_lst (da_cons (de_tup (da_cons (de_neg de_int) (da_cons de_int (da_cons de_non da_nil)))) (da_cons (de_tup (da_cons de_int (da_cons de_int (da_cons de_non da_nil)))) (da_cons (de_tup (da_cons de_int (da_cons de_int (da_cons (de_tup (da_cons (de_neg de_int) (da_cons de_int da_nil))) da_nil)))) (da_cons (de_tup (da_cons de_int (da_cons de_int (da_cons (de_tup (da_cons de_int (da_cons de_int da_nil))) da_nil)))) da_nil)))))) (dcall G_l_take T.d_l_take (hr.mono (by decide)) (dm_m 1 (dm_d de_int dm_nil)))))
    (dss_cons (ds_set 7 nd (dcall G_l_take T.d_l_take (hr.mono (by decide)) (dm_m 1 (dm_d de_int dm_nil))))
    (dss_cons (ds_setn 8 nd (dn_dcopy T.m_dict (db_v 2)))
    (dss_cons (ds_dput 8 u65 (de_ixo 5 (de_v 7)) (de_v 6))
    (dss_cons (ds_if (dt_cmp (o_ne u64) (dcall G_l_refused T.d_l_refused (hr.mono (by decide)) (dm_m 8 dm_nil)) (de_ixo 5 (de_v 7))) (dss_one (ds_ret de_bl)) dss_nil)
    (dss_cons (ds_dput 8 u65 (de_ixo 5 (de_op o_mod (de_t1 b_int T.m_int (db_e (de_op o_add (de_v 7) de_int))) de_int)) (de_v 6))
    (dss_cons (ds_if (dt_w (dw_or (dt_cmp (o_ne u64) (dcall G_l_refused T.d_l_refused (hr.mono (by decide)) (dm_m 8 dm_nil)) (de_b2 b_minS m_minS T.m_min (de_ixo 5 (de_v 7)) (de_ixo 5 (de_op o_mod (de_t1 b_int T.m_int (db_e (de_op o_add (de_v 7) de_int))) de_int)))) (dw_or1 (dt_cmp (o_isnt) (dcall G_l_refused T.d_l_refused (hr.mono (by decide)) (dm_m 2 dm_nil)) de_non)))) (dss_one (ds_ret de_bl)) dss_nil)
    (dss_cons (ds_dput 2 u65 de_str (de_tup (da_cons de_int (da_cons de_int (da_cons de_non da_nil)))))
    (dss_one (ds_ret (de_and (de_cmp (o_eq u64) (de_dgf u65 (de_attr T.c_Prices (de_v 3)) de_str) (de_dgo 2 u65 de_str)) (de_one (de_cmp (o_eqDic u65) (de_attr T.c_Prices (de_n (dn_make T.c_Prices G_Prices_init (fun σ => passAt tk σ) T.b_Prices_init (hr.mono (by decide)) (dm_d (de_n (dn_disp (dps_cons de_str (de_tup (da_cons de_int (da_cons de_int (da_cons de_non da_nil)))) dps_nil))) dm_nil)))) (de_n (dn_disp (dps_cons de_str (de_tup (da_cons de_int (da_cons de_int (da_cons de_non da_nil)))) dps_nil))))))))))))))))))))))) (fun args Qd hl h => ?_)
  obtain ⟨ns, rfl, hn, q⟩ := h
  conv => whnf
  refine ⟨rfl, ns, 70, rfl, hn, by decide, by decide, fun r1 => ?_⟩
  conv => whnf
  refine ⟨rfl, ?_⟩
  conv => whnf
  refine ⟨rfl, rfl, _, rfl, fun f r2 sm => ?_⟩
  conv => whnf
  refine ⟨rfl, ?_⟩
  have gd : ∀ e, goodP (f e) = true := fun e => small_good (sm e)
  conv => whnf
  refine ⟨rfl, rfl, _, LL f, rfl, .inl rfl, nd_LL f, by show 3 < 64; decide, perm3 f, fun _ => ?_, fun n hb => by rw [fb_none gd] at hb; cases hb⟩
  conv => whnf
  refine ⟨rfl, ?_⟩
  conv => whnf
  refine ⟨rfl, rfl, _, 4, rfl, by decide, by decide, fun cs1 r3 nd1 oa1 hl1 => ?_⟩
  conv => whnf
  refine ⟨rfl, rfl, _, 4, rfl, by decide, by decide, fun cs2 r4 nd2 oa2 hl2 => ?_⟩
  conv => whnf
  refine ⟨_, _, rfl, rfl, rfl, ?_⟩
  conv => whnf
  refine ⟨fun i E => ∃ s3 x4 x11 : S, E = [.fr (.scr (ns.map D.int)), .ow (.lst (r4.map D.int)), .ow (.dic ksE (dsE f)), s3, x4, .un, .un, .un, .un, .fr (.lst (cs1.map cl)), .fr (.lst (cs2.map cl)), x11] ∧ (s3 = .ow (.obj T.x_Prices ["effects"] [.fr (.dic ksE (dsE f))]) ∨ s3 = .fr (pobj T ksE (dsE f))) ∧ S.free (some x4) = true ∧ S.free (some x11) = true,
    ⟨_, _, _, rfl, .inl rfl, rfl, rfl⟩, fun i d E' hd hi => ?_, fun E' hi => ?_⟩
  · obtain ⟨c, rfl, hc⟩ := map_at hd
    obtain ⟨s3, x4, x11, rfl, h3, f4, f11⟩ := hi
    have oc : okA c := oa1 c (List.mem_of_getElem? hc)
    have lc := len_ok oc
    refine ⟨f4, ?_⟩
    rcases h3 with rfl | rfl
    all_goals
      conv => whnf
      refine ⟨rfl, ksE, dsE f, c, some (f c.e), rfl, get_pd f c.e, fun p hp => ?_, fun hp => nomatch hp⟩
      cases hp
      conv => whnf
      refine ⟨rfl, ?_⟩
      conv => whnf
      refine ⟨rfl, ?_⟩
      conv => whnf
      rw [get_pd]
      conv => whnf
      refine ⟨⟨rfl, rfl⟩, ?_⟩
      conv => whnf
      rw [eqv_int, decide_eq_true rfl]
      refine brF rfl ?_
      conv => whnf
      refine ⟨rfl, ksE, dsE f, c, some (f c.e), rfl, get_pd f c.e, fun p hp => ?_, fun hp => nomatch hp⟩
      cases hp
      conv => whnf
      refine ⟨rfl, ?_⟩
      conv => whnf
      refine ⟨rfl, ?_⟩
      conv => whnf
      rw [get_pd]
      conv => whnf
      refine ⟨⟨rfl, rfl⟩, ?_⟩
      conv => whnf
      rw [eqv_int, decide_eq_true rfl]
      refine brF rfl ?_
      conv => whnf
      refine ⟨rfl, T.f_undo_cost, c, .non, rfl, .inl ⟨rfl, .inl rfl⟩, lc, ?_⟩
      conv => whnf
      refine brF rfl ?_
      conv => whnf
      refine ⟨rfl, T.f_do_cost, c, .non, rfl, .inl ⟨rfl, .inr rfl⟩, lc, ?_⟩
      conv => whnf
      refine brF rfl ?_
      conv => whnf
      refine ⟨fun j E => ∃ x11 : S, E = [.fr (.scr (ns.map D.int)), .ow (.lst (r4.map D.int)), .ow (.dic ksE (dsE f)), .fr (pobj T ksE (dsE f)), .fr (cl c), .un, .un, .un, .un, .fr (.lst (cs1.map cl)), .fr (.lst (cs2.map cl)), x11] ∧ S.free (some x11) = true,
        ⟨_, rfl, f11⟩, fun j d E' hd hj => ?_, fun E' hj => ?_⟩
      · obtain ⟨c2, rfl, hc2⟩ := map_at hd
        obtain ⟨x11, rfl, f11⟩ := hj
        have oc2 : okA c2 := oa2 c2 (List.mem_of_getElem? hc2)
        refine ⟨f11, ?_⟩
        conv => whnf
        refine ⟨rfl, ksE, dsE f, c, c2, some (f c.e), rfl, get_pd f c.e, fun p hp => ⟨by cases hp; exact sm _, by rw [get_pd]; rfl⟩, ⟨lc, len_ok oc2⟩, fun p hp => ?_, fun hp => nomatch hp⟩
        cases hp
        conv => whnf
        refine ⟨rfl, rfl, f, c, c2, rfl, oc, oc2, sm, ?_⟩
        conv => whnf
        refine ⟨⟨shp_chg _ _ _, shp_chg _ _ _⟩, ?_⟩
        conv => whnf
        rw [eqv_chg]
        refine brF rfl ?_
        conv => whnf
        exact ⟨_, rfl, rfl⟩
      · obtain ⟨x11, rfl, f11⟩ := hj
        conv => whnf
        refine ⟨rfl, T.f_change_cost, c, cl c, rfl, .inr ⟨rfl, rfl⟩, lc, ?_⟩
        conv => whnf
        refine brF rfl ?_
        conv => whnf
        exact ⟨_, _, _, rfl, .inr rfl, rfl, f11⟩
  · obtain ⟨s3, x4, x11, rfl, h3, f4, f11⟩ := hi
    conv => whnf
    refine ⟨rfl, ?_⟩
    conv => whnf
    refine ⟨rfl, rfl, _, 4, rfl, by decide, fun j r5 j0 j1 _ => ?_⟩
    obtain ⟨b, hb, gb⟩ := at_bads j0 j1
    have hb : atI [D.tup [D.int (-1), D.int 0, D.non], D.tup [D.int 0, D.int 1000001, D.non], D.tup [D.int 0, D.int 0, D.tup [D.int (-1), D.int 0]], D.tup [D.int 0, D.int 0, D.tup [D.int 0, D.int 1000001]]] j = some (prD b) := hb
    conv => whnf
    rw [hb]
    conv => whnf
    refine ⟨rfl, ?_⟩
    conv => whnf
    refine ⟨rfl, rfl, _, 3, rfl, by decide, fun k r6 k0 k1 _ => ?_⟩
    conv => whnf
    refine ⟨rfl, ?_⟩
    conv => whnf
    refine ⟨rfl, ?_⟩
    conv => whnf
    have hk := at_names k0 k1
    have hk2 := at_names (k := (k + 1) % 3) (by omega) (by omega)
    refine ⟨rfl, ?_⟩
    conv => whnf
    refine ⟨rfl, ?_⟩
    conv => whnf
    rw [hk]
    conv => whnf
    refine ⟨by show 3 < sizeLine; decide, ?_⟩
    rw [(put_pd f (effN k) b).1, (put_pd f (effN k) b).2]
    conv => whnf
    refine ⟨rfl, rfl, LL (updE f (effN k) b), rfl, nd_LL _, by show 3 < 64; decide, perm3 _, (fun hn => by rw [fb_upd gd _ gb] at hn; cases hn), fun n hn => ?_⟩
    rw [fb_upd gd _ gb] at hn
    cases hn
    conv => whnf
    refine ⟨rfl, ?_⟩
    conv => whnf
    rw [hk]
    conv => whnf
    refine ⟨⟨shp_eff _, shp_eff _⟩, ?_⟩
    conv => whnf
    rw [eqv_eff, decide_eq_true rfl]
    refine brF rfl ?_
    conv => whnf
    refine ⟨rfl, ?_⟩
    conv => whnf
    refine ⟨rfl, ?_⟩
    conv => whnf
    refine ⟨by show (0 : Int) < 3; decide, ?_⟩
    conv => whnf
    rw [hk2]
    conv => whnf
    refine ⟨by show 3 < sizeLine; decide, ?_⟩
    rw [(put_pl (updE f (effN k) b) (effN ((k + 1) % 3)) b).1, (put_pl (updE f (effN k) b) (effN ((k + 1) % 3)) b).2]
    conv => whnf
    refine ⟨rfl, rfl, LL (updE (updE f (effN k) b) (effN ((k + 1) % 3)) b), rfl, nd_LL _, by show 3 < 64; decide, perm3 _, (fun hn => by rw [fb_two gd k0 k1 gb] at hn; cases hn), fun n hn => ?_⟩
    rw [fb_two gd k0 k1 gb] at hn
    cases hn
    conv => whnf
    refine ⟨rfl, ?_⟩
    conv => whnf
    rw [hk]
    conv => whnf
    refine ⟨rfl, ?_⟩
    conv => whnf
    refine ⟨by show (0 : Int) < 3; decide, ?_⟩
    conv => whnf
    rw [hk2]
    conv => whnf
    obtain ⟨e, he⟩ := min_eff k
    rw [he]
    refine ⟨⟨shp_eff _, shp_eff _⟩, ?_⟩
    conv => whnf
    rw [eqv_eff, decide_eq_true rfl]
    refine brF rfl ?_
    conv => whnf
    refine ⟨rfl, rfl, LL f, rfl, nd_LL _, by show 3 < 64; decide, perm3 _, fun _ => ?_, fun n hn => by rw [fb_none gd] at hn; cases hn⟩
    conv => whnf
    refine brF rfl ?_
    conv => whnf
    refine ⟨rfl, ?_⟩
    conv => whnf
    refine ⟨by show 3 < sizeLine; decide, ?_⟩
    rcases h3 with rfl | rfl
    all_goals
      conv => whnf
      refine ⟨rfl, ?_⟩
      conv => whnf
      refine ⟨rfl, ?_⟩
      conv => whnf
      refine ⟨⟨shp_pr _, shp_pr _⟩, ?_⟩
      conv => whnf
      refine brT (show (prD (f .ship)).eqv (prD (f .ship)) = true from eqv_pr _) ?_
      conv => whnf
      refine ⟨by show 1 ≤ 15; decide, ?_⟩
      conv => whnf
      refine ⟨rfl, .fr (.dic (kL L1) (dL L1)), L1, rfl, .inr rfl, by decide +kernel, by show 1 < 64; decide, fun ys hp _ => List.perm_singleton.mp hp, fun _ => ?_, fun n hn => by rw [show firstBad L1 = none by decide] at hn; cases hn⟩
      conv => whnf
      refine ⟨rfl, ?_⟩
      conv => whnf
      refine ⟨by show 1 ≤ 15; decide, ?_⟩
      conv => whnf
      refine ⟨⟨rfl, fun i k d hk hd => ?_⟩, ?_⟩
      · match i, hk, hd with
        | 0, hk, hd =>
          cases hk
          cases hd
          exact ⟨_, rfl, rfl, rfl, rfl⟩
        | i + 1, hk, hd => cases hk
      conv => whnf
      exact ⟨(by decide : 1 ≤ 12), q⟩
end K30
set_option Elab.async false
set_option linter.all false
set_option maxRecDepth 100000
set_option maxHeartbeats 4000000
namespace K30
open PySem PySem.Spec PyProof.Rows L2 DL K29
variable {P : Program} {w : World} {K : Frg} {mg : Str → Option Value} {base : Heap}
abbrev sx_InvalidPrices : Stmt := inClass (topS 2) 0
theorem scx_InvalidPrices : FnScope ["self", "name"] ["self", "name"] (defScope sx_InvalidPrices) := ⟨rfl, rfl, rfl, by decide +kernel, rfl, by decide +kernel, by decide +kernel⟩
abbrev sx_UnknownEffect : Stmt := inClass (topS 3) 0
theorem scx_UnknownEffect : FnScope ["self", "name"] ["self", "name"] (defScope sx_UnknownEffect) := ⟨rfl, rfl, rfl, by decide +kernel, rfl, by decide +kernel, by decide +kernel⟩
theorem exm_self {K : PySem.W.Frag} {S : Addr} (h1 : PySem.W.subIn K (.ref S) (.type "BaseException") = some true) (h2 : PySem.W.isClsIn K S = true) (h3 : PySem.W.typeIn K (.ref S) = some (.type "type")) (h4 : PySem.W.subIn K (.ref S) (.ref S) = some true) :
    PySem.W.exmOne K (.ref S) (.ref S) = some true := by
  have e1 : (PySem.W.subIn K (.ref S) (.type "BaseException") == some true) = true := by rw [h1] <;> rfl
  have e2 : ((PySem.W.clsIn K S).isSome && PySem.W.typeIn K (.ref S) == some (.type "type")) = true := by
    have h2' : (PySem.W.clsIn K S).isSome = true := h2
    rw [h2', h3] <;> rfl
  show (if (PySem.W.subIn K (.ref S) (.type "BaseException") == some true) = true then (if ((PySem.W.clsIn K S).isSome && PySem.W.typeIn K (.ref S) == some (.type "type")) = true then PySem.W.subIn K (.ref S) (.ref S) else none) else none) = some true
  rw [if_pos e1, if_pos e2]
  exact h4
theorem all_mk {l : PySem.W.OpenLaw} {w : World} {K : PySem.W.Frag} {h : Heap} {mg : Str → Option Value} {fa : Addr} (X : K.In h) (G : h.Ns mainGlobals mg) (hfa : mg "law" = some (.ref fa))
    {f0 : Addr}
    {od0 an0 : Option Addr} {sl0 : Array (Option Value)} {oc0 kV0 dc0 pm0 cd0 ct0 : Value}
    {f1 : Addr}
    {od1 an1 : Option Addr} {sl1 : Array (Option Value)} {oc1 kV1 dc1 pm1 cd1 ct1 : Value}
    {f2 : Addr}
    {od2 an2 : Option Addr} {sl2 : Array (Option Value)} {oc2 kV2 dc2 pm2 cd2 ct2 : Value}
    {f3 : Addr}
    {od3 an3 : Option Addr} {sl3 : Array (Option Value)} {oc3 kV3 dc3 pm3 cd3 ct3 : Value}
    {f4 : Addr}
    {od4 an4 : Option Addr} {sl4 : Array (Option Value)} {oc4 kV4 dc4 pm4 cd4 ct4 : Value}
    {f5 : Addr}
    {od5 an5 : Option Addr} {sl5 : Array (Option Value)} {oc5 kV5 dc5 pm5 cd5 ct5 : Value}
    {f6 : Addr}
    {C6 : Addr}
    {od6 an6 : Option Addr} {sl6 : Array (Option Value)} {oc6 kV6 dc6 pm6 cd6 ct6 : Value}
    {f7 : Addr}
    {od7 an7 : Option Addr} {sl7 : Array (Option Value)} {oc7 kV7 dc7 pm7 cd7 ct7 : Value}
    {f8 : Addr}
    {od8 an8 : Option Addr} {sl8 : Array (Option Value)} {oc8 kV8 dc8 pm8 cd8 ct8 : Value}
    {f9 : Addr}
    {od9 an9 : Option Addr} {sl9 : Array (Option Value)} {oc9 kV9 dc9 pm9 cd9 ct9 : Value}
    {f10 : Addr}
    {od10 an10 : Option Addr} {sl10 : Array (Option Value)} {oc10 kV10 dc10 pm10 cd10 ct10 : Value}
    {f11 : Addr}
    {od11 an11 : Option Addr} {sl11 : Array (Option Value)} {oc11 kV11 dc11 pm11 cd11 ct11 : Value}
    {f12 : Addr}
    {od12 an12 : Option Addr} {sl12 : Array (Option Value)} {oc12 kV12 dc12 pm12 cd12 ct12 : Value}
    {f13 : Addr}
    {od13 an13 : Option Addr} {sl13 : Array (Option Value)} {oc13 kV13 dc13 pm13 cd13 ct13 : Value}
    {f14 : Addr}
    {od14 an14 : Option Addr} {sl14 : Array (Option Value)} {oc14 kV14 dc14 pm14 cd14 ct14 : Value}
    {f15 : Addr}
    {od15 an15 : Option Addr} {sl15 : Array (Option Value)} {oc15 kV15 dc15 pm15 cd15 ct15 : Value}
    {f16 : Addr}
    {od16 an16 : Option Addr} {sl16 : Array (Option Value)} {oc16 kV16 dc16 pm16 cd16 ct16 : Value}
    {fx0 Cx0 Nx0 : Addr} {nmx0 qx0 : Str} {bsx0 bmx0 sbx0 : List Value} {snx0 : List Str} {abx0 : Bool} {cox0 : Option Bool} {ddx0 : Option Addr} {mAx0 mBx0 mCx0 mDx0 mEx0 : Option Value}
    {odx0 anx0 : Option Addr} {slx0 : Array (Option Value)} {ocx0 kVx0 dcx0 pmx0 cdx0 ctx0 : Value}
    {fx1 Cx1 Nx1 : Addr} {nmx1 qx1 : Str} {bsx1 bmx1 sbx1 : List Value} {snx1 : List Str} {abx1 : Bool} {cox1 : Option Bool} {ddx1 : Option Addr} {mAx1 mBx1 mCx1 mDx1 mEx1 : Option Value}
    {odx1 anx1 : Option Addr} {slx1 : Array (Option Value)} {ocx1 kVx1 dcx1 pmx1 cdx1 ctx1 : Value}
    {Cn0 : Addr}
    {tv0 : Nat}
    (a0 : PySem.W.nsIn K mainGlobals "_law_mix" = some (some (.ref f0)))
    (l0 : K.lookup f0 = some ⟨oc0, od0, .func (PySem.W.fnOf "_law_mix" "_law_mix" (defArgs s_l_mix) (defBody s_l_mix) (defScope s_l_mix) .none kV0 dc0 pm0 an0 cd0 ct0), sl0⟩)
    (c0 : PySem.W.codeIn K cd0 "_law_mix" = true)
    (k0 : PySem.W.keepIn K (.ref f0) = true)
    (a1 : PySem.W.nsIn K mainGlobals "_law_numbers" = some (some (.ref f1)))
    (l1 : K.lookup f1 = some ⟨oc1, od1, .func (PySem.W.fnOf "_law_numbers" "_law_numbers" (defArgs s_l_numbers) (defBody s_l_numbers) (defScope s_l_numbers) .none kV1 dc1 pm1 an1 cd1 ct1), sl1⟩)
    (c1 : PySem.W.codeIn K cd1 "_law_numbers" = true)
    (k1 : PySem.W.keepIn K (.ref f1) = true)
    (a2 : PySem.W.nsIn K mainGlobals "_law_take" = some (some (.ref f2)))
    (l2 : K.lookup f2 = some ⟨oc2, od2, .func (PySem.W.fnOf "_law_take" "_law_take" (defArgs s_l_take) (defBody s_l_take) (defScope s_l_take) .none kV2 dc2 pm2 an2 cd2 ct2), sl2⟩)
    (c2 : PySem.W.codeIn K cd2 "_law_take" = true)
    (k2 : PySem.W.keepIn K (.ref f2) = true)
    (a3 : PySem.W.nsIn K mainGlobals "_law_price" = some (some (.ref f3)))
    (l3 : K.lookup f3 = some ⟨oc3, od3, .func (PySem.W.fnOf "_law_price" "_law_price" (defArgs s_l_price) (defBody s_l_price) (defScope s_l_price) .none kV3 dc3 pm3 an3 cd3 ct3), sl3⟩)
    (c3 : PySem.W.codeIn K cd3 "_law_price" = true)
    (k3 : PySem.W.keepIn K (.ref f3) = true)
    (a4 : PySem.W.nsIn K mainGlobals "_law_prices" = some (some (.ref f4)))
    (l4 : K.lookup f4 = some ⟨oc4, od4, .func (PySem.W.fnOf "_law_prices" "_law_prices" (defArgs s_l_prices) (defBody s_l_prices) (defScope s_l_prices) .none kV4 dc4 pm4 an4 cd4 ct4), sl4⟩)
    (c4 : PySem.W.codeIn K cd4 "_law_prices" = true)
    (k4 : PySem.W.keepIn K (.ref f4) = true)
    (a5 : PySem.W.nsIn K mainGlobals "is_price" = some (some (.ref f5)))
    (l5 : K.lookup f5 = some ⟨oc5, od5, .func (PySem.W.fnOf "is_price" "is_price" (defArgs s_is_price) (defBody s_is_price) (defScope s_is_price) .none kV5 dc5 pm5 an5 cd5 ct5), sl5⟩)
    (c5 : PySem.W.codeIn K cd5 "is_price" = true)
    (k5 : PySem.W.keepIn K (.ref f5) = true)
    (w6 : PySem.W.nsIn K mainGlobals "Prices" = some (some (.ref C6)))
    (a6 : PySem.W.findIn K (.ref C6) "__init__" = some (some (.ref f6)))
    (i6 : PySem.W.isFn K (.ref f6) = true)
    (l6 : K.lookup f6 = some ⟨oc6, od6, .func (PySem.W.fnOf "__init__" "Prices.__init__" (defArgs s_Prices_init) (defBody s_Prices_init) (defScope s_Prices_init) .none kV6 dc6 pm6 an6 cd6 ct6), sl6⟩)
    (c6 : PySem.W.codeIn K cd6 "Prices.__init__" = true)
    (k6 : PySem.W.keepIn K (.ref f6) = true)
    (pg6 : PySem.W.plainGet K C6 Str.empty = true)
    (hd6 : PySem.W.hasDictIn K C6 = true)
    (po6 : PySem.W.plainOver K C6 = true)
    (sa6 : PySem.W.findIn K (.ref C6) "__setattr__" = some (some (.builtin "object.__setattr__")))
    (mk6 : PySem.W.makesIn K C6 = true)
    (kc6 : PySem.W.keepIn K (.ref C6) = true)
    (n6_0 : PySem.W.findIn K (.ref C6) "effects" = some none)
    (a7 : PySem.W.nsIn K mainGlobals "_law_call" = some (some (.ref f7)))
    (l7 : K.lookup f7 = some ⟨oc7, od7, .func (PySem.W.fnOf "_law_call" "_law_call" (defArgs s_l_call) (defBody s_l_call) (defScope s_l_call) .none kV7 dc7 pm7 an7 cd7 ct7), sl7⟩)
    (c7 : PySem.W.codeIn K cd7 "_law_call" = true)
    (k7 : PySem.W.keepIn K (.ref f7) = true)
    (a8 : PySem.W.nsIn K mainGlobals "_law_calls" = some (some (.ref f8)))
    (l8 : K.lookup f8 = some ⟨oc8, od8, .func (PySem.W.fnOf "_law_calls" "_law_calls" (defArgs s_l_calls) (defBody s_l_calls) (defScope s_l_calls) .none kV8 dc8 pm8 an8 cd8 ct8), sl8⟩)
    (c8 : PySem.W.codeIn K cd8 "_law_calls" = true)
    (k8 : PySem.W.keepIn K (.ref f8) = true)
    (a9 : PySem.W.nsIn K mainGlobals "_law_refused" = some (some (.ref f9)))
    (l9 : K.lookup f9 = some ⟨oc9, od9, .func (PySem.W.fnOf "_law_refused" "_law_refused" (defArgs s_l_refused) (defBody s_l_refused) (defScope s_l_refused) .none kV9 dc9 pm9 an9 cd9 ct9), sl9⟩)
    (c9 : PySem.W.codeIn K cd9 "_law_refused" = true)
    (k9 : PySem.W.keepIn K (.ref f9) = true)
    (a10 : PySem.W.nsIn K mainGlobals "_law_unknown" = some (some (.ref f10)))
    (l10 : K.lookup f10 = some ⟨oc10, od10, .func (PySem.W.fnOf "_law_unknown" "_law_unknown" (defArgs s_l_unknown) (defBody s_l_unknown) (defScope s_l_unknown) .none kV10 dc10 pm10 an10 cd10 ct10), sl10⟩)
    (c10 : PySem.W.codeIn K cd10 "_law_unknown" = true)
    (k10 : PySem.W.keepIn K (.ref f10) = true)
    (a11 : PySem.W.nsIn K mainGlobals "prices_of" = some (some (.ref f11)))
    (l11 : K.lookup f11 = some ⟨oc11, od11, .func (PySem.W.fnOf "prices_of" "prices_of" (defArgs s_prices_of) (defBody s_prices_of) (defScope s_prices_of) .none kV11 dc11 pm11 an11 cd11 ct11), sl11⟩)
    (c11 : PySem.W.codeIn K cd11 "prices_of" = true)
    (k11 : PySem.W.keepIn K (.ref f11) = true)
    (a12 : PySem.W.nsIn K mainGlobals "change_cost" = some (some (.ref f12)))
    (l12 : K.lookup f12 = some ⟨oc12, od12, .func (PySem.W.fnOf "change_cost" "change_cost" (defArgs s_change_cost) (defBody s_change_cost) (defScope s_change_cost) .none kV12 dc12 pm12 an12 cd12 ct12), sl12⟩)
    (c12 : PySem.W.codeIn K cd12 "change_cost" = true)
    (k12 : PySem.W.keepIn K (.ref f12) = true)
    (a13 : PySem.W.nsIn K mainGlobals "undo_cost" = some (some (.ref f13)))
    (l13 : K.lookup f13 = some ⟨oc13, od13, .func (PySem.W.fnOf "undo_cost" "undo_cost" (defArgs s_undo_cost) (defBody s_undo_cost) (defScope s_undo_cost) .none kV13 dc13 pm13 an13 cd13 ct13), sl13⟩)
    (c13 : PySem.W.codeIn K cd13 "undo_cost" = true)
    (k13 : PySem.W.keepIn K (.ref f13) = true)
    (a14 : PySem.W.nsIn K mainGlobals "do_cost" = some (some (.ref f14)))
    (l14 : K.lookup f14 = some ⟨oc14, od14, .func (PySem.W.fnOf "do_cost" "do_cost" (defArgs s_do_cost) (defBody s_do_cost) (defScope s_do_cost) .none kV14 dc14 pm14 an14 cd14 ct14), sl14⟩)
    (c14 : PySem.W.codeIn K cd14 "do_cost" = true)
    (k14 : PySem.W.keepIn K (.ref f14) = true)
    (a15 : PySem.W.nsIn K mainGlobals "_law_change" = some (some (.ref f15)))
    (l15 : K.lookup f15 = some ⟨oc15, od15, .func (PySem.W.fnOf "_law_change" "_law_change" (defArgs s_l_change) (defBody s_l_change) (defScope s_l_change) .none kV15 dc15 pm15 an15 cd15 ct15), sl15⟩)
    (c15 : PySem.W.codeIn K cd15 "_law_change" = true)
    (k15 : PySem.W.keepIn K (.ref f15) = true)
    (a16 : PySem.W.nsIn K mainGlobals "law" = some (some (.ref f16)))
    (l16 : K.lookup f16 = some ⟨oc16, od16, .func (PySem.W.fnOf "law" "law" (defArgs s_law) (defBody s_law) (defScope s_law) .none kV16 dc16 pm16 an16 cd16 ct16), sl16⟩)
    (c16 : PySem.W.codeIn K cd16 "law" = true)
    (k16 : PySem.W.keepIn K (.ref f16) = true)
    (wx0 : PySem.W.nsIn K mainGlobals "InvalidPrices" = some (some (.ref Cx0)))
    (Lx0 : K.lookup Cx0 = some (excClassObj nmx0 qx0 Cx0 Nx0 bsx0 bmx0 true snx0 sbx0 abx0 cox0 ddx0 mAx0 mBx0 mCx0 mDx0 mEx0 "ValueError.__new__"))
    (rx0 : PySem.HandSPX.refsVE bmx0 = true)
    (sax0 : PySem.W.findIn K (.ref Cx0) "__setattr__" = some (some (.builtin "object.__setattr__")))
    (gax0 : PySem.W.findIn K (.ref Cx0) "__getattribute__" = some (some (.builtin "BaseException.__getattribute__")))
    (ggx0 : PySem.W.findIn K (.ref Cx0) "__getattr__" = some none)
    (nox0 : PySem.W.findIn K (.ref Cx0) "name" = some none)
    (ax0 : PySem.W.findIn K (.ref Cx0) "__init__" = some (some (.ref fx0)))
    (tx0 : PySem.W.typeIn K (.ref fx0) = some (.type "function"))
    (lx0 : K.lookup fx0 = some ⟨ocx0, odx0, .func (PySem.W.fnOf "__init__" "InvalidPrices.__init__" (defArgs sx_InvalidPrices) (defBody sx_InvalidPrices) (defScope sx_InvalidPrices) .none kVx0 dcx0 pmx0 anx0 cdx0 ctx0), slx0⟩)
    (cx0 : PySem.W.codeIn K cdx0 "InvalidPrices.__init__" = true)
    (kx0 : PySem.W.keepIn K (.ref fx0) = true)
    (kCx0 : PySem.W.keepIn K (.ref Cx0) = true)
    (eCx0 : PySem.W.subIn K (.ref Cx0) (.type "BaseException") = some true)
    (tCx0 : PySem.W.typeIn K (.ref Cx0) = some (.type "type"))
    (hCx0 : PySem.W.hasDictIn K Cx0 = true)
    (iCx0 : PySem.W.isClsIn K Cx0 = true)
    (sCx0 : PySem.W.subIn K (.ref Cx0) (.ref Cx0) = some true)
    (wx1 : PySem.W.nsIn K mainGlobals "UnknownEffect" = some (some (.ref Cx1)))
    (Lx1 : K.lookup Cx1 = some (excClassObj nmx1 qx1 Cx1 Nx1 bsx1 bmx1 true snx1 sbx1 abx1 cox1 ddx1 mAx1 mBx1 mCx1 mDx1 mEx1 "ValueError.__new__"))
    (rx1 : PySem.HandSPX.refsVE bmx1 = true)
    (sax1 : PySem.W.findIn K (.ref Cx1) "__setattr__" = some (some (.builtin "object.__setattr__")))
    (gax1 : PySem.W.findIn K (.ref Cx1) "__getattribute__" = some (some (.builtin "BaseException.__getattribute__")))
    (ggx1 : PySem.W.findIn K (.ref Cx1) "__getattr__" = some none)
    (nox1 : PySem.W.findIn K (.ref Cx1) "name" = some none)
    (ax1 : PySem.W.findIn K (.ref Cx1) "__init__" = some (some (.ref fx1)))
    (tx1 : PySem.W.typeIn K (.ref fx1) = some (.type "function"))
    (lx1 : K.lookup fx1 = some ⟨ocx1, odx1, .func (PySem.W.fnOf "__init__" "UnknownEffect.__init__" (defArgs sx_UnknownEffect) (defBody sx_UnknownEffect) (defScope sx_UnknownEffect) .none kVx1 dcx1 pmx1 anx1 cdx1 ctx1), slx1⟩)
    (cx1 : PySem.W.codeIn K cdx1 "UnknownEffect.__init__" = true)
    (kx1 : PySem.W.keepIn K (.ref fx1) = true)
    (kCx1 : PySem.W.keepIn K (.ref Cx1) = true)
    (eCx1 : PySem.W.subIn K (.ref Cx1) (.type "BaseException") = some true)
    (tCx1 : PySem.W.typeIn K (.ref Cx1) = some (.type "type"))
    (hCx1 : PySem.W.hasDictIn K Cx1 = true)
    (iCx1 : PySem.W.isClsIn K Cx1 = true)
    (sCx1 : PySem.W.subIn K (.ref Cx1) (.ref Cx1) = some true)
    (wn0 : PySem.W.nsIn K mainGlobals "RetroactError" = some (some (.ref Cn0)))
    (v0 : PySem.W.nsIn K mainGlobals "MOST_PRICE" = some (some (.int 1000000 tv0)))
    (z0 : PySem.W.nsIn K mainGlobals "sorted" = some none)
    (z1 : PySem.W.nsIn K mainGlobals "dict" = some none)
    (z2 : PySem.W.nsIn K mainGlobals "all" = some none)
    (z3 : PySem.W.nsIn K mainGlobals "sum" = some none)
    (z4 : PySem.W.nsIn K mainGlobals "abs" = some none)
    (z5 : PySem.W.nsIn K mainGlobals "zip" = some none)
    (z6 : PySem.W.nsIn K mainGlobals "int" = some none)
    (z7 : PySem.W.nsIn K mainGlobals "range" = some none)
    (z8 : PySem.W.nsIn K mainGlobals "len" = some none)
    (z9 : PySem.W.nsIn K mainGlobals "min" = some none)
    : ∃ fd : FuncData, (∀ (s : Shared) (v : Value), BindsTo s fd ⟨[v], []⟩ [("_law_script", v)]) ∧ ∀ base : Heap, K.In base → base.Ns mainGlobals mg → FnOk l.prog w K mg base CX0 6 fa fd ["_law_script"] (spD K 1 sdLaw) := by
  have e := hfa.symm.trans (PySem.W.mg_of X G a16)
  cases e
  have F0 := fun_mk (st := s_l_mix) l0 c0 k0
  have b0 := F0.binds (ps := ["_law_number", "_law_k"]) fun _ _ _ _ _ _ us hl => match us, hl with | [_, _], _ => rfl
  have F1 := fun_mk (st := s_l_numbers) l1 c1 k1
  have b1 := F1.binds (ps := ["_law_script", "_law_count"]) fun _ _ _ _ _ _ us hl => match us, hl with | [_, _], _ => rfl
  have F2 := fun_mk (st := s_l_take) l2 c2 k2
  have b2 := F2.binds (ps := ["_law_row", "_law_bound"]) fun _ _ _ _ _ _ us hl => match us, hl with | [_, _], _ => rfl
  have F3 := fun_mk (st := s_l_price) l3 c3 k3
  have b3 := F3.binds (ps := ["_law_row"]) fun _ _ _ _ _ _ us hl => match us, hl with | [_], _ => rfl
  have F4 := fun_mk (st := s_l_prices) l4 c4 k4
  have b4 := F4.binds (ps := ["_law_row"]) fun _ _ _ _ _ _ us hl => match us, hl with | [_], _ => rfl
  have F5 := fun_mk (st := s_is_price) l5 c5 k5
  have b5 := F5.binds (ps := ["number"]) fun _ _ _ _ _ _ us hl => match us, hl with | [_], _ => rfl
  have F6 := fun_mk (st := s_Prices_init) l6 c6 k6
  have b6 := F6.binds (ps := ["self", "effects"]) fun _ _ _ _ _ _ us hl => match us, hl with | [_, _], _ => rfl
  have F7 := fun_mk (st := s_l_call) l7 c7 k7
  have b7 := F7.binds (ps := ["_law_row", "_law_keys"]) fun _ _ _ _ _ _ us hl => match us, hl with | [_, _], _ => rfl
  have F8 := fun_mk (st := s_l_calls) l8 c8 k8
  have b8 := F8.binds (ps := ["_law_row", "_law_most"]) fun _ _ _ _ _ _ us hl => match us, hl with | [_, _], _ => rfl
  have F9 := fun_mk (st := s_l_refused) l9 c9 k9
  have b9 := F9.binds (ps := ["_law_effects"]) fun _ _ _ _ _ _ us hl => match us, hl with | [_], _ => rfl
  have F10 := fun_mk (st := s_l_unknown) l10 c10 k10
  have b10 := F10.binds (ps := ["_law_call_here", "_law_first", "_law_second"]) fun _ _ _ _ _ _ us hl => match us, hl with | [_, _, _], _ => rfl
  have F11 := fun_mk (st := s_prices_of) l11 c11 k11
  have b11 := F11.binds (ps := ["prices", "call"]) fun _ _ _ _ _ _ us hl => match us, hl with | [_, _], _ => rfl
  have F12 := fun_mk (st := s_change_cost) l12 c12 k12
  have b12 := F12.binds (ps := ["prices", "first", "second"]) fun _ _ _ _ _ _ us hl => match us, hl with | [_, _, _], _ => rfl
  have F13 := fun_mk (st := s_undo_cost) l13 c13 k13
  have b13 := F13.binds (ps := ["prices", "call"]) fun _ _ _ _ _ _ us hl => match us, hl with | [_, _], _ => rfl
  have F14 := fun_mk (st := s_do_cost) l14 c14 k14
  have b14 := F14.binds (ps := ["prices", "call"]) fun _ _ _ _ _ _ us hl => match us, hl with | [_, _], _ => rfl
  have F15 := fun_mk (st := s_l_change) l15 c15 k15
  have b15 := F15.binds (ps := ["_law_prices_here", "_law_first", "_law_second"]) fun _ _ _ _ _ _ us hl => match us, hl with | [_, _, _], _ => rfl
  have F16 := fun_mk (st := s_law) l16 c16 k16
  have b16 := F16.binds (ps := ["_law_script"]) fun _ _ _ _ _ _ us hl => match us, hl with | [_], _ => rfl
  have Fx0 := fun_mk (st := sx_InvalidPrices) lx0 cx0 kx0
  have bx0 := Fx0.binds (ps := ["self", "name"]) fun _ _ _ _ _ _ us hl => match us, hl with | [_, _], _ => rfl
  have ox0 : OexC K Cx0 := ⟨⟨_, _, _, _, _, _, _, _, _, _, _, _, _, _, _, Lx0, rx0⟩, sax0, eCx0, tCx0, kCx0⟩
  have Ex0 : DL.E1 K mg "InvalidPrices" "name" Cx0 fx0 _ "name" := ⟨ox0, PySem.W.mg_of X G wx0, ax0, tx0, bx0, nox0, ⟨gax0, ggx0, eCx0, hCx0⟩, fun P w base => init1 Fx0 rfl scx_InvalidPrices ox0 nox0 (Or.inl rfl) (Or.inl rfl) (by decide) (by decide)⟩
  have Fx1 := fun_mk (st := sx_UnknownEffect) lx1 cx1 kx1
  have bx1 := Fx1.binds (ps := ["self", "name"]) fun _ _ _ _ _ _ us hl => match us, hl with | [_, _], _ => rfl
  have ox1 : OexC K Cx1 := ⟨⟨_, _, _, _, _, _, _, _, _, _, _, _, _, _, _, Lx1, rx1⟩, sax1, eCx1, tCx1, kCx1⟩
  have Ex1 : DL.E1 K mg "UnknownEffect" "name" Cx1 fx1 _ "name" := ⟨ox1, PySem.W.mg_of X G wx1, ax1, tx1, bx1, nox1, ⟨gax1, ggx1, eCx1, hCx1⟩, fun P w base => init1 Fx1 rfl scx_UnknownEffect ox1 nox1 (Or.inl rfl) (Or.inl rfl) (by decide) (by decide)⟩
  let T : Tx K mg := ⟨_, _, ⟨F0, PySem.W.mg_of X G a0, b0⟩, _, _, ⟨F1, PySem.W.mg_of X G a1, b1⟩, _, _, ⟨F2, PySem.W.mg_of X G a2, b2⟩, _, _, ⟨F3, PySem.W.mg_of X G a3, b3⟩, _, _, ⟨F4, PySem.W.mg_of X G a4, b4⟩, _, _, ⟨F5, PySem.W.mg_of X G a5, b5⟩, _, _, F6, b6, _, ⟨⟨pg6, hd6, po6, sa6⟩, ⟨mk6, a6, i6, kc6⟩, PySem.W.mg_of X G w6, fun f hf => match f, hf with | _, .head _ => n6_0⟩, _, _, ⟨F7, PySem.W.mg_of X G a7, b7⟩, _, _, ⟨F8, PySem.W.mg_of X G a8, b8⟩, _, _, ⟨F9, PySem.W.mg_of X G a9, b9⟩, _, _, ⟨F10, PySem.W.mg_of X G a10, b10⟩, _, _, ⟨F11, PySem.W.mg_of X G a11, b11⟩, _, _, ⟨F12, PySem.W.mg_of X G a12, b12⟩, _, _, ⟨F13, PySem.W.mg_of X G a13, b13⟩, _, _, ⟨F14, PySem.W.mg_of X G a14, b14⟩, _, _, ⟨F15, PySem.W.mg_of X G a15, b15⟩, _, _, ⟨F16, PySem.W.mg_of X G a16, b16⟩, _, _, _, Ex0, exm_self eCx0 iCx0 tCx0 sCx0, _, _, _, Ex1, exm_self eCx1 iCx1 tCx1 sCx1, _, PySem.W.mg_of X G wn0, ⟨_, PySem.W.mg_of X G v0⟩, PySem.W.mg_none_of X G z0, PySem.W.mg_none_of X G z1, PySem.W.mg_none_of X G z2, PySem.W.mg_none_of X G z3, PySem.W.mg_none_of X G z4, PySem.W.mg_none_of X G z5, PySem.W.mg_none_of X G z6, PySem.W.mg_none_of X G z7, PySem.W.mg_none_of X G z8, PySem.W.mg_none_of X G z9⟩
  exact ⟨_, fun s v => .of_eq rfl, fun base _ _ => ok_law T⟩
end K30
open PySem PySem.W PyProof.Rows
set_option maxHeartbeats 0 in
theorem PySem.Challenge.cw_retroact_k30_prices_of_deeds_holds : PySem.Challenge.rw_retroact_k30_prices_of_deeds.Holds := by
  w_on; o_law; k_head; (case hw => w_witness2)
  k_fill
  refine L2.walk_of (l := PySem.Challenge.rw_retroact_k30_prices_of_deeds) (n := 63) (k := 6) (x := "_law_script") (CX := fun _ => L2.CX0) (sp := fun w => DL.spD _ 1 DL.sdLaw) rfl (by decide) rfl ⟨rfl, by decide, by decide⟩ (fun w h Y => PySem.W.kIn_of Y) ?F (fun _ _ a ns hl _ hS => DL.law_sp hl hS) (fun _ _ _ _ _ h => h)
  case F =>
    intro w mg fa h KX G hmg
    refine' K30.all_mk KX G hmg ?a0 ?l0 ?c0 ?k0 ?a1 ?l1 ?c1 ?k1 ?a2 ?l2 ?c2 ?k2 ?a3 ?l3 ?c3 ?k3 ?a4 ?l4 ?c4 ?k4 ?a5 ?l5 ?c5 ?k5 ?w6 ?a6 ?i6 ?l6 ?c6 ?k6 ?pg6 ?hd6 ?po6 ?sa6 ?mk6 ?kc6 ?n6_0 ?a7 ?l7 ?c7 ?k7 ?a8 ?l8 ?c8 ?k8 ?a9 ?l9 ?c9 ?k9 ?a10 ?l10 ?c10 ?k10 ?a11 ?l11 ?c11 ?k11 ?a12 ?l12 ?c12 ?k12 ?a13 ?l13 ?c13 ?k13 ?a14 ?l14 ?c14 ?k14 ?a15 ?l15 ?c15 ?k15 ?a16 ?l16 ?c16 ?k16 ?wx0 ?Lx0 ?rx0 ?sax0 ?gax0 ?ggx0 ?nox0 ?ax0 ?tx0 ?lx0 ?cx0 ?kx0 ?kCx0 ?eCx0 ?tCx0 ?hCx0 ?iCx0 ?sCx0 ?wx1 ?Lx1 ?rx1 ?sax1 ?gax1 ?ggx1 ?nox1 ?ax1 ?tx1 ?lx1 ?cx1 ?kx1 ?kCx1 ?eCx1 ?tCx1 ?hCx1 ?iCx1 ?sCx1 ?wn0 ?v0 ?z0 ?z1 ?z2 ?z3 ?z4 ?z5 ?z6 ?z7 ?z8 ?z9
    (case a0 => k_is); (case l0 => k_is); (case c0 => k_is); (case k0 => k_is); (case a1 => k_is); (case l1 => k_is); (case c1 => k_is); (case k1 => k_is); (case a2 => k_is); (case l2 => k_is); (case c2 => k_is); (case k2 => k_is); (case a3 => k_is); (case l3 => k_is); (case c3 => k_is); (case k3 => k_is); (case a4 => k_is); (case l4 => k_is); (case c4 => k_is); (case k4 => k_is); (case a5 => k_is); (case l5 => k_is); (case c5 => k_is); (case k5 => k_is); (case w6 => k_is); (case a6 => k_is); (case i6 => k_is); (case l6 => k_is); (case c6 => k_is); (case k6 => k_is); (case pg6 => k_is); (case hd6 => k_is); (case po6 => k_is); (case sa6 => k_is); (case mk6 => k_is); (case kc6 => k_is); (case n6_0 => k_is); (case a7 => k_is); (case l7 => k_is); (case c7 => k_is); (case k7 => k_is); (case a8 => k_is); (case l8 => k_is); (case c8 => k_is); (case k8 => k_is); (case a9 => k_is); (case l9 => k_is); (case c9 => k_is); (case k9 => k_is); (case a10 => k_is); (case l10 => k_is); (case c10 => k_is); (case k10 => k_is); (case a11 => k_is); (case l11 => k_is); (case c11 => k_is); (case k11 => k_is); (case a12 => k_is); (case l12 => k_is); (case c12 => k_is); (case k12 => k_is); (case a13 => k_is); (case l13 => k_is); (case c13 => k_is); (case k13 => k_is); (case a14 => k_is); (case l14 => k_is); (case c14 => k_is); (case k14 => k_is); (case a15 => k_is); (case l15 => k_is); (case c15 => k_is); (case k15 => k_is); (case a16 => k_is); (case l16 => k_is); (case c16 => k_is); (case k16 => k_is); (case wx0 => k_is); (case Lx0 => k_is); (case rx0 => decide +kernel); (case sax0 => k_is); (case gax0 => k_is); (case ggx0 => k_is); (case nox0 => k_is); (case ax0 => k_is); (case tx0 => k_is); (case lx0 => k_is); (case cx0 => k_is); (case kx0 => k_is); (case kCx0 => k_is); (case eCx0 => k_is); (case tCx0 => k_is); (case hCx0 => k_is); (case iCx0 => k_is); (case sCx0 => first | rfl | k_is); (case wx1 => k_is); (case Lx1 => k_is); (case rx1 => decide +kernel); (case sax1 => k_is); (case gax1 => k_is); (case ggx1 => k_is); (case nox1 => k_is); (case ax1 => k_is); (case tx1 => k_is); (case lx1 => k_is); (case cx1 => k_is); (case kx1 => k_is); (case kCx1 => k_is); (case eCx1 => k_is); (case tCx1 => k_is); (case hCx1 => k_is); (case iCx1 => k_is); (case sCx1 => first | rfl | k_is); (case wn0 => k_is); (case v0 => k_is); (case z0 => k_is); (case z1 => k_is); (case z2 => k_is); (case z3 => k_is); (case z4 => k_is); (case z5 => k_is); (case z6 => k_is); (case z7 => k_is); (case z8 => k_is); (case z9 => k_is)
