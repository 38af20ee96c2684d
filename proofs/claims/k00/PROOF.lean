import PyProof.Rows.All
import Wide.All
import OpenK.AllK
import Wide.FinOn
import HandS.ForMost
import HandS.Deep
import HandS.Conv
import HandS.Wide
import KE.SortData
import KE.SortLaws
import HandS.More
import HandS.RevTup
import HandS.IsInst
import HandS.Exc
import HandS.ExcOwn
import HandS.CallSlots
import HandS.ExcInit
import HandS.ExcField
import HandS.WordsExc
import HandS.DeepEq
import HandS.Zip
import HandS.CallLocal
import HandS.DictComp
import HandS.Style
import HandS.RaiseMore
import PyProof.StrBlock2
import HandS.HotCalls
import HandS.ExcInitHot
import PySem.Challenge.RW_retroact_k00_tokens_of_a_line
set_option Elab.async false
set_option linter.all false
set_option maxRecDepth 100000
set_option maxHeartbeats 4000000
/-! DL: readings over data, without the heap. Part a: data, what stands for it, worlds. -/
namespace DL
open PySem PySem.Spec PyProof.Rows L2

abbrev Frg := PySem.W.Frag
abbrev Sg := L2.St
/-- data -/
inductive D where
  | non | bl (b : Bool) | int (i : Int) | str (x : Str)
  | tup (ds : List D) | lst (ds : List D)
  | dic (ks : List Key) (ds : List D) | obj (C : Addr) (ns : List Str) (ds : List D)
  | dit (ks : List (List Key)) (ds : List D)
  | scr (ds : List D)
  | kon (a : Addr)
  deriving Inhabited

/-- a list that stays as it is -/
def LsR (Z : Addr → Prop) (H : Hp) (a : Addr) (vs : List V) : Prop := (Z a ∧ H a = some (.lst vs)) ∨ ∃ o, H a = some (.frz o (.lst vs))
/-- .., it may be an object of the written part (the script) -/
def LsS (K : Frg) (Z : Addr → Prop) (H : Hp) (a : Addr) (vs : List V) : Prop := LsR Z H a vs ∨
    ∃ (o : Obj) (its : Array Value) (n : Nat), K.lookup a = some o ∧ o.cls = .type "list" ∧ o.dict = none ∧ o.data = .seq its n ∧ its.size ≤ sizeLine ∧ Vals vs its.toList
theorem LsR.rd {Z : Addr → Prop} {H : Hp} {a : Addr} {vs : List V} (h : LsR Z H a vs) : Rd H a (.lst vs) := by
  rcases h with ⟨_, h⟩ | ⟨o, h⟩
  · exact .inl h
  · exact .inr ⟨o, h⟩
theorem LsR.sq {K : Frg} {Z : Addr → Prop} {H : Hp} {a : Addr} {vs : List V} (h : LsR Z H a vs) : SqL K H a vs := .inl h.rd
theorem LsS.sq {K : Frg} {Z : Addr → Prop} {H : Hp} {a : Addr} {vs : List V} (h : LsS K Z H a vs) : SqL K H a vs := by
  rcases h with h | h
  · exact h.sq
  · exact .inr h

mutual
inductive Rep (K : Frg) (Z : Addr → Prop) (H : Hp) : V → D → Prop
  | non : Rep K Z H .non .non
  | bl (b : Bool) : Rep K Z H (.bl b) (.bl b)
  | int (i : Int) : Rep K Z H (.int i) (.int i)
  | str (x : Str) : Rep K Z H (.str x) (.str x)
  | tup {a : Addr} {vs : List V} {ds : List D} : SqT K H a vs → Reps K Z H vs ds → Rep K Z H (.ref a) (.tup ds)
  | lst {a : Addr} {vs : List V} {ds : List D} : LsR Z H a vs → Reps K Z H vs ds → Rep K Z H (.ref a) (.lst ds)
  | scr {a : Addr} {vs : List V} {ds : List D} : LsS K Z H a vs → Reps K Z H vs ds → Rep K Z H (.ref a) (.scr ds)
  | kon (a : Addr) : Rep K Z H (.ref a) (.kon a)
  | dic {a : Addr} {kvs : List (Key × V)} {ks : List Key} {ds : List D} : Z a → H a = some (.dK kvs) → kvs.map (·.1) = ks → Reps K Z H (kvs.map (·.2)) ds → Rep K Z H (.ref a) (.dic ks ds)
  | dit {a : Addr} {kvs : List (List Key × V)} {ks : List (List Key)} {ds : List D} : Z a → H a = some (.dT kvs) → kvs.map (·.1) = ks → Reps K Z H (kvs.map (·.2)) ds → Rep K Z H (.ref a) (.dit ks ds)
  | obj {a C dx : Addr} {fs : List (Str × V)} {ns : List Str} {ds : List D} : Z a → H a = some (.ins C dx fs) → fs.map (·.1) = ns → Reps K Z H (fs.map (·.2)) ds → Rep K Z H (.ref a) (.obj C ns ds)
inductive Reps (K : Frg) (Z : Addr → Prop) (H : Hp) : List V → List D → Prop
  | nil : Reps K Z H [] []
  | cons {v : V} {vs : List V} {d : D} {ds : List D} : Rep K Z H v d → Reps K Z H vs ds → Reps K Z H (v :: vs) (d :: ds)
end

/-- the world goes on: what is frozen stays, tuples stay -/
structure Stp (Z : Addr → Prop) (H : Hp) (Z' : Addr → Prop) (H' : Hp) : Prop where
  zz : ∀ a, Z a → Z' a
  ke : ∀ a, Z a → H' a = H a
  tu : ∀ a xs, H a = some (.tup xs) → H' a = some (.tup xs)
  fz : ∀ a o u, H a = some (.frz o u) → H' a = some (.frz o u)
theorem Stp.refl (Z : Addr → Prop) (H : Hp) : Stp Z H Z H := ⟨fun _ h => h, fun _ _ => rfl, fun _ _ h => h, fun _ _ _ h => h⟩
theorem Stp.trans {Z1 Z2 Z3 : Addr → Prop} {H1 H2 H3 : Hp} (a : Stp Z1 H1 Z2 H2) (b : Stp Z2 H2 Z3 H3) : Stp Z1 H1 Z3 H3 :=
  ⟨fun x h => b.zz x (a.zz x h), fun x h => (b.ke x (a.zz x h)).trans (a.ke x h), fun x xs h => b.tu x xs (a.tu x xs h), fun x o u h => b.fz x o u (a.fz x o u h)⟩

section
variable {K : Frg} {Z Z' : Addr → Prop} {H H' : Hp}
theorem LsR.mono (st : Stp Z H Z' H') {a : Addr} {vs : List V} (h : LsR Z H a vs) : LsR Z' H' a vs := by
  rcases h with ⟨z, h⟩ | ⟨o, h⟩
  · exact .inl ⟨st.zz a z, (st.ke a z).trans h⟩
  · exact .inr ⟨o, st.fz _ _ _ h⟩
theorem LsS.mono (st : Stp Z H Z' H') {a : Addr} {vs : List V} (h : LsS K Z H a vs) : LsS K Z' H' a vs := by
  rcases h with h | h
  · exact .inl (h.mono st)
  · exact .inr h
theorem sqT_mono (st : Stp Z H Z' H') {a : Addr} {vs : List V} (h : SqT K H a vs) : SqT K H' a vs := by
  rcases h with (h | ⟨o, h⟩) | h
  · exact .inl (.inl (st.tu _ _ h))
  · exact .inl (.inr ⟨o, st.fz _ _ _ h⟩)
  · exact .inr h
mutual
theorem Rep.mono (st : Stp Z H Z' H') : ∀ {v : V} {d : D}, Rep K Z H v d → Rep K Z' H' v d
  | _, _, .non => .non
  | _, _, .bl b => .bl b
  | _, _, .int i => .int i
  | _, _, .str x => .str x
  | _, _, .tup h hs => .tup (sqT_mono st h) (Reps.mono st hs)
  | _, _, .lst h hs => .lst (h.mono st) (Reps.mono st hs)
  | _, _, .scr h hs => .scr (h.mono st) (Reps.mono st hs)
  | _, _, .kon a => .kon a
  | _, _, .dic z h e hs => .dic (st.zz _ z) ((st.ke _ z).trans h) e (Reps.mono st hs)
  | _, _, .dit z h e hs => .dit (st.zz _ z) ((st.ke _ z).trans h) e (Reps.mono st hs)
  | _, _, .obj z h e hs => .obj (st.zz _ z) ((st.ke _ z).trans h) e (Reps.mono st hs)
theorem Reps.mono (st : Stp Z H Z' H') : ∀ {vs : List V} {ds : List D}, Reps K Z H vs ds → Reps K Z' H' vs ds
  | _, _, .nil => .nil
  | _, _, .cons h hs => .cons (Rep.mono st h) (Reps.mono st hs)
end
theorem Reps.length : ∀ {vs : List V} {ds : List D}, Reps K Z H vs ds → vs.length = ds.length
  | _, _, .nil => rfl
  | _, _, .cons _ hs => by rw [List.length_cons, List.length_cons, Reps.length hs]
theorem Reps.get : ∀ {vs : List V} {ds : List D} {i : Nat} {d : D}, Reps K Z H vs ds → ds[i]? = some d → ∃ v, vs[i]? = some v ∧ Rep K Z H v d
  | _, _, _, _, .nil, e => by simp at e
  | _, _, 0, _, .cons h _, e => by simp at e; subst e; exact ⟨_, rfl, h⟩
  | _, _, i + 1, _, .cons _ hs, e => by
    obtain ⟨v, e1, e2⟩ := Reps.get (i := i) hs (by simpa using e)
    exact ⟨v, by simpa using e1, e2⟩
theorem Reps.getv : ∀ {vs : List V} {ds : List D} {i : Nat} {v : V}, Reps K Z H vs ds → vs[i]? = some v → ∃ d, ds[i]? = some d ∧ Rep K Z H v d
  | _, _, _, _, .nil, e => by simp at e
  | _, _, 0, _, .cons h _, e => by simp at e; subst e; exact ⟨_, rfl, h⟩
  | _, _, i + 1, _, .cons _ hs, e => by
    obtain ⟨v, e1, e2⟩ := Reps.getv (i := i) hs (by simpa using e)
    exact ⟨v, by simpa using e1, e2⟩
theorem Reps.append : ∀ {vs ws : List V} {ds es : List D}, Reps K Z H vs ds → Reps K Z H ws es → Reps K Z H (vs ++ ws) (ds ++ es)
  | _, _, _, _, .nil, r => r
  | _, _, _, _, .cons h hs, r => .cons h (Reps.append hs r)
theorem Reps.one {v : V} {d : D} (h : Rep K Z H v d) : Reps K Z H [v] [d] := .cons h .nil
theorem Reps.take : ∀ {vs : List V} {ds : List D} (n : Nat), Reps K Z H vs ds → Reps K Z H (vs.take n) (ds.take n)
  | _, _, 0, _ => .nil
  | _, _, _ + 1, .nil => .nil
  | _, _, n + 1, .cons h hs => .cons h (Reps.take n hs)
theorem Reps.drop : ∀ {vs : List V} {ds : List D} (n : Nat), Reps K Z H vs ds → Reps K Z H (vs.drop n) (ds.drop n)
  | _, _, 0, r => r
  | _, _, _ + 1, .nil => .nil
  | _, _, n + 1, .cons _ hs => Reps.drop n hs
theorem Reps.set : ∀ {vs : List V} {ds : List D} (i : Nat) {v : V} {d : D}, Reps K Z H vs ds → Rep K Z H v d → Reps K Z H (vs.set i v) (ds.set i d)
  | _, _, _, _, _, .nil, _ => .nil
  | _, _, 0, _, _, .cons _ hs, r => .cons r hs
  | _, _, i + 1, _, _, .cons h hs, r => .cons h (Reps.set i hs r)
theorem Reps.dropLast {vs : List V} {ds : List D} (h : Reps K Z H vs ds) : Reps K Z H vs.dropLast ds.dropLast := by
  rw [List.dropLast_eq_take, List.dropLast_eq_take, h.length]
  exact h.take _
theorem Reps.reverse : ∀ {vs : List V} {ds : List D}, Reps K Z H vs ds → Reps K Z H vs.reverse ds.reverse
  | _, _, .nil => .nil
  | _, _, .cons h hs => by
    rw [List.reverse_cons, List.reverse_cons]
    exact (Reps.reverse hs).append (Reps.one h)
theorem Reps.eraseIdx : ∀ {vs : List V} {ds : List D} (i : Nat), Reps K Z H vs ds → Reps K Z H (vs.eraseIdx i) (ds.eraseIdx i)
  | _, _, _, .nil => .nil
  | _, _, 0, .cons _ hs => hs
  | _, _, i + 1, .cons h hs => .cons h (Reps.eraseIdx i hs)
theorem Reps.insertIdx {vs : List V} {ds : List D} (i : Nat) {v : V} {d : D} (h : Reps K Z H vs ds) (r : Rep K Z H v d) : Reps K Z H (vs.take i ++ v :: vs.drop i) (ds.take i ++ d :: ds.drop i) :=
  (h.take i).append (.cons r (h.drop i))
end

/-- what one owns: a tree of objects that nobody else reaches -/
inductive T where
  | fr (d : D) | lst (ds : List D) | dic (ks : List Key) (ds : List D) | obj (C : Addr) (ns : List Str) (ts : List T)
  deriving Inhabited
mutual
def T.fz : T → D
  | .fr d => d
  | .lst ds => .lst ds
  | .dic ks ds => .dic ks ds
  | .obj C ns ts => .obj C ns (T.fzs ts)
def T.fzs : List T → List D
  | [] => []
  | t :: ts => t.fz :: T.fzs ts
end
mutual
inductive TRep (K : Frg) (Z : Addr → Prop) (H : Hp) : V → T → List Addr → Prop
  | fr {v : V} {d : D} : Rep K Z H v d → TRep K Z H v (.fr d) []
  | lst {a : Addr} {vs : List V} {ds : List D} : H a = some (.lst vs) → Reps K Z H vs ds → TRep K Z H (.ref a) (.lst ds) [a]
  | dic {a : Addr} {kvs : List (Key × V)} {ks : List Key} {ds : List D} : H a = some (.dK kvs) → kvs.map (·.1) = ks → Reps K Z H (kvs.map (·.2)) ds → TRep K Z H (.ref a) (.dic ks ds) [a]
  | obj {a C dx : Addr} {fs : List (Str × V)} {ns : List Str} {ts : List T} {F : List Addr} : H a = some (.ins C dx fs) → fs.map (·.1) = ns → TReps K Z H (fs.map (·.2)) ts F → TRep K Z H (.ref a) (.obj C ns ts) (a :: F)
inductive TReps (K : Frg) (Z : Addr → Prop) (H : Hp) : List V → List T → List Addr → Prop
  | nil : TReps K Z H [] [] []
  | cons {v : V} {vs : List V} {t : T} {ts : List T} {F G : List Addr} : TRep K Z H v t F → TReps K Z H vs ts G → TReps K Z H (v :: vs) (t :: ts) (F ++ G)
end
/-- an object that may be owned -/
def MutK : HO → Prop
  | .lst _ => True
  | .dK _ => True
  | .dT _ => True
  | .ins _ _ _ => True
  | _ => False
section
variable {K : Frg} {Z Z' : Addr → Prop} {H H' : Hp}
mutual
theorem TRep.mono (st : Stp Z H Z' H') : ∀ {v : V} {t : T} {F : List Addr}, TRep K Z H v t F → (∀ a ∈ F, H' a = H a) → TRep K Z' H' v t F
  | _, _, _, .fr h, _ => .fr (h.mono st)
  | _, _, _, .lst h hs, k => .lst ((k _ (by simp)).trans h) (hs.mono st)
  | _, _, _, .dic h e hs, k => .dic ((k _ (by simp)).trans h) e (hs.mono st)
  | _, _, _, .obj h e hs, k => .obj ((k _ (by simp)).trans h) e (TReps.mono st hs fun a ha => k a (by simp [ha]))
theorem TReps.mono (st : Stp Z H Z' H') : ∀ {vs : List V} {ts : List T} {F : List Addr}, TReps K Z H vs ts F → (∀ a ∈ F, H' a = H a) → TReps K Z' H' vs ts F
  | _, _, _, .nil, _ => .nil
  | _, _, _, .cons h hs, k => .cons (TRep.mono st h fun a ha => k a (by simp [ha])) (TReps.mono st hs fun a ha => k a (by simp [ha]))
end
mutual
theorem TRep.kind : ∀ {v : V} {t : T} {F : List Addr}, TRep K Z H v t F → ∀ a ∈ F, ∃ o, H a = some o ∧ MutK o
  | _, _, _, .fr _, a, ha => by cases ha
  | _, _, _, .lst h _, a, ha => by
    have e := List.mem_singleton.mp ha
    subst e
    exact ⟨_, h, trivial⟩
  | _, _, _, .dic h _ _, a, ha => by
    have e := List.mem_singleton.mp ha
    subst e
    exact ⟨_, h, trivial⟩
  | _, _, _, .obj h _ hs, a, ha => by
    rcases List.mem_cons.mp ha with e | ha
    · subst e
      exact ⟨_, h, trivial⟩
    · exact TReps.kind hs a ha
theorem TReps.kind : ∀ {vs : List V} {ts : List T} {F : List Addr}, TReps K Z H vs ts F → ∀ a ∈ F, ∃ o, H a = some o ∧ MutK o
  | _, _, _, .nil, a, ha => by cases ha
  | _, _, _, .cons h hs, a, ha => by
    rcases List.mem_append.mp ha with ha | ha
    · exact TRep.kind h a ha
    · exact TReps.kind hs a ha
end
mutual
/-- what is owned is frozen -/
theorem TRep.froze : ∀ {v : V} {t : T} {F : List Addr}, TRep K Z H v t F → (∀ a, Z a → Z' a) → (∀ a ∈ F, Z' a) → Rep K Z' H v t.fz
  | _, _, _, .fr h, zz, _ => h.mono ⟨zz, fun _ _ => rfl, fun _ _ h => h, fun _ _ _ h => h⟩
  | _, _, _, .lst h hs, zz, zf => .lst (.inl ⟨zf _ (by simp), h⟩) (hs.mono ⟨zz, fun _ _ => rfl, fun _ _ h => h, fun _ _ _ h => h⟩)
  | _, _, _, .dic h e hs, zz, zf => .dic (zf _ (by simp)) h e (hs.mono ⟨zz, fun _ _ => rfl, fun _ _ h => h, fun _ _ _ h => h⟩)
  | _, _, _, .obj h e hs, zz, zf => .obj (zf _ (by simp)) h e (TReps.froze hs zz fun a ha => zf a (by simp [ha]))
theorem TReps.froze : ∀ {vs : List V} {ts : List T} {F : List Addr}, TReps K Z H vs ts F → (∀ a, Z a → Z' a) → (∀ a ∈ F, Z' a) → Reps K Z' H vs (T.fzs ts)
  | _, _, _, .nil, _, _ => .nil
  | _, _, _, .cons h hs, zz, zf => .cons (TRep.froze h zz fun a ha => zf a (by simp [ha])) (TReps.froze hs zz fun a ha => zf a (by simp [ha]))
end
theorem Stp.grow (zz : ∀ a, Z a → Z' a) : Stp Z H Z' H := ⟨zz, fun _ _ => rfl, fun _ _ h => h, fun _ _ _ h => h⟩
/-- a new object -/
theorem Stp.new {p : Addr} {o : HO} (zt : ∀ a, Z a → H a ≠ none) (hp : H p = none) : Stp Z H Z (upd H p o) :=
  ⟨fun _ h => h, fun a z => upd_ne fun e => zt a z (e ▸ hp), fun a xs h => by rw [upd_ne (ne_of_none h hp)]; exact h, fun a o u h => by rw [upd_ne (ne_of_none h hp)]; exact h⟩
/-- an owned object is written -/
theorem Stp.put {p : Addr} {o u : HO} (nz : ¬ Z p) (hp : H p = some u) (k : MutK u) : Stp Z H Z (upd H p o) :=
  ⟨fun _ h => h, fun a z => upd_ne fun e => nz (e ▸ z), fun a xs h => by
    rw [upd_ne fun e => by rw [e, hp] at h; cases h; exact k]
    exact h, fun a o u h => by
    rw [upd_ne fun e => by rw [e, hp] at h; cases h; exact k]
    exact h⟩
end

/-- what a node holds: data, or the place of another node -/
inductive Lf where
  | fr (d : D) | rf (a : Addr)
  deriving Inhabited
/-- an object that others may hold, too: its content, flat -/
inductive Nd where
  | lst (ls : List Lf) | dic (ks : List Key) (ls : List Lf) | dit (ks : List (List Key)) (ls : List Lf) | obj (C : Addr) (ns : List Str) (ls : List Lf)
  deriving Inhabited
def LRep (K : Frg) (Z : Addr → Prop) (H : Hp) (v : V) : Lf → Prop
  | .fr d => Rep K Z H v d
  | .rf a => v = .ref a
def LReps (K : Frg) (Z : Addr → Prop) (H : Hp) : List V → List Lf → Prop := Paired (LRep K Z H)
def NRep (K : Frg) (Z : Addr → Prop) (H : Hp) (a : Addr) : Nd → Prop
  | .lst ls => ∃ vs, H a = some (.lst vs) ∧ LReps K Z H vs ls
  | .dic ks ls => ∃ kvs : List (Key × V), H a = some (.dK kvs) ∧ kvs.map (·.1) = ks ∧ LReps K Z H (kvs.map (·.2)) ls
  | .dit ks ls => ∃ kvs : List (List Key × V), H a = some (.dT kvs) ∧ kvs.map (·.1) = ks ∧ LReps K Z H (kvs.map (·.2)) ls
  | .obj C ns ls => ∃ (dx : Addr) (fs : List (Str × V)), H a = some (.ins C dx fs) ∧ fs.map (·.1) = ns ∧ LReps K Z H (fs.map (·.2)) ls
section
variable {K : Frg} {Z Z' : Addr → Prop} {H H' : Hp}
theorem LRep.mono (st : Stp Z H Z' H') {v : V} : ∀ {l : Lf}, LRep K Z H v l → LRep K Z' H' v l
  | .fr d, h => Rep.mono st h
  | .rf a, h => h
theorem LReps.mono (st : Stp Z H Z' H') {vs : List V} {ls : List Lf} (h : LReps K Z H vs ls) : LReps K Z' H' vs ls := Paired.mapP h fun _ _ q => LRep.mono st q
theorem NRep.mono (st : Stp Z H Z' H') {a : Addr} (k : H' a = H a) : ∀ {n : Nd}, NRep K Z H a n → NRep K Z' H' a n
  | .lst ls, ⟨vs, h, r⟩ => ⟨vs, k.trans h, r.mono st⟩
  | .dic ks ls, ⟨kvs, h, e, r⟩ => ⟨kvs, k.trans h, e, r.mono st⟩
  | .dit ks ls, ⟨kvs, h, e, r⟩ => ⟨kvs, k.trans h, e, r.mono st⟩
  | .obj C ns ls, ⟨dx, fs, h, e, r⟩ => ⟨dx, fs, k.trans h, e, r.mono st⟩
theorem NRep.kind {a : Addr} : ∀ {n : Nd}, NRep K Z H a n → ∃ o, H a = some o ∧ MutK o
  | .lst ls, ⟨vs, h, r⟩ => ⟨_, h, trivial⟩
  | .dic ks ls, ⟨kvs, h, e, r⟩ => ⟨_, h, trivial⟩
  | .dit ks ls, ⟨kvs, h, e, r⟩ => ⟨_, h, trivial⟩
  | .obj C ns ls, ⟨dx, fs, h, e, r⟩ => ⟨_, h, trivial⟩
end
/-- a place: nothing known; data; an owned tree; a parameter's tree; the place of a node; a node, one's own or lent (behind the names) -/
inductive S where
  | un | fr (d : D) | ow (t : T) | mu (t : T) | rf (a : Addr) | nw (a : Addr) (n : Nd) | nm (a : Addr) (n : Nd)
  deriving Inhabited
/-- made here -/
def S.isNew : S → Bool
  | .ow _ => true
  | .nw _ _ => true
  | _ => false
/-- lent -/
def S.isMu : S → Bool
  | .mu _ => true
  | .nm _ _ => true
  | _ => false
def SRep (K : Frg) (Z : Addr → Prop) (H : Hp) (o : Option V) (s : S) (F : List Addr) : Prop :=
  match s with
  | .un => F = []
  | .fr d => F = [] ∧ ∃ v, o = some v ∧ Rep K Z H v d
  | .ow t => ∃ v, o = some v ∧ TRep K Z H v t F
  | .mu t => ∃ v, o = some v ∧ TRep K Z H v t F
  | .rf a => F = [] ∧ o = some (.ref a)
  | .nw a n => F = [a] ∧ o = some (.ref a) ∧ NRep K Z H a n
  | .nm a n => F = [a] ∧ o = some (.ref a) ∧ NRep K Z H a n
theorem SRep.kind {K : Frg} {Z : Addr → Prop} {H : Hp} {o : Option V} {s : S} {F : List Addr} (h : SRep K Z H o s F) : ∀ a ∈ F, ∃ o, H a = some o ∧ MutK o := by
  cases s with
  | un => intro a ha; rw [show F = [] from h] at ha; cases ha
  | fr d => intro a ha; rw [h.1] at ha; cases ha
  | ow t => obtain ⟨v, _, h⟩ := h; exact h.kind
  | mu t => obtain ⟨v, _, h⟩ := h; exact h.kind
  | rf a => intro a ha; rw [h.1] at ha; cases ha
  | nw b n =>
    intro a ha; rw [h.1] at ha
    rw [List.mem_singleton.mp ha]; exact h.2.2.kind
  | nm b n =>
    intro a ha; rw [h.1] at ha
    rw [List.mem_singleton.mp ha]; exact h.2.2.kind
theorem SRep.mono {K : Frg} {Z Z' : Addr → Prop} {H H' : Hp} {o : Option V} {s : S} {F : List Addr} (st : Stp Z H Z' H') (h : SRep K Z H o s F) (k : ∀ a ∈ F, H' a = H a) : SRep K Z' H' o s F := by
  cases s with
  | un => exact h
  | fr d => obtain ⟨e, v, e1, r⟩ := h; exact ⟨e, v, e1, r.mono st⟩
  | ow t => obtain ⟨v, e, h⟩ := h; exact ⟨v, e, h.mono st k⟩
  | mu t => obtain ⟨v, e, h⟩ := h; exact ⟨v, e, h.mono st k⟩
  | rf a => exact h
  | nw a n => exact ⟨h.1, h.2.1, h.2.2.mono st (k a (by rw [h.1]; simp))⟩
  | nm a n => exact ⟨h.1, h.2.1, h.2.2.mono st (k a (by rw [h.1]; simp))⟩

abbrev Foot := Nat → List Addr
structure Slots (K : Frg) (Z : Addr → Prop) (H : Hp) (σ : Sg) (E : List S) (F : Foot) : Prop where
  len : σ.length = E.length
  rep : ∀ (i : Nat) s, E[i]? = some s → SRep K Z H (σ.getD i none) s (F i)
  out : ∀ (i : Nat), E.length ≤ i → F i = []
  nd : ∀ i, (F i).Nodup
  dj : ∀ i j a, a ∈ F i → a ∈ F j → i = j

/-- the entry of a def: what stood, the parameters' trees, what was frozen, the arguments; the floor: what was frozen and stood where the innermost try began -/
structure Ctx where
  K : Frg
  H0 : Hp
  Fm : Foot
  Z0 : Addr → Prop
  vs : List V
  fZ : Addr → Prop
  fH : Hp
  n : Nat
structure WdF (C : Ctx) (Z : Addr → Prop) (σ : Sg) (E : List S) (H : Hp) (F : Foot) : Prop where
  sl : Slots C.K Z H σ E F
  nz : ∀ i a, a ∈ F i → ¬ Z a
  own : ∀ (i : Nat) s a, E[i]? = some s → s.isNew = true → a ∈ F i → C.H0 a = none
  mum : ∀ (i : Nat) s a, E[i]? = some s → s.isMu = true → a ∈ F i → a ∈ C.Fm i ∨ C.H0 a = none
  mus : ∀ (i : Nat) t, E[i]? = some (S.mu t) → ∃ v, C.vs[i]? = some v ∧ σ[i]? = some (some v)
  fr : ∀ b o, C.H0 b = some o → (∀ i, b ∉ C.Fm i) → H b = some o
  z0 : ∀ a, C.Z0 a → Z a
  zn : ∀ a, Z a → C.Z0 a ∨ C.H0 a = none
  zt : ∀ a, Z a → H a ≠ none
  kt : ∀ b, C.H0 b ≠ none → H b ≠ none
  fl : Stp C.fZ C.fH Z H
  idn : ∀ (i : Nat) b n, E[i]? = some (S.nm b n) → C.Fm i = [b]
def Wd (C : Ctx) (Z : Addr → Prop) (σ : Sg) (E : List S) (H : Hp) : Prop := ∃ F, WdF C Z σ E H F

section
variable {C : Ctx} {Z Z' : Addr → Prop} {σ : Sg} {E : List S} {H H' : Hp} {F : Foot}
theorem WdF.kind (w : WdF C Z σ E H F) {i : Nat} {a : Addr} (ha : a ∈ F i) : ∃ o, H a = some o ∧ MutK o := by
  by_cases h : i < E.length
  · exact (w.sl.rep i _ (List.getElem?_eq_getElem h)).kind a ha
  · rw [w.sl.out i (by omega)] at ha
    cases ha
/-- footprints are kept, the world goes on -/
theorem WdF.go (w : WdF C Z σ E H F) (st : Stp Z H Z' H') (k : ∀ i, ∀ a ∈ F i, H' a = H a) (nz : ∀ i a, a ∈ F i → ¬ Z' a) (fr : ∀ b o, C.H0 b = some o → (∀ i, b ∉ C.Fm i) → H b = some o → H' b = some o)
    (zn : ∀ a, Z' a → Z a ∨ C.H0 a = none) (zt : ∀ a, Z' a → H' a ≠ none) (kt : ∀ b, H b ≠ none → H' b ≠ none) : WdF C Z' σ E H' F :=
  ⟨⟨w.sl.len, fun i s e => (w.sl.rep i s e).mono st (k i), w.sl.out, w.sl.nd, w.sl.dj⟩, nz, w.own, w.mum, w.mus, fun b o e n => fr b o e n (w.fr b o e n), fun a h => st.zz a (w.z0 a h),
    fun a h => (zn a h).elim (w.zn a) .inr, zt, fun b h => kt b (w.kt b h), w.fl.trans st, w.idn⟩
theorem upd_kt {p : Addr} {o : HO} : ∀ b, H b ≠ none → upd H p o b ≠ none := fun b h => by
  by_cases e : b = p
  · subst e; rw [upd_same]; intro q; cases q
  · rw [upd_ne e]; exact h
theorem WdF.new (w : WdF C Z σ E H F) {p : Addr} {o : HO} (hp : H p = none) : WdF C Z σ E (upd H p o) F :=
  w.go (Stp.new w.zt hp) (fun i a ha => by
      obtain ⟨u, e, _⟩ := w.kind ha
      exact upd_ne (ne_of_none e hp))
    w.nz (fun b u _ _ e => by rw [upd_ne (ne_of_none e hp)]; exact e) (fun a h => .inl h) (fun a z => by
      by_cases e : a = p
      · subst e; rw [upd_same]; intro q; cases q
      · rw [upd_ne e]; exact w.zt a z) upd_kt
theorem Wd.zt (w : Wd C Z σ E H) : ∀ a, Z a → H a ≠ none := let ⟨_, w⟩ := w; w.zt
theorem Wd.len (w : Wd C Z σ E H) : σ.length = E.length := let ⟨_, w⟩ := w; w.sl.len
theorem Wd.new (w : Wd C Z σ E H) {p : Addr} {o : HO} (hp : H p = none) : Wd C Z σ E (upd H p o) := let ⟨F, w⟩ := w; ⟨F, w.new hp⟩
/-- data at a name -/
theorem Wd.get (w : Wd C Z σ E H) {i : Nat} {d : D} (e : E[i]? = some (.fr d)) : ∃ v, σ[i]? = some (some v) ∧ Rep C.K Z H v d := by
  obtain ⟨F, w⟩ := w
  obtain ⟨_, v, e1, r⟩ := w.sl.rep i _ e
  refine ⟨v, ?_, r⟩
  rw [List.getD_eq_getElem?_getD] at e1
  cases q : σ[i]? with
  | none => rw [q] at e1; cases e1
  | some x => rw [q] at e1; exact congrArg some e1
theorem getD_some {i : Nat} {v : V} (e : σ.getD i none = some v) : σ[i]? = some (some v) := by
  rw [List.getD_eq_getElem?_getD] at e
  cases q : σ[i]? with
  | none => rw [q] at e; cases e
  | some x => rw [q] at e; exact congrArg some e
theorem of_getD {i : Nat} {v : V} (e : σ[i]? = some (some v)) : σ.getD i none = some v := by
  rw [List.getD_eq_getElem?_getD, e]
  rfl
/-- an owned tree at a name is frozen -/
theorem Wd.freeze (w : Wd C Z σ E H) {i : Nat} {t : T} (e : E[i]? = some (.ow t)) : ∃ v Z', σ[i]? = some (some v) ∧ Stp Z H Z' H ∧ Wd C Z' σ (E.set i (.fr t.fz)) H ∧ Rep C.K Z' H v t.fz := by
  obtain ⟨F, w⟩ := w
  obtain ⟨v, e1, r⟩ := w.sl.rep i _ e
  have hi : i < E.length := (List.getElem?_eq_some_iff.mp e).1
  have zz : ∀ a, Z a → Z a ∨ a ∈ F i := fun a h => .inl h
  have rz := r.froze (Z' := fun a => Z a ∨ a ∈ F i) zz fun a h => .inr h
  refine ⟨v, fun a => Z a ∨ a ∈ F i, getD_some e1, Stp.grow zz, ⟨fun j => if j = i then [] else F j, ⟨⟨?_, fun j s ej => ?_, fun j hj => ?_, fun j => ?_, fun j k a h1 h2 => ?_⟩, fun j a h => ?_, fun j u a ej nu ha => ?_, fun j u a ej nu ha => ?_, fun j u ej => ?_, w.fr, fun a h => .inl (w.z0 a h), fun a h => ?_, fun a h => ?_, w.kt, w.fl.trans (Stp.grow zz), fun j b n ej => ?_⟩⟩, rz⟩
  · rw [List.length_set]; exact w.sl.len
  · by_cases q : j = i
    · subst q
      rw [List.getElem?_set_self hi] at ej
      cases ej
      rw [if_pos rfl]
      exact ⟨rfl, v, e1, rz⟩
    · rw [List.getElem?_set_ne (Ne.symm q)] at ej
      rw [if_neg q]
      exact (w.sl.rep j s ej).mono (Stp.grow zz) fun _ _ => rfl
  · rw [List.length_set] at hj
    rw [if_neg (by omega)]
    exact w.sl.out j hj
  · by_cases q : j = i
    · rw [if_pos q]; exact List.nodup_nil
    · rw [if_neg q]; exact w.sl.nd j
  · by_cases q : j = i
    · rw [if_pos q] at h1; cases h1
    · by_cases q2 : k = i
      · rw [if_pos q2] at h2; cases h2
      · rw [if_neg q] at h1
        rw [if_neg q2] at h2
        exact w.sl.dj j k a h1 h2
  · by_cases q : j = i
    · rw [if_pos q] at h; cases h
    · rw [if_neg q] at h
      rintro (z | z)
      · exact w.nz j a h z
      · exact q (w.sl.dj j i a h z)
  · by_cases q : j = i
    · rw [if_pos q] at ha; cases ha
    · rw [if_neg q] at ha
      rw [List.getElem?_set_ne (Ne.symm q)] at ej
      exact w.own j u a ej nu ha
  · by_cases q : j = i
    · rw [if_pos q] at ha; cases ha
    · rw [if_neg q] at ha
      rw [List.getElem?_set_ne (Ne.symm q)] at ej
      exact w.mum j u a ej nu ha
  · by_cases q : j = i
    · subst q; rw [List.getElem?_set_self hi] at ej; cases ej
    · rw [List.getElem?_set_ne (Ne.symm q)] at ej
      exact w.mus j u ej
  · rcases h with z | z
    · exact w.zn a z
    · exact .inr (w.own i _ a e rfl z)
  · rcases h with z | z
    · exact w.zt a z
    · obtain ⟨o, q, _⟩ := w.kind z
      rw [q]; intro q; cases q
  · by_cases q : j = i
    · subst q; rw [List.getElem?_set_self hi] at ej; cases ej
    · rw [List.getElem?_set_ne (Ne.symm q)] at ej
      exact w.idn j b n ej
end
end DL
set_option Elab.async false
set_option linter.all false
set_option maxRecDepth 100000
set_option maxHeartbeats 4000000
/-! DL, part b: worlds that go on; judgements; the first rules. -/
namespace DL
open PySem PySem.Spec PyProof.Rows L2

def S.tree? : S → Option T
  | .ow t => some t
  | .mu t => some t
  | _ => none
def S.put (s : S) (t : T) : S := match s with
  | .mu _ => .mu t
  | _ => .ow t
section
variable {C : Ctx} {Z Z' : Addr → Prop} {σ : Sg} {E : List S} {H H' : Hp} {F : Foot}
theorem SRep.tree {K : Frg} {o : Option V} {s : S} {t : T} {G : List Addr} (h : SRep K Z H o s G) (e : s.tree? = some t) : ∃ v, o = some v ∧ TRep K Z H v t G := by
  cases s with
  | un => cases e
  | fr d => cases e
  | ow u => cases e; exact h
  | mu u => cases e; exact h
  | rf a => cases e
  | nw a n => cases e
  | nm a n => cases e
/-- a new tree at a place, footprints F' (others as they were, or less) -/
theorem WdF.put (w : WdF C Z σ E H F) {i : Nat} {s : S} {t t' : T} {v : V} {G : List Addr} (e : E[i]? = some s) (et : s.tree? = some t) (st : Stp Z H Z H') (hv : σ[i]? = some (some v)) (hr : TRep C.K Z H' v t' G)
    (sub : ∀ a ∈ G, a ∈ F i ∨ (H a = none ∧ C.H0 a = none)) (nd : G.Nodup) (k : ∀ j, j ≠ i → ∀ a ∈ F j, H' a = H a) (fr : ∀ b o, C.H0 b = some o → (∀ i, b ∉ C.Fm i) → H b = some o → H' b = some o) (zt : ∀ a, Z a → H' a ≠ none) (kt : ∀ b, H b ≠ none → H' b ≠ none) :
    Wd C Z σ (E.set i (s.put t')) H' := by
  have hi : i < E.length := (List.getElem?_eq_some_iff.mp e).1
  refine ⟨fun j => if j = i then G else F j, ⟨⟨?_, fun j u ej => ?_, fun j hj => ?_, fun j => ?_, fun j l a h1 h2 => ?_⟩, fun j a h => ?_, fun j u a ej nu ha => ?_, fun j u a ej nu ha => ?_, fun j u ej => ?_, fun b o e n => fr b o e n (w.fr b o e n), w.z0, w.zn, zt, fun b h => kt b (w.kt b h), w.fl.trans st, fun j b n ej => ?_⟩⟩
  · rw [List.length_set]; exact w.sl.len
  · by_cases q : j = i
    · subst q
      rw [List.getElem?_set_self hi] at ej
      cases ej
      rw [if_pos rfl]
      have z : ∃ v', σ.getD j none = some v' ∧ TRep C.K Z H' v' t' G := ⟨v, of_getD hv, hr⟩
      cases s <;> exact z
    · rw [List.getElem?_set_ne (Ne.symm q)] at ej
      rw [if_neg q]
      exact (w.sl.rep j u ej).mono st (k j q)
  · rw [List.length_set] at hj
    rw [if_neg (by omega)]
    exact w.sl.out j hj
  · by_cases q : j = i
    · rw [if_pos q]; exact nd
    · rw [if_neg q]; exact w.sl.nd j
  · have no : ∀ l, l ≠ i → a ∈ G → a ∈ F l → False := fun l hl g f => by
      rcases sub a g with z | z
      · exact hl (w.sl.dj l i a f z)
      · obtain ⟨o, q, _⟩ := w.kind f
        rw [z.1] at q; cases q
    by_cases q : j = i
    · by_cases q2 : l = i
      · rw [q, q2]
      · rw [if_pos q] at h1
        rw [if_neg q2] at h2
        exact (no l q2 h1 h2).elim
    · by_cases q2 : l = i
      · rw [if_neg q] at h1
        rw [if_pos q2] at h2
        exact (no j q h2 h1).elim
      · rw [if_neg q] at h1
        rw [if_neg q2] at h2
        exact w.sl.dj j l a h1 h2
  · by_cases q : j = i
    · rw [if_pos q] at h
      rcases sub a h with z | z
      · exact w.nz i a z
      · intro hz; exact w.zt a hz z.1
    · rw [if_neg q] at h
      exact w.nz j a h
  · by_cases q : j = i
    · subst q
      rw [List.getElem?_set_self hi] at ej
      rw [if_pos rfl] at ha
      rcases sub a ha with z | z
      · cases s with
        | un => cases et
        | fr d => cases et
        | ow x => exact w.own j _ a e rfl z
        | mu x => cases ej; cases nu
        | rf a => cases et
        | nw a n => cases et
        | nm a n => cases et
      · exact z.2
    · rw [if_neg q] at ha
      rw [List.getElem?_set_ne (Ne.symm q)] at ej
      exact w.own j u a ej nu ha
  · by_cases q : j = i
    · subst q
      rw [List.getElem?_set_self hi] at ej
      rw [if_pos rfl] at ha
      rcases sub a ha with z | z
      · cases s with
        | un => cases et
        | fr d => cases et
        | ow x => cases ej; cases nu
        | mu x => exact w.mum j _ a e rfl z
        | rf a => cases et
        | nw a n => cases et
        | nm a n => cases et
      · exact .inr z.2
    · rw [if_neg q] at ha
      rw [List.getElem?_set_ne (Ne.symm q)] at ej
      exact w.mum j u a ej nu ha
  · by_cases q : j = i
    · subst q
      rw [List.getElem?_set_self hi] at ej
      cases s with
      | un => cases et
      | fr d => cases et
      | ow x => cases ej
      | mu x => exact w.mus j x e
      | rf a => cases et
      | nw a n => cases et
      | nm a n => cases et
    · rw [List.getElem?_set_ne (Ne.symm q)] at ej
      exact w.mus j u ej
  · by_cases q : j = i
    · subst q
      rw [List.getElem?_set_self hi] at ej
      cases s with
      | un => cases et
      | fr d => cases et
      | ow x => cases ej
      | mu x => cases ej
      | rf a => cases et
      | nw a n => cases et
      | nm a n => cases et
    · rw [List.getElem?_set_ne (Ne.symm q)] at ej
      exact w.idn j b n ej
/-- the last place is dropped -/
theorem WdF.drop {x : Option V} {s : S} (w : WdF C Z (σ ++ [x]) (E ++ [s]) H F) : Wd C Z σ E H := by
  have hl : σ.length = E.length := by
    have q := w.sl.len
    simp at q
    exact q
  have up : ∀ (j : Nat) u, E[j]? = some u → (E ++ [s])[j]? = some u := fun j u e => by
    rw [List.getElem?_append_left (List.getElem?_eq_some_iff.mp e).1]
    exact e
  refine ⟨fun j => if j < E.length then F j else [], ⟨⟨hl, fun j u ej => ?_, fun j hj => ?_, fun j => ?_, fun j l a h1 h2 => ?_⟩, fun j a h => ?_, fun j u a ej nu ha => ?_, fun j u a ej nu ha => ?_, fun j u ej => ?_, w.fr, w.z0, w.zn, w.zt, w.kt, w.fl, fun j b n ej => w.idn j b n (up j _ ej)⟩⟩
  · have hj := (List.getElem?_eq_some_iff.mp ej).1
    rw [if_pos hj]
    have q := w.sl.rep j u (up j u ej)
    rw [List.getD_eq_getElem?_getD, List.getElem?_append_left (by omega), ← List.getD_eq_getElem?_getD] at q
    exact q
  · rw [if_neg (by omega)]
  · split
    · exact w.sl.nd j
    · exact List.nodup_nil
  · split at h1
    · split at h2
      · exact w.sl.dj j l a h1 h2
      · cases h2
    · cases h1
  · split at h
    · exact w.nz j a h
    · cases h
  · split at ha
    · exact w.own j u a (up j _ ej) nu ha
    · cases ha
  · split at ha
    · exact w.mum j u a (up j _ ej) nu ha
    · cases ha
  · obtain ⟨v, e1, e2⟩ := w.mus j u (up j _ ej)
    refine ⟨v, e1, ?_⟩
    have hj := (List.getElem?_eq_some_iff.mp ej).1
    rw [List.getElem?_append_left (by omega)] at e2
    exact e2
/-- the last place moves to place i -/
theorem WdF.move {v : V} {t : T} {i : Nat} (w : WdF C Z (σ ++ [some v]) (E ++ [.ow t]) H F) (hi : i < E.length) (nm : ∀ t, E[i]? ≠ some (.mu t)) : Wd C Z (σ.set i (some v)) (E.set i (.ow t)) H := by
  have hl : σ.length = E.length := by
    have q := w.sl.len
    simp at q
    exact q
  have up : ∀ (j : Nat) u, E[j]? = some u → (E ++ [S.ow t])[j]? = some u := fun j u e => by
    rw [List.getElem?_append_left (List.getElem?_eq_some_iff.mp e).1]
    exact e
  have lastE : (E ++ [S.ow t])[E.length]? = some (.ow t) := by rw [List.getElem?_append_right (Nat.le_refl _), Nat.sub_self]; rfl
  have lastR := w.sl.rep E.length _ lastE
  have gl : (σ ++ [some v]).getD E.length none = some v := by
    rw [List.getD_eq_getElem?_getD, List.getElem?_append_right (by omega), hl, Nat.sub_self]
    rfl
  rw [gl] at lastR
  refine ⟨fun j => if j = i then F E.length else if j < E.length then F j else [], ⟨⟨?_, fun j u ej => ?_, fun j hj => ?_, fun j => ?_, fun j l a h1 h2 => ?_⟩, fun j a h => ?_, fun j u a ej nu ha => ?_, fun j u a ej nu ha => ?_, fun j u ej => ?_, w.fr, w.z0, w.zn, w.zt, w.kt, w.fl, fun j b n ej => ?_⟩⟩
  · rw [List.length_set, List.length_set]; exact hl
  · by_cases q : j = i
    · subst q
      rw [List.getElem?_set_self hi] at ej
      cases ej
      rw [if_pos rfl, List.getD_eq_getElem?_getD, List.getElem?_set_self (by omega)]
      exact lastR
    · rw [List.getElem?_set_ne (Ne.symm q)] at ej
      have hj := (List.getElem?_eq_some_iff.mp ej).1
      rw [if_neg q, if_pos hj]
      have z := w.sl.rep j u (up j u ej)
      rw [List.getD_eq_getElem?_getD, List.getElem?_append_left (by omega)] at z
      rw [List.getD_eq_getElem?_getD, List.getElem?_set_ne (Ne.symm q)]
      exact z
  · rw [List.length_set] at hj
    rw [if_neg (by omega), if_neg (by omega)]
  · split
    · exact w.sl.nd _
    · split
      · exact w.sl.nd j
      · exact List.nodup_nil
  · split at h1
    · split at h2
      · omega
      · split at h2
        · have := w.sl.dj _ _ a h1 h2; omega
        · cases h2
    · split at h1
      · split at h2
        · have := w.sl.dj _ _ a h1 h2; omega
        · split at h2
          · exact w.sl.dj _ _ a h1 h2
          · cases h2
      · cases h1
  · split at h
    · exact w.nz _ a h
    · split at h
      · exact w.nz j a h
      · cases h
  · by_cases q : j = i
    · rw [if_pos q] at ha
      exact w.own E.length _ a lastE rfl ha
    · rw [List.getElem?_set_ne (Ne.symm q)] at ej
      rw [if_neg q] at ha
      split at ha
      · exact w.own j u a (up j _ ej) nu ha
      · cases ha
  · by_cases q : j = i
    · subst q
      rw [List.getElem?_set_self hi] at ej
      cases ej
      cases nu
    · rw [List.getElem?_set_ne (Ne.symm q)] at ej
      rw [if_neg q] at ha
      split at ha
      · exact w.mum j u a (up j _ ej) nu ha
      · cases ha
  · by_cases q : j = i
    · subst q
      rw [List.getElem?_set_self hi] at ej
      cases ej
    · rw [List.getElem?_set_ne (Ne.symm q)] at ej
      obtain ⟨x, e1, e2⟩ := w.mus j u (up j _ ej)
      have hj := (List.getElem?_eq_some_iff.mp ej).1
      rw [List.getElem?_append_left (by omega)] at e2
      exact ⟨x, e1, by rw [List.getElem?_set_ne (Ne.symm q)]; exact e2⟩
  · by_cases q : j = i
    · subst q; rw [List.getElem?_set_self hi] at ej; cases ej
    · rw [List.getElem?_set_ne (Ne.symm q)] at ej
      exact w.idn j b n (up j _ ej)
/-- data is stored at place i -/
theorem WdF.setD {v : V} {d : D} {i : Nat} (w : WdF C Z σ E H F) (r : Rep C.K Z H v d) (hi : i < E.length) (nm : ∀ t, E[i]? ≠ some (.mu t)) : Wd C Z (σ.set i (some v)) (E.set i (.fr d)) H := by
  have hl := w.sl.len
  refine ⟨fun j => if j = i then [] else F j, ⟨⟨?_, fun j u ej => ?_, fun j hj => ?_, fun j => ?_, fun j l a h1 h2 => ?_⟩, fun j a h => ?_, fun j u a ej nu ha => ?_, fun j u a ej nu ha => ?_, fun j u ej => ?_, w.fr, w.z0, w.zn, w.zt, w.kt, w.fl, fun j b n ej => ?_⟩⟩
  · rw [List.length_set, List.length_set]; exact hl
  · by_cases q : j = i
    · subst q
      rw [List.getElem?_set_self hi] at ej
      cases ej
      rw [if_pos rfl]
      refine ⟨rfl, v, ?_, r⟩
      rw [List.getD_eq_getElem?_getD, List.getElem?_set_self (by omega)]
      rfl
    · rw [List.getElem?_set_ne (Ne.symm q)] at ej
      rw [if_neg q, List.getD_eq_getElem?_getD, List.getElem?_set_ne (Ne.symm q), ← List.getD_eq_getElem?_getD]
      exact w.sl.rep j u ej
  · rw [List.length_set] at hj
    rw [if_neg (by omega)]
    exact w.sl.out j hj
  · split
    · exact List.nodup_nil
    · exact w.sl.nd j
  · split at h1
    · cases h1
    · split at h2
      · cases h2
      · exact w.sl.dj j l a h1 h2
  · split at h
    · cases h
    · exact w.nz j a h
  · by_cases q : j = i
    · rw [if_pos q] at ha; cases ha
    · rw [List.getElem?_set_ne (Ne.symm q)] at ej
      rw [if_neg q] at ha
      exact w.own j u a ej nu ha
  · by_cases q : j = i
    · rw [if_pos q] at ha; cases ha
    · rw [List.getElem?_set_ne (Ne.symm q)] at ej
      rw [if_neg q] at ha
      exact w.mum j u a ej nu ha
  · by_cases q : j = i
    · subst q
      rw [List.getElem?_set_self hi] at ej
      cases ej
    · rw [List.getElem?_set_ne (Ne.symm q)] at ej
      obtain ⟨x, e1, e2⟩ := w.mus j u ej
      exact ⟨x, e1, by rw [List.getElem?_set_ne (Ne.symm q)]; exact e2⟩
  · by_cases q : j = i
    · subst q; rw [List.getElem?_set_self hi] at ej; cases ej
    · rw [List.getElem?_set_ne (Ne.symm q)] at ej
      exact w.idn j b n ej
/-- a place is forgotten -/
theorem WdF.forget {i : Nat} {x : Option V} (w : WdF C Z σ E H F) : Wd C Z (σ.set i x) (E.set i .un) H := by
  have hl := w.sl.len
  by_cases hi : i < E.length
  · refine ⟨fun j => if j = i then [] else F j, ⟨⟨?_, fun j u ej => ?_, fun j hj => ?_, fun j => ?_, fun j l a h1 h2 => ?_⟩, fun j a h => ?_, fun j u a ej nu ha => ?_, fun j u a ej nu ha => ?_, fun j u ej => ?_, w.fr, w.z0, w.zn, w.zt, w.kt, w.fl, fun j b n ej => ?_⟩⟩
    · rw [List.length_set, List.length_set]; exact hl
    · by_cases q : j = i
      · subst q
        rw [List.getElem?_set_self hi] at ej
        cases ej
        rw [if_pos rfl]
        exact rfl
      · rw [List.getElem?_set_ne (Ne.symm q)] at ej
        rw [if_neg q, List.getD_eq_getElem?_getD, List.getElem?_set_ne (Ne.symm q), ← List.getD_eq_getElem?_getD]
        exact w.sl.rep j u ej
    · rw [List.length_set] at hj
      rw [if_neg (by omega)]
      exact w.sl.out j hj
    · split
      · exact List.nodup_nil
      · exact w.sl.nd j
    · split at h1
      · cases h1
      · split at h2
        · cases h2
        · exact w.sl.dj j l a h1 h2
    · split at h
      · cases h
      · exact w.nz j a h
    · by_cases q : j = i
      · rw [if_pos q] at ha; cases ha
      · rw [List.getElem?_set_ne (Ne.symm q)] at ej
        rw [if_neg q] at ha
        exact w.own j u a ej nu ha
    · by_cases q : j = i
      · rw [if_pos q] at ha; cases ha
      · rw [List.getElem?_set_ne (Ne.symm q)] at ej
        rw [if_neg q] at ha
        exact w.mum j u a ej nu ha
    · by_cases q : j = i
      · subst q
        rw [List.getElem?_set_self hi] at ej
        cases ej
      · rw [List.getElem?_set_ne (Ne.symm q)] at ej
        obtain ⟨x, e1, e2⟩ := w.mus j u ej
        exact ⟨x, e1, by rw [List.getElem?_set_ne (Ne.symm q)]; exact e2⟩
    · by_cases q : j = i
      · subst q; rw [List.getElem?_set_self hi] at ej; cases ej
      · rw [List.getElem?_set_ne (Ne.symm q)] at ej
        exact w.idn j b n ej
  · rw [List.set_eq_of_length_le (by omega), List.set_eq_of_length_le (by omega)]
    exact ⟨F, w⟩
/-- a new list of one's own, as the last place -/
theorem WdF.pushS (w : WdF C Z σ E H F) {p : Addr} {o : HO} {t : S} (hp : H p = none) (r : SRep C.K Z (upd H p o) (some (.ref p)) t [p]) (hs : t.isMu = false) : Wd C Z (σ ++ [some (.ref p)]) (E ++ [t]) (upd H p o) := by
  have w' := w.new (o := o) hp
  have hl := w.sl.len
  have pF : ∀ i, p ∉ F i := fun i h => by
    obtain ⟨o, e, _⟩ := w.kind h
    rw [hp] at e; cases e
  have pz : ¬ Z p := fun h => w.zt p h hp
  have p0 : C.H0 p = none := Classical.byContradiction fun n => w.kt p n hp
  have lastE : (E ++ [t])[E.length]? = some t := by rw [List.getElem?_append_right (Nat.le_refl _), Nat.sub_self]; rfl
  have low : ∀ (j : Nat) u, (E ++ [t])[j]? = some u → j ≠ E.length → E[j]? = some u ∧ j < E.length := fun j u e q => by
    have h := (List.getElem?_eq_some_iff.mp e).1
    rw [List.length_append] at h
    have h : j < E.length := by
      have : ([t]).length = 1 := rfl
      omega
    rw [List.getElem?_append_left h] at e
    exact ⟨e, h⟩
  refine ⟨fun j => if j = E.length then [p] else F j, ⟨⟨?_, fun j u ej => ?_, fun j hj => ?_, fun j => ?_, fun j l a h1 h2 => ?_⟩, fun j a h => ?_, fun j u a ej nu ha => ?_, fun j u a ej nu ha => ?_, fun j u ej => ?_, w'.fr, w.z0, w.zn, w'.zt, w'.kt, w'.fl, fun j b n ej => ?_⟩⟩
  · rw [List.length_append, List.length_append, hl]; rfl
  · by_cases q : j = E.length
    · subst q
      rw [lastE] at ej
      cases ej
      rw [if_pos rfl, List.getD_eq_getElem?_getD, List.getElem?_append_right (by omega), hl, Nat.sub_self]
      exact r
    · obtain ⟨e, h⟩ := low j u ej q
      rw [if_neg q, List.getD_eq_getElem?_getD, List.getElem?_append_left (by omega), ← List.getD_eq_getElem?_getD]
      exact w'.sl.rep j u e
  · rw [List.length_append] at hj
    have : ([t]).length = 1 := rfl
    rw [if_neg (by omega)]
    exact w.sl.out j (by omega)
  · split
    · simp
    · exact w.sl.nd j
  · split at h1
    · split at h2
      · omega
      · have e := List.mem_singleton.mp h1
        subst e
        exact absurd h2 (pF l)
    · split at h2
      · have e := List.mem_singleton.mp h2
        subst e
        exact absurd h1 (pF j)
      · exact w.sl.dj j l a h1 h2
  · split at h
    · have e := List.mem_singleton.mp h
      subst e
      exact pz
    · exact w.nz j a h
  · by_cases q : j = E.length
    · rw [if_pos q] at ha
      have e := List.mem_singleton.mp ha
      subst e
      exact p0
    · rw [if_neg q] at ha
      exact w.own j u a (low j _ ej q).1 nu ha
  · by_cases q : j = E.length
    · subst q; rw [lastE] at ej; cases ej; rw [hs] at nu; cases nu
    · rw [if_neg q] at ha
      exact w.mum j u a (low j _ ej q).1 nu ha
  · by_cases q : j = E.length
    · subst q; rw [lastE] at ej; cases ej; cases hs
    · obtain ⟨e, h⟩ := low j _ ej q
      obtain ⟨v, e1, e2⟩ := w.mus j u e
      exact ⟨v, e1, by rw [List.getElem?_append_left (by omega)]; exact e2⟩
  · by_cases q : j = E.length
    · subst q; rw [lastE] at ej; cases ej; cases hs
    · exact w.idn j b n (low j _ ej q).1
theorem WdF.push (w : WdF C Z σ E H F) {p : Addr} {o : HO} {t : T} (hp : H p = none) (r : TRep C.K Z (upd H p o) (.ref p) t [p]) : Wd C Z (σ ++ [some (.ref p)]) (E ++ [.ow t]) (upd H p o) := w.pushS hp ⟨_, rfl, r⟩ rfl
end

/-! ### at a place of the proof: the names, the nodes, and what is pending -/
/-- the names' places, behind them the nodes (τ: where they stand), behind these what is pending -/
def At (C : Ctx) (ps : Sg) (Ep : List S) (Z : Addr → Prop) (σ : Sg) (E : List S) (H : Hp) : Prop := σ.length = C.n ∧ ∃ τ : Sg, σ.length + τ.length = E.length ∧ Wd C Z (σ ++ τ ++ ps) (E ++ Ep) H
section
variable {C : Ctx} {ps : Sg} {Ep : List S} {Z Z' : Addr → Prop} {σ : Sg} {E : List S} {H H' : Hp}
theorem up_get {s : S} {i : Nat} (e : E[i]? = some s) : (E ++ Ep)[i]? = some s := by
  rw [List.getElem?_append_left (List.getElem?_eq_some_iff.mp e).1]
  exact e
theorem At.low {τ : Sg} {x : V} {i : Nat} (hi : i < σ.length) (e : (σ ++ τ ++ ps)[i]? = some (some x)) : σ[i]? = some (some x) := by
  rw [List.append_assoc, List.getElem?_append_left hi] at e
  exact e
theorem At.high {τ : Sg} {x : V} {i : Nat} (e : σ[i]? = some (some x)) : (σ ++ τ ++ ps)[i]? = some (some x) := by
  rw [List.append_assoc, List.getElem?_append_left (List.getElem?_eq_some_iff.mp e).1]
  exact e
theorem At.get (w : At C ps Ep Z σ E H) {i : Nat} {d : D} (hi : i < C.n) (e : E[i]? = some (.fr d)) : ∃ v, σ[i]? = some (some v) ∧ Rep C.K Z H v d := by
  obtain ⟨hn, τ, hl, w⟩ := w
  obtain ⟨v, e1, r⟩ := w.get (up_get e)
  exact ⟨v, At.low (by omega) e1, r⟩
theorem At.getR (w : At C ps Ep Z σ E H) {i : Nat} {a : Addr} (hi : i < C.n) (e : E[i]? = some (.rf a)) : σ[i]? = some (some (.ref a)) := by
  obtain ⟨hn, τ, hl, F, f⟩ := w
  obtain ⟨_, e1⟩ := f.sl.rep i _ (up_get e)
  exact At.low (by omega) (getD_some e1)
theorem At.freeze (w : At C ps Ep Z σ E H) {i : Nat} {t : T} (hi : i < C.n) (e : E[i]? = some (.ow t)) : ∃ v Z', σ[i]? = some (some v) ∧ Stp Z H Z' H ∧ At C ps Ep Z' σ (E.set i (.fr t.fz)) H ∧ Rep C.K Z' H v t.fz := by
  obtain ⟨hn, τ, hl, w⟩ := w
  obtain ⟨v, Z', e1, st, w', r⟩ := w.freeze (up_get e)
  have hi2 := (List.getElem?_eq_some_iff.mp e).1
  rw [List.set_append_left _ _ hi2] at w'
  exact ⟨v, Z', At.low (by omega) e1, st, ⟨hn, τ, by rw [List.length_set]; exact hl, w'⟩, r⟩
theorem At.new (w : At C ps Ep Z σ E H) {p : Addr} {o : HO} (hp : H p = none) : At C ps Ep Z σ E (upd H p o) := let ⟨hn, τ, hl, w⟩ := w; ⟨hn, τ, hl, w.new hp⟩
theorem At.zt (w : At C ps Ep Z σ E H) : ∀ a, Z a → H a ≠ none := let ⟨_, _, _, w⟩ := w; w.zt
theorem At.tree (w : At C ps Ep Z σ E H) {i : Nat} {s : S} {t : T} (hi : i < C.n) (e : E[i]? = some s) (et : s.tree? = some t) : ∃ v F, σ[i]? = some (some v) ∧ TRep C.K Z H v t F := by
  obtain ⟨hn, τ, hl, F, f⟩ := w
  obtain ⟨v, e1, r⟩ := (f.sl.rep i s (up_get e)).tree et
  exact ⟨v, F i, At.low (by omega) (getD_some e1), r⟩
/-- an owned object at a place is written -/
theorem _root_.DL.WdF.over {A : Sg} {B : List S} {F : Foot} (f : WdF C Z A B H F) {i : Nat} {s : S} {t t' : T} {a : Addr} {o : HO} {v : V} (e : B[i]? = some s) (et : s.tree? = some t) (ha : a ∈ F i) (hv : A[i]? = some (some v)) (hr : TRep C.K Z (upd H a o) v t' (F i)) :
    Wd C Z A (B.set i (s.put t')) (upd H a o) := by
  obtain ⟨u, hu, mu⟩ := f.kind ha
  have st : Stp Z H Z (upd H a o) := Stp.put (f.nz i a ha) hu mu
  refine f.put e et st hv hr (fun b hb => .inl hb) (f.sl.nd i) (fun j hj b hb => ?_) (fun b o e0 n q => ?_) (fun b z => ?_) upd_kt
  · exact upd_ne fun q => hj (f.sl.dj j i b hb (by rw [q]; exact ha))
  · rw [upd_ne]
    · exact q
    · rintro rfl
      cases s with
      | un => cases et
      | fr d => cases et
      | rf a => cases et
      | nw a n => cases et
      | nm a n => cases et
      | ow x =>
        have := f.own i _ b e rfl ha
        rw [e0] at this; cases this
      | mu x =>
        rcases f.mum i _ b e rfl ha with z | z
        · exact n i z
        · rw [e0] at z; cases z
  · by_cases q : b = a
    · rw [q, upd_same]; intro q; cases q
    · rw [upd_ne q]; exact f.zt b z
theorem At.over (hn : σ.length = C.n) {τ : Sg} (hl : σ.length + τ.length = E.length) {i : Nat} {s : S} {t : T} (hi : i < E.length) (w : Wd C Z (σ ++ τ ++ ps) ((E ++ Ep).set i (s.put t)) H) : At C ps Ep Z σ (E.set i (s.put t)) H := by
  rw [List.set_append_left _ _ hi] at w
  exact ⟨hn, τ, by rw [List.length_set]; exact hl, w⟩
/-- an owned list at a place: read, and written -/
theorem _root_.DL.Wd.list {A : Sg} {B : List S} (w : Wd C Z A B H) {i : Nat} {s : S} {ds : List D} (e : B[i]? = some s) (et : s.tree? = some (.lst ds)) :
    ∃ a vs, A[i]? = some (some (.ref a)) ∧ H a = some (.lst vs) ∧ Reps C.K Z H vs ds ∧ ∀ vs' ds', Reps C.K Z H vs' ds' → Stp Z H Z (upd H a (.lst vs')) ∧ Wd C Z A (B.set i (s.put (.lst ds'))) (upd H a (.lst vs')) := by
  obtain ⟨F, f⟩ := w
  obtain ⟨v, e1, r⟩ := (f.sl.rep i s e).tree et
  generalize hF : F i = G at r
  cases r with
  | lst h hs =>
    rename_i a vs
    have ha : a ∈ F i := by rw [hF]; simp
    refine ⟨a, vs, getD_some e1, h, hs, fun vs' ds' r' => ?_⟩
    have st : Stp Z H Z (upd H a (.lst vs')) := Stp.put (f.nz i a ha) h trivial
    refine ⟨st, f.put e et st (getD_some e1) (TRep.lst upd_same (r'.mono st)) (fun b hb => .inl (by rw [hF]; exact hb)) (by simp) (fun j hj b hb => ?_) (fun b o e0 n q => ?_) (fun b z => ?_) upd_kt⟩
    · exact upd_ne fun q => hj (f.sl.dj j i b hb (by rw [q]; exact ha))
    · rw [upd_ne]
      · exact q
      · rintro rfl
        cases s with
        | un => cases et
        | fr d => cases et
        | rf a => cases et
        | nw a n => cases et
        | nm a n => cases et
        | ow x =>
          have := f.own i _ b e rfl ha
          rw [e0] at this; cases this
        | mu x =>
          rcases f.mum i _ b e rfl ha with z | z
          · exact n i z
          · rw [e0] at z; cases z
    · by_cases q : b = a
      · rw [q, upd_same]; intro q; cases q
      · rw [upd_ne q]; exact f.zt b z
theorem At.list (w : At C ps Ep Z σ E H) {i : Nat} {s : S} {ds : List D} (hi : i < C.n) (e : E[i]? = some s) (et : s.tree? = some (.lst ds)) :
    ∃ a vs, σ[i]? = some (some (.ref a)) ∧ H a = some (.lst vs) ∧ Reps C.K Z H vs ds ∧ ∀ vs' ds', Reps C.K Z H vs' ds' → Stp Z H Z (upd H a (.lst vs')) ∧ At C ps Ep Z σ (E.set i (s.put (.lst ds'))) (upd H a (.lst vs')) := by
  obtain ⟨hn, τ, hl, w⟩ := w
  have hi2 := (List.getElem?_eq_some_iff.mp e).1
  obtain ⟨a, vs, e1, h, r, k⟩ := w.list (up_get e) et
  refine ⟨a, vs, At.low (by omega) e1, h, r, fun vs' ds' r' => ?_⟩
  obtain ⟨st, q⟩ := k vs' ds' r'
  rw [List.set_append_left _ _ hi2] at q
  exact ⟨st, hn, τ, by rw [List.length_set]; exact hl, q⟩
theorem set_low {σ τ ps : Sg} {i : Nat} {x : Option V} (hi : i < σ.length) : (σ ++ τ ++ ps).set i x = σ.set i x ++ τ ++ ps := by
  rw [List.append_assoc, List.set_append_left _ _ hi, List.append_assoc]
theorem At.setD (w : At C ps Ep Z σ E H) {v : V} {d : D} {i : Nat} (hi : i < C.n) (r : Rep C.K Z H v d) (nm : ∀ t, E[i]? ≠ some (.mu t)) : At C ps Ep Z (σ.set i (some v)) (E.set i (.fr d)) H := by
  obtain ⟨hn, τ, hl, F, f⟩ := w
  refine ⟨by rw [List.length_set]; exact hn, τ, by rw [List.length_set, List.length_set]; exact hl, ?_⟩
  have hE : i < E.length := by omega
  have q := f.setD (i := i) r (by rw [List.length_append]; omega) fun t => by rw [List.getElem?_append_left hE]; exact nm t
  rw [List.set_append_left _ _ hE, set_low (by omega)] at q
  exact q
theorem At.forget (w : At C ps Ep Z σ E H) {x : Option V} {i : Nat} (hi : i < C.n) : At C ps Ep Z (σ.set i x) (E.set i .un) H := by
  obtain ⟨hn, τ, hl, F, f⟩ := w
  refine ⟨by rw [List.length_set]; exact hn, τ, by rw [List.length_set, List.length_set]; exact hl, ?_⟩
  have hE : i < E.length := by omega
  have q := f.forget (i := i) (x := x)
  rw [List.set_append_left _ _ hE, set_low (by omega)] at q
  exact q
/-- a node is let go -/
theorem At.forgetG (w : At C ps Ep Z σ E H) {i : Nat} (hi : i < E.length) : At C ps Ep Z σ (E.set i (if i < C.n then E[i] else .un)) H := by
  by_cases h : i < C.n
  · rw [if_pos h, List.set_getElem_self]; exact w
  · rw [if_neg h]
    obtain ⟨hn, τ, hl, F, f⟩ := w
    refine ⟨hn, τ, by rw [List.length_set]; exact hl, ?_⟩
    have fl := f.sl.len
    have hA : i < (σ ++ τ ++ ps).length := by rw [fl, List.length_append]; omega
    have q := f.forget (i := i) (x := (σ ++ τ ++ ps)[i])
    rw [List.set_append_left _ _ hi, List.set_getElem_self] at q
    exact q
/-- what is pending is stored -/
theorem At.setP {v : V} {t : T} (w : At C (ps ++ [some v]) (Ep ++ [.ow t]) Z σ E H) {i : Nat} (hi : i < C.n) (nm : ∀ t, E[i]? ≠ some (.mu t)) : At C ps Ep Z (σ.set i (some v)) (E.set i (.ow t)) H := by
  obtain ⟨hn, τ, hl, F, f⟩ := w
  refine ⟨by rw [List.length_set]; exact hn, τ, by rw [List.length_set, List.length_set]; exact hl, ?_⟩
  have hE : i < E.length := by omega
  rw [← List.append_assoc, ← List.append_assoc] at f
  have q := f.move (i := i) (by rw [List.length_append]; omega) fun t => by rw [List.getElem?_append_left hE]; exact nm t
  rw [List.set_append_left _ _ hE, set_low (by omega)] at q
  exact q
/-- .. or frozen -/
theorem At.frP {v : V} {t : T} (w : At C (ps ++ [some v]) (Ep ++ [.ow t]) Z σ E H) : ∃ Z', Stp Z H Z' H ∧ At C ps Ep Z' σ E H ∧ Rep C.K Z' H v t.fz := by
  obtain ⟨hn, τ, hl0, w2⟩ := w
  rw [← List.append_assoc, ← List.append_assoc] at w2
  have hl : (σ ++ τ ++ ps).length = (E ++ Ep).length := by
    have q := w2.len
    simp only [List.length_append, List.length_singleton] at q ⊢
    omega
  have le : ((E ++ Ep) ++ [S.ow t])[(E ++ Ep).length]? = some (.ow t) := by rw [List.getElem?_append_right (Nat.le_refl _), Nat.sub_self]; rfl
  obtain ⟨v', Z', e, st, w', r⟩ := w2.freeze le
  rw [List.getElem?_append_right (by omega), hl, Nat.sub_self] at e
  have ev : v = v' := by
    have q : some (some v) = some (some v') := e
    exact Option.some.inj (Option.some.inj q)
  subst ev
  rw [List.set_append_right _ _ (Nat.le_refl _), Nat.sub_self] at w'
  obtain ⟨F, f⟩ := w'
  exact ⟨Z', st, ⟨hn, τ, hl0, WdF.drop (s := .fr t.fz) f⟩, r⟩
theorem At.pushT (w : At C ps Ep Z σ E H) {p : Addr} {o : HO} {t : T} (hp : H p = none) (r : TRep C.K Z (upd H p o) (.ref p) t [p]) :
    Stp Z H Z (upd H p o) ∧ At C (ps ++ [some (.ref p)]) (Ep ++ [.ow t]) Z σ E (upd H p o) := by
  obtain ⟨hn, τ, hl, F, f⟩ := w
  have st : Stp Z H Z (upd H p o) := Stp.new f.zt hp
  refine ⟨st, hn, τ, hl, ?_⟩
  rw [← List.append_assoc, ← List.append_assoc]
  exact f.push hp r
theorem At.push (w : At C ps Ep Z σ E H) {p : Addr} {vs : List V} {ds : List D} (hp : H p = none) (r : Reps C.K Z H vs ds) :
    Stp Z H Z (upd H p (.lst vs)) ∧ At C (ps ++ [some (.ref p)]) (Ep ++ [.ow (.lst ds)]) Z σ E (upd H p (.lst vs)) :=
  w.pushT hp (.lst upd_same (r.mono (Stp.new w.zt hp)))
end
end DL
set_option Elab.async false
set_option linter.all false
set_option maxRecDepth 100000
set_option maxHeartbeats 4000000
/-! DL, part c: judgements; names, constants, displays, operators, tests, subscripts. -/
namespace DL
open PySem PySem.Spec PyProof.Rows L2

/-- by a truth value; never unfolded by itself -/
@[irreducible] def brB (b : Bool) (A B : Prop) : Prop := (b = true → A) ∧ (b = false → B)
theorem brB.t {A B : Prop} (h : brB true A B) : A := by unfold brB at h; exact h.1 rfl
theorem brB.f {A B : Prop} (h : brB false A B) : B := by unfold brB at h; exact h.2 rfl
theorem br {b : Bool} {A B : Prop} (h1 : b = true → A) (h2 : b = false → B) : brB b A B := by unfold brB; exact ⟨h1, h2⟩
theorem brT {b : Bool} {A B : Prop} (e : b = true) (h : A) : brB b A B := br (fun _ => h) fun q => by rw [e] at q; cases q
theorem brF {b : Bool} {A B : Prop} (e : b = false) (h : B) : brB b A B := br (fun q => by rw [e] at q; cases q) fun _ => h
abbrev TD := List S → (D → List S → Prop) → Prop
abbrev TN := List S → (T → List S → Prop) → Prop
abbrev TB := List S → (Bool → List S → Prop) → Prop
abbrev TL := List S → (List D → List S → Prop) → Prop

/-- read now: data, or an owned tree -/
def BRep (K : Frg) (Z : Addr → Prop) (H : Hp) (v : V) (d : D) : Prop := Rep K Z H v d ∨ ∃ t F, TRep K Z H v t F ∧ t.fz = d

def teOf (C : Ctx) (t : TD) : TE := fun σ H Q => ∃ ps Ep E Z Qd, At C ps Ep Z σ E H ∧ t E Qd ∧ ∀ d E' Z' H' v, At C ps Ep Z' σ E' H' → Stp Z H Z' H' → Rep C.K Z' H' v d → Qd d E' → Q v H'
def tbOf (C : Ctx) (t : TD) : TE := fun σ H Q => ∃ ps Ep E Z Qd, At C ps Ep Z σ E H ∧ t E Qd ∧ ∀ d E' Z' H' v, At C ps Ep Z' σ E' H' → Stp Z H Z' H' → BRep C.K Z' H' v d → Qd d E' → Q v H'
def neOf (C : Ctx) (t : TN) : TE := fun σ H Q => ∃ ps Ep E Z Qd, At C ps Ep Z σ E H ∧ t E Qd ∧ ∀ tr E' Z' H' v, At C (ps ++ [some v]) (Ep ++ [.ow tr]) Z' σ E' H' → Stp Z H Z' H' → Qd tr E' → Q v H'
def ttOf (C : Ctx) (t : TB) : TT := fun σ H Q => ∃ ps Ep E Z Qd, At C ps Ep Z σ E H ∧ t E Qd ∧ ∀ b E' Z' H', At C ps Ep Z' σ E' H' → Stp Z H Z' H' → Qd b E' → Q b H'
def tlOf (C : Ctx) (n : Nat) (t : TL) : TA := fun σ H Q => ∃ ps Ep E Z Qd, At C ps Ep Z σ E H ∧ t E Qd ∧ ∀ ds E' Z' H' vs, At C ps Ep Z' σ E' H' → Stp Z H Z' H' → Reps C.K Z' H' vs ds → ds.length = n → Qd ds E' → Q vs H'

abbrev DE (C : Ctx) (X : Cx) (e : Expr) (t : TD) : Prop := PE X e (teOf C t)
abbrev DB (C : Ctx) (X : Cx) (e : Expr) (t : TD) : Prop := PE X e (tbOf C t)
abbrev DN (C : Ctx) (X : Cx) (e : Expr) (t : TN) : Prop := PE X e (neOf C t)
abbrev DT (C : Ctx) (X : Cx) (e : Expr) (t : TB) : Prop := PT X e (ttOf C t)
abbrev DW (C : Ctx) (X : Cx) (e : Expr) (t : TB) : Prop := PW X e (ttOf C t)
abbrev DA (C : Ctx) (X : Cx) (es : List Expr) (t : TL) : Prop := PA X es (tlOf C es.length t)

theorem _root_.L2.PE.imp {X : Cx} {e : Expr} {t t' : TE} (h : PE X e t) (k : ∀ σ H Q, t' σ H Q → t σ H Q) : PE X e t' := ⟨fun pins s σ H Q I q => h.run pins s σ H Q I (k σ H Q q)⟩
theorem _root_.L2.PT.imp {X : Cx} {e : Expr} {t t' : TT} (h : PT X e t) (k : ∀ σ H Q, t' σ H Q → t σ H Q) : PT X e t' := ⟨fun pins s σ H Q I q => h.run pins s σ H Q I (k σ H Q q)⟩
theorem _root_.L2.PW.imp {X : Cx} {e : Expr} {t t' : TT} (h : PW X e t) (k : ∀ σ H Q, t' σ H Q → t σ H Q) : PW X e t' := ⟨fun wh pins s σ H Q I q => h.run wh pins s σ H Q I (k σ H Q q)⟩
theorem _root_.L2.PA.imp {X : Cx} {es : List Expr} {t t' : TA} (h : PA X es t) (k : ∀ σ H Q, t' σ H Q → t σ H Q) : PA X es t' := ⟨fun pos pins s σ H Q I q => h.run pos pins s σ H Q I (k σ H Q q)⟩
theorem _root_.L2.PS.imp {X : Cx} {st : Stmt} {t t' : TS} (h : PS X st t) (k : ∀ D σ H, t' D σ H → t D σ H) : PS X st t' := ⟨fun pins s σ H D I q => h.run pins s σ H D I (k D σ H q)⟩
theorem _root_.L2.PSs.imp {X : Cx} {st : List Stmt} {t t' : TS} (h : PSs X st t) (k : ∀ D σ H, t' D σ H → t D σ H) : PSs X st t' := ⟨fun pins s σ H D I q => h.run pins s σ H D I (k D σ H q)⟩
theorem _root_.L2.PG.imp {X : Cx} {e : Expr} {t t' : TG} (h : PG X e t) (k : ∀ v σ H Q, t' v σ H Q → t v σ H Q) : PG X e t' := ⟨fun pins s σ H v u Q I r q => h.run pins s σ H v u Q I r (k v σ H Q q)⟩
theorem _root_.L2.PI.imp {X : Cx} {tg e : Expr} {t t' : TI} (h : PI X tg e t) (k : ∀ σ H R, t' σ H R → t σ H R) : PI X tg e t' := ⟨fun pins s σ H R I q => h.run pins s σ H R I (k σ H R q)⟩

/-! ### data as the library's data -/
mutual
def D.py : D → PyData
  | .non => .none
  | .bl b => .bool b
  | .int i => .int i
  | .str x => .str x
  | .tup ds => .tuple (D.pys ds)
  | .lst ds => .list (D.pys ds)
  | .scr ds => .list (D.pys ds)
  | .dic _ _ => .dict []
  | .dit _ _ => .dict []
  | .obj _ _ _ => .dict []
  | .kon _ => .dict []
def D.pys : List D → List PyData
  | [] => []
  | d :: ds => d.py :: D.pys ds
end
theorem pys_map : ∀ ds : List D, D.pys ds = ds.map D.py
  | [] => rfl
  | d :: ds => by rw [D.pys, pys_map ds]; rfl
def D.shp (d : D) : Bool := SeqAt.shaped d.py
def D.eqv (d e : D) : Bool := PyData.eqv d.py e.py
mutual
theorem Rep.dp {K : Frg} {Z : Addr → Prop} {H : Hp} : ∀ {v : V} {d : D}, Rep K Z H v d → d.py.canLay0 = true → Dp K H v d.py
  | _, _, .non, _ => .non
  | _, _, .bl b, _ => .bl b
  | _, _, .int i, _ => .int i
  | _, _, .str x, _ => .str x
  | _, _, .tup h hs, c => .tup h (Reps.dp hs c)
  | _, _, .lst h hs, c => .lst h.sq (Reps.dp hs c)
  | _, _, .scr h hs, c => .lst h.sq (Reps.dp hs c)
  | _, _, .dic _ _ _ _, c => by simp [D.py, PyData.canLay0] at c
  | _, _, .dit _ _ _ _, c => by simp [D.py, PyData.canLay0] at c
  | _, _, .obj _ _ _ _, c => by simp [D.py, PyData.canLay0] at c
  | _, _, .kon _, c => by simp [D.py, PyData.canLay0] at c
theorem Reps.dp {K : Frg} {Z : Addr → Prop} {H : Hp} : ∀ {vs : List V} {ds : List D}, Reps K Z H vs ds → PyData.canLayAll0 (D.pys ds) = true → DpAll K H vs (D.pys ds)
  | _, _, .nil, _ => .nil
  | _, _, .cons h hs, c => by
    have c' := Bool.and_eq_true_iff.mp (show (PyData.canLay0 _ && PyData.canLayAll0 _) = true from c)
    exact .cons (Rep.dp h c'.1) (Reps.dp hs c'.2)
end
theorem BRep.dp {K : Frg} {Z : Addr → Prop} {H : Hp} {v : V} {d : D} (h : BRep K Z H v d) (c : d.py.canLay0 = true) : Dp K H v d.py := by
  rcases h with h | ⟨t, F, h, e⟩
  · exact h.dp c
  · cases h with
    | fr h => rw [← e] at c ⊢; exact h.dp c
    | lst h hs => rw [← e] at c ⊢; exact .lst (.of h) (Reps.dp hs c)
    | dic h e1 hs => rw [← e] at c; simp [T.fz, D.py, PyData.canLay0] at c
    | obj h e1 hs => rw [← e] at c; simp [T.fz, D.py, PyData.canLay0] at c
theorem BRep.lst {K : Frg} {Z : Addr → Prop} {H : Hp} {v : V} {ds : List D} (h : BRep K Z H v (.lst ds)) : ∃ a vs, v = .ref a ∧ SqL K H a vs ∧ Reps K Z H vs ds := by
  rcases h with h | ⟨t, F, h, e⟩
  · cases h with
    | lst h hs => exact ⟨_, _, rfl, h.sq, hs⟩
  · cases h with
    | fr h =>
      rw [show (T.fr _).fz = _ from rfl] at e
      subst e
      cases h with
      | lst h hs => exact ⟨_, _, rfl, h.sq, hs⟩
    | lst h hs => cases e; exact ⟨_, _, rfl, .of h, hs⟩
    | dic h e1 hs => cases e
    | obj h e1 hs => cases e
theorem BRep.tup {K : Frg} {Z : Addr → Prop} {H : Hp} {v : V} {ds : List D} (h : BRep K Z H v (.tup ds)) : ∃ a vs, v = .ref a ∧ SqT K H a vs ∧ Reps K Z H vs ds := by
  rcases h with h | ⟨t, F, h, e⟩
  · cases h with
    | tup h hs => exact ⟨_, _, rfl, h, hs⟩
  · cases h with
    | fr h =>
      rw [show (T.fr _).fz = _ from rfl] at e
      subst e
      cases h with
      | tup h hs => exact ⟨_, _, rfl, h, hs⟩
    | lst h hs => cases e
    | dic h e1 hs => cases e
    | obj h e1 hs => cases e
theorem BRep.str {K : Frg} {Z : Addr → Prop} {H : Hp} {v : V} {x : Str} (h : BRep K Z H v (.str x)) : v = .str x := by
  rcases h with h | ⟨t, F, h, e⟩
  · cases h; rfl
  · cases h with
    | fr h =>
      rw [show (T.fr _).fz = _ from rfl] at e
      subst e
      cases h; rfl
    | lst h hs => cases e
    | dic h e1 hs => cases e
    | obj h e1 hs => cases e

section
variable {C : Ctx} {X : Cx}
/-! ### names -/
def tv (i : Nat) : TD := fun E Q => match E[i]? with
  | some (.fr d) => Q d E
  | some (.ow t) => Q t.fz (E.set i (.fr t.fz))
  | _ => False
theorem de_v (i : Nat) {x : Str} {pos : Pos} (hN : X.N[i]? = some x := by rfl) (hlt : i < C.n := by exact Nat.le_of_ble_eq_true rfl) (hv : Vis X.env.scope x := by first | exact Or.inl rfl | exact Or.inr (Or.inl rfl) | exact Or.inr (Or.inr rfl)) (hd : (x == ("__debug__" : Str)) = false := by decide)
    (hcd : (x == ("__classdict__" : Str)) = false := by decide) : DE C X (.Name x pos) (tv i) := (pe_var hN hv hd hcd).imp fun σ H Q ⟨ps, Ep, E, Z, Qd, w, h, post⟩ => by
  unfold tv at h
  split at h
  · rename_i d e
    obtain ⟨v, e1, r⟩ := w.get hlt e
    exact ⟨v, e1, post d E Z H v w (Stp.refl _ _) r h⟩
  · rename_i t e
    obtain ⟨v, Z', e1, st, w', r⟩ := w.freeze hlt e
    exact ⟨v, e1, post _ _ Z' H v w' st r h⟩
  · cases h
/-- a name that is only looked at -/
def tbv (i : Nat) : TD := fun E Q => match E[i]? with
  | some (.fr d) => Q d E
  | some (.ow t) => Q t.fz E
  | some (.mu t) => Q t.fz E
  | _ => False
theorem db_v (i : Nat) {x : Str} {pos : Pos} (hN : X.N[i]? = some x := by rfl) (hlt : i < C.n := by exact Nat.le_of_ble_eq_true rfl) (hv : Vis X.env.scope x := by first | exact Or.inl rfl | exact Or.inr (Or.inl rfl) | exact Or.inr (Or.inr rfl)) (hd : (x == ("__debug__" : Str)) = false := by decide)
    (hcd : (x == ("__classdict__" : Str)) = false := by decide) : DB C X (.Name x pos) (tbv i) := (pe_var hN hv hd hcd).imp fun σ H Q ⟨ps, Ep, E, Z, Qd, w, h, post⟩ => by
  unfold tbv at h
  split at h
  · rename_i d e
    obtain ⟨v, e1, r⟩ := w.get hlt e
    exact ⟨v, e1, post d E Z H v w (Stp.refl _ _) (.inl r) h⟩
  · rename_i t e
    obtain ⟨v, F, e1, r⟩ := w.tree hlt e (t := t) rfl
    exact ⟨v, e1, post _ _ Z H v w (Stp.refl _ _) (.inr ⟨t, F, r, rfl⟩) h⟩
  · rename_i t e
    obtain ⟨v, F, e1, r⟩ := w.tree hlt e (t := t) rfl
    exact ⟨v, e1, post _ _ Z H v w (Stp.refl _ _) (.inr ⟨t, F, r, rfl⟩) h⟩
  · cases h
theorem db_e {e : Expr} {t : TD} (h : DE C X e t) : DB C X e t := h.imp fun σ H Q ⟨ps, Ep, E, Z, Qd, w, ht, post⟩ => ⟨ps, Ep, E, Z, Qd, w, ht, fun d E' Z' H' v w' st r q => post d E' Z' H' v w' st (.inl r) q⟩

/-! ### constants -/
def tc (d : D) : TD := fun E Q => Q d E
theorem de_of {e : Expr} {v : V} {d : D} (h : PE X e (tC v)) (r : ∀ Z H, Rep C.K Z H v d) : DE C X e (tc d) := h.imp fun σ H Q ⟨ps, Ep, E, Z, Qd, w, h, post⟩ => post d E Z H v w (Stp.refl _ _) (r _ _) h
theorem de_int {i : Int} {j pos} : DE C X (.Constant (.int i) j pos) (tc (.int i)) := de_of pe_int fun _ _ => .int i
theorem de_bl {b : Bool} {j pos} : DE C X (.Constant (.bool b) j pos) (tc (.bl b)) := de_of pe_bl fun _ _ => .bl b
theorem de_non {j pos} : DE C X (.Constant .none j pos) (tc .non) := de_of pe_non fun _ _ => .non
theorem de_str {x : Str} {j pos} : DE C X (.Constant (.str x) j pos) (tc (.str x)) := de_of pe_str fun _ _ => .str x
theorem de_glob {x : Str} {v : V} {d : D} {u : Value} {pos : Pos} (hg : Gl X x) (hm : X.mg x = some u) (rv : RelV v u) (r : ∀ Z H, Rep C.K Z H v d) (hd : (x == ("__debug__" : Str)) = false := by decide) : DE C X (.Name x pos) (tc d) := de_of (pe_glob hg hm rv hd) r

/-! ### argument lists, displays -/
def tlNil : TL := fun E Q => Q [] E
def tlCons (t : TD) (u : TL) : TL := fun E Q => t E fun d E1 => u E1 fun ds E2 => Q (d :: ds) E2
theorem da_nil : DA C X [] tlNil := pa_nil.imp fun σ H Q ⟨ps, Ep, E, Z, Qd, w, h, post⟩ => post [] E Z H [] w (Stp.refl _ _) .nil rfl h
theorem da_cons {e : Expr} {es : List Expr} {t : TD} {u : TL} (ha : DE C X e t) (hr : DA C X es u) (hs : starEach (e :: es) X.env = (false, eval e X.env) :: starEach es X.env := by rfl) : DA C X (e :: es) (tlCons t u) :=
  (pa_cons ha hr hs).imp fun σ H Q ⟨ps, Ep, E, Z, Qd, w, h, post⟩ => ⟨ps, Ep, E, Z, _, w, h, fun d E1 Z1 H1 v w1 st1 r1 h1 => ⟨ps, Ep, E1, Z1, _, w1, h1, fun ds E2 Z2 H2 vs w2 st2 r2 n h2 =>
    post _ E2 Z2 H2 _ w2 (st1.trans st2) (.cons (r1.mono st2) r2) (by rw [List.length_cons, List.length_cons, n]) h2⟩⟩
def tTupD (t : TL) : TD := fun E Q => t E fun ds E1 => Q (.tup ds) E1
theorem de_tup {es : List Expr} {t : TL} {x1} {pos : Pos} (h : DA C X es t) (hn : es.length ≤ 16777216 := by decide) : DE C X (.Tuple es x1 pos) (tTupD t) :=
  (pe_tup h).imp fun σ H Q ⟨ps, Ep, E, Z, Qd, w, h, post⟩ => ⟨ps, Ep, E, Z, _, w, h, fun ds E1 Z1 H1 vs w1 st1 r1 n h1 => ⟨by rw [r1.length, n, sizeLine_eq]; exact hn, fun p hp =>
    have st2 := Stp.new (o := .tup vs) w1.zt hp
    post _ E1 Z1 _ _ (w1.new hp) (st1.trans st2) (.tup (.of upd_same) (r1.mono st2)) h1⟩⟩
def tLstD (t : TL) : TN := fun E Q => t E fun ds E1 => Q (.lst ds) E1
theorem dn_lst {es : List Expr} {t : TL} {pos : Pos} (h : DA C X es t) (hn : es.length ≤ 16777216 := by decide) : DN C X (.List es pos) (tLstD t) :=
  (pe_lst h).imp fun σ H Q ⟨ps, Ep, E, Z, Qd, w, h, post⟩ => ⟨ps, Ep, E, Z, _, w, h, fun ds E1 Z1 H1 vs w1 st1 r1 n h1 => ⟨by rw [r1.length, n, sizeLine_eq]; exact hn, fun p hp => by
    obtain ⟨st2, w2⟩ := w1.push hp r1
    exact post _ E1 Z1 _ _ w2 (st1.trans st2) h1⟩⟩
/-- what is new is frozen -/
def tFz (t : TN) : TD := fun E Q => t E fun tr E1 => Q tr.fz E1
theorem de_n {e : Expr} {t : TN} (h : DN C X e t) : DE C X e (tFz t) := h.imp fun σ H Q ⟨ps, Ep, E, Z, Qd, w, h, post⟩ => ⟨ps, Ep, E, Z, _, w, h, fun tr E1 Z1 H1 v w1 st1 h1 => by
  obtain ⟨Z2, st2, w2, r2⟩ := w1.frP
  exact post _ E1 Z2 H1 v w2 (st1.trans st2) r2 h1⟩

/-! ### operators -/
abbrev O2 := D → D → (D → Prop) → Prop
def tOp2 (o : O2) (ta tb : TD) : TD := fun E Q => ta E fun x E1 => tb E1 fun y E2 => o x y fun z => Q z E2
/-- what a library's rule asks is met by o, the heap stays -/
def Meets (C : Ctx) (o : O2) (r : R2) : Prop := ∀ (Z : Addr → Prop) (H : Hp) (v w : V) (x y : D) (q : D → Prop) (Q : VK), Rep C.K Z H v x → Rep C.K Z H w y → o x y q → (∀ z d, Rep C.K Z H z d → q d → Q z H) → r v w H Q
theorem op2_imp {o : O2} {r : R2} (m : Meets C o r) {ta tb : TD} (σ : Sg) (H : Hp) (Q : VK) (h : teOf C (tOp2 o ta tb) σ H Q) : tOp r (teOf C ta) (teOf C tb) σ H Q := by
  obtain ⟨ps, Ep, E, Z, Qd, w, h, post⟩ := h
  exact ⟨ps, Ep, E, Z, _, w, h, fun x E1 Z1 H1 v w1 st1 r1 h1 => ⟨ps, Ep, E1, Z1, _, w1, h1, fun y E2 Z2 H2 u w2 st2 r2 h2 => m Z2 H2 v u x y _ Q (r1.mono st2) r2 h2 fun z d rz q => post d E2 Z2 H2 z w2 (st1.trans st2) rz q⟩⟩
theorem de_op {op : Operator} {o : O2} {r : R2} {a b : Expr} {ta tb : TD} {pos : Pos} (ho : OpR X (binaryOp op) r ∧ Meets C o r) (ha : DE C X a ta) (hb : DE C X b tb) : DE C X (.BinOp a op b pos) (tOp2 o ta tb) :=
  (pe_op ho.1 ha hb).imp (op2_imp ho.2)
theorem de_cmp {op : CmpOp} {o : O2} {r : R2} {a b : Expr} {ta tb : TD} {pos : Pos} (ho : OpR X (compareOp op) r ∧ Meets C o r) (ha : DE C X a ta) (hb : DE C X b tb) (hm : behindInMarks op b = false := by first | exact nomark _ | rfl) : DE C X (.Compare a [op] [b] pos) (tOp2 o ta tb) :=
  (pe_cmpR ho.1 ha hb hm).imp (op2_imp ho.2)
def tOp2B (o : O2) (ta tb : TD) : TB := fun E Q => ta E fun x E1 => tb E1 fun y E2 => o x y fun z => match z with
  | .bl k => Q k E2
  | _ => False
theorem dt_cmp {op : CmpOp} {o : O2} {r : R2} {a b : Expr} {ta tb : TD} {pos : Pos} (ho : OpR X (compareOp op) r ∧ Meets C o r) (ha : DE C X a ta) (hb : DE C X b tb) (hm : behindInMarks op b = false := by first | exact nomark _ | rfl) : DT C X (.Compare a [op] [b] pos) (tOp2B o ta tb) :=
  (pt_cmpR ho.1 ha hb hm).imp fun σ H Q ⟨ps, Ep, E, Z, Qd, w, h, post⟩ => ⟨ps, Ep, E, Z, _, w, h, fun x E1 Z1 H1 v w1 st1 r1 h1 => ⟨ps, Ep, E1, Z1, _, w1, h1, fun y E2 Z2 H2 u w2 st2 r2 h2 => ho.2 Z2 H2 v u x y _ _ (r1.mono st2) r2 h2 fun z d rz q => by
    cases rz with
    | bl k => exact ⟨k, rfl, post k E2 Z2 H2 w2 (st1.trans st2) q⟩
    | _ => cases q⟩⟩

def oI (f : Int → Int → D) : O2 := fun x y q => match x, y with
  | .int i, .int j => q (f i j)
  | _, _ => False
def oIc (c : Int → Int → Prop) (f : Int → Int → D) : O2 := fun x y q => match x, y with
  | .int i, .int j => c i j ∧ q (f i j)
  | _, _ => False
theorem meets_I {f : Int → Int → D} {g : Int → Int → V} (hr : ∀ K Z H i j, Rep K Z H (g i j) (f i j)) : Meets C (oI f) (rI0 g) := fun Z H v w x y q Q rx ry h k => by
  unfold oI at h
  split at h
  · cases rx; cases ry
    exact ⟨_, _, rfl, rfl, k _ _ (hr _ _ _ _ _) h⟩
  · cases h
theorem meets_Ic {c c' : Int → Int → Prop} {f : Int → Int → D} {g : Int → Int → V} (hr : ∀ K Z H i j, Rep K Z H (g i j) (f i j)) (hc : ∀ i j, c i j → c' i j) : Meets C (oIc c f) (rI c' g) := fun Z H v w x y q Q rx ry h k => by
  unfold oIc at h
  split at h
  · cases rx; cases ry
    exact ⟨_, _, rfl, rfl, hc _ _ h.1, k _ _ (hr _ _ _ _ _) h.2⟩
  · cases h
abbrev iInt (f : Int → Int → Int) : Int → Int → D := fun i j => .int (f i j)
abbrev iBl (f : Int → Int → Bool) : Int → Int → D := fun i j => .bl (f i j)
theorem o_sub : OpR X (binaryOp .Sub) (rI0 fun i j => .int (i - j)) ∧ Meets C (oI (iInt fun i j => i - j)) (rI0 fun i j => .int (i - j)) := ⟨op_sub, meets_I fun _ _ _ _ _ => .int _⟩
theorem o_mul : OpR X (binaryOp .Mult) (rI CMul fun i j => .int (i * j)) ∧ Meets C (oIc CMul (iInt fun i j => i * j)) (rI CMul fun i j => .int (i * j)) := ⟨op_mul, meets_Ic (fun _ _ _ _ _ => .int _) fun _ _ h => h⟩
theorem o_fdiv : OpR X (binaryOp .FloorDiv) (rI CDiv fun i j => .int (i / j)) ∧ Meets C (oIc CDiv (iInt fun i j => i / j)) (rI CDiv fun i j => .int (i / j)) := ⟨op_fdiv, meets_Ic (fun _ _ _ _ _ => .int _) fun _ _ h => h⟩
theorem o_mod : OpR X (binaryOp .Mod) (rI (fun _ j => 0 < j) fun i j => .int (i % j)) ∧ Meets C (oIc (fun _ j => 0 < j) (iInt fun i j => i % j)) (rI (fun _ j => 0 < j) fun i j => .int (i % j)) := ⟨op_mod, meets_Ic (fun _ _ _ _ _ => .int _) fun _ _ h => h⟩
theorem o_pow : OpR X (binaryOp .Pow) (rI CPow fun i j => .int (i ^ j.toNat)) ∧ Meets C (oIc CPow (iInt fun i j => i ^ j.toNat)) (rI CPow fun i j => .int (i ^ j.toNat)) := ⟨op_pow, meets_Ic (fun _ _ _ _ _ => .int _) fun _ _ h => h⟩
theorem o_lt : OpR X (compareOp .Lt) (rI0 fun i j => .bl (decide (i < j))) ∧ Meets C (oI (iBl fun i j => decide (i < j))) (rI0 fun i j => .bl (decide (i < j))) := ⟨op_lt, meets_I fun _ _ _ _ _ => .bl _⟩
theorem o_le : OpR X (compareOp .LtE) (rI0 fun i j => .bl (decide (i ≤ j))) ∧ Meets C (oI (iBl fun i j => decide (i ≤ j))) (rI0 fun i j => .bl (decide (i ≤ j))) := ⟨op_le, meets_I fun _ _ _ _ _ => .bl _⟩
theorem o_gt : OpR X (compareOp .Gt) (rI0 fun i j => .bl (decide (j < i))) ∧ Meets C (oI (iBl fun i j => decide (j < i))) (rI0 fun i j => .bl (decide (j < i))) := ⟨op_gt, meets_I fun _ _ _ _ _ => .bl _⟩
theorem o_ge : OpR X (compareOp .GtE) (rI0 fun i j => .bl (decide (j ≤ i))) ∧ Meets C (oI (iBl fun i j => decide (j ≤ i))) (rI0 fun i j => .bl (decide (j ≤ i))) := ⟨op_ge, meets_I fun _ _ _ _ _ => .bl _⟩
/-- + of ints, of texts -/
def oAdd : O2 := fun x y q => match x, y with
  | .int i, .int j => q (.int (i + j))
  | .str a, .str b => a.length + b.length ≤ sizeLine ∧ q (.str (a ++ b))
  | _, _ => False
def rAddA : R2 := fun x y H Q => (∃ i j, x = .int i ∧ y = .int j ∧ Q (.int (i + j)) H) ∨ ∃ i j, x = .str i ∧ y = .str j ∧ i.length + j.length ≤ sizeLine ∧ Q (.str (i ++ j)) H
theorem o_add : OpR X (binaryOp .Add) rAddA ∧ Meets C oAdd rAddA := ⟨op_add.or op_add_str, fun Z H v w x y q Q rx ry h k => by
  unfold oAdd at h
  split at h
  · cases rx; cases ry
    exact .inl ⟨_, _, rfl, rfl, k _ _ (.int _) h⟩
  · cases rx; cases ry
    exact .inr ⟨_, _, rfl, rfl, h.1, k _ _ (.str _) h.2⟩
  · cases h⟩
/-- == and != of data -/
def oEq : O2 := fun x y q => (x.shp = true ∧ y.shp = true) ∧ q (.bl (x.eqv y))
def oNe : O2 := fun x y q => (x.shp = true ∧ y.shp = true) ∧ q (.bl (!x.eqv y))
theorem shp_lay {d : D} (h : d.shp = true) : d.py.canLay0 = true := SeqAt.canLay_of_shaped h
theorem o_eq (hu : X.A.units + 64 < cLine) (hK : X.K = C.K := by rfl) : OpR X (compareOp .Eq) (rEqD X.K) ∧ Meets C oEq (rEqD X.K) := ⟨op_eqD hu, fun Z H v w x y q Q rx ry h k => by
  rw [hK]
  exact ⟨_, _, rx.dp (shp_lay h.1.1), ry.dp (shp_lay h.1.2), h.1.1, h.1.2, k _ _ (.bl _) h.2⟩⟩
theorem o_ne (hu : X.A.units + 64 < cLine) (hK : X.K = C.K := by rfl) : OpR X (compareOp .NotEq) (rNeD X.K) ∧ Meets C oNe (rNeD X.K) := ⟨op_neD hu, fun Z H v w x y q Q rx ry h k => by
  rw [hK]
  exact ⟨_, _, rx.dp (shp_lay h.1.1), ry.dp (shp_lay h.1.2), h.1.1, h.1.2, k _ _ (.bl _) h.2⟩⟩
/-- is None -/
def D.isN : D → Bool
  | .non => true
  | _ => false
theorem Rep.isN {K : Frg} {Z : Addr → Prop} {H : Hp} {v : V} {d : D} (h : Rep K Z H v d) : decide (v = .non) = d.isN := by cases h <;> rfl
def oIs : O2 := fun x y q => match y with
  | .non => q (.bl x.isN)
  | _ => False
def oIsnt : O2 := fun x y q => match y with
  | .non => q (.bl (!x.isN))
  | _ => False
theorem o_is : OpR X (compareOp .Is) (fun x y H Q => y = .non ∧ Q (.bl (decide (x = .non))) H) ∧ Meets C oIs (fun x y H Q => y = .non ∧ Q (.bl (decide (x = .non))) H) := ⟨op_isN, fun Z H v w x y q Q rx ry h k => by
  unfold oIs at h
  split at h
  · cases ry
    exact ⟨rfl, by rw [rx.isN]; exact k _ _ (.bl _) h⟩
  · cases h⟩
theorem o_isnt : OpR X (compareOp .IsNot) (fun x y H Q => y = .non ∧ Q (.bl (!decide (x = .non))) H) ∧ Meets C oIsnt (fun x y H Q => y = .non ∧ Q (.bl (!decide (x = .non))) H) := ⟨op_notN, fun Z H v w x y q Q rx ry h k => by
  unfold oIsnt at h
  split at h
  · cases ry
    exact ⟨rfl, by rw [rx.isN]; exact k _ _ (.bl _) h⟩
  · cases h⟩

/-! ### one operand -/
def tUn1 (o : D → (D → Prop) → Prop) (t : TD) : TD := fun E Q => t E fun x E1 => o x fun z => Q z E1
def oNeg : D → (D → Prop) → Prop := fun x q => match x with
  | .int i => q (.int (-i))
  | _ => False
theorem de_neg {a : Expr} {t : TD} {pos : Pos} (ha : DE C X a t) : DE C X (.UnaryOp .USub a pos) (tUn1 oNeg t) := (pe_un un_neg ha).imp fun σ H Q ⟨ps, Ep, E, Z, Qd, w, h, post⟩ => ⟨ps, Ep, E, Z, _, w, h, fun x E1 Z1 H1 v w1 st1 r1 h1 => by
  unfold oNeg at h1
  split at h1
  · cases r1
    exact ⟨_, rfl, post _ E1 Z1 H1 _ w1 st1 (.int _) h1⟩
  · cases h1⟩

/-! ### tests -/
/-- the truth of data -/
def truD (d : D) (q : Bool → Prop) : Prop := match d with
  | .non => q false
  | .bl b => q b
  | .int i => q (i != 0)
  | .str x => x.length ≤ sizeLine ∧ q ((x.length : Int) != 0)
  | .tup ds => q (!ds.isEmpty)
  | .lst ds => q (!ds.isEmpty)
  | .scr ds => q (!ds.isEmpty)
  | .dic ks _ => q (!ks.isEmpty)
  | .dit _ _ => False
  | .obj _ _ _ => False
  | .kon _ => False
theorem isEmpty_reps {K : Frg} {Z : Addr → Prop} {H : Hp} {vs : List V} {ds : List D} (h : Reps K Z H vs ds) : vs.isEmpty = ds.isEmpty := by cases h <;> rfl
theorem BRep.tru {K : Frg} {Z : Addr → Prop} {H : Hp} {v : V} {d : D} {q : Bool → Prop} (r : BRep K Z H v d) (h : truD d q) : ∃ k, TruV K v H k ∧ q k := by
  have main : ∀ {v : V} {d : D}, Rep K Z H v d → truD d q → ∃ k, TruV K v H k ∧ q k := by
    intro v d r h
    cases r with
    | non => exact ⟨_, rfl, h⟩
    | bl b => exact ⟨_, rfl, h⟩
    | int i => exact ⟨_, rfl, h⟩
    | str x => exact ⟨_, ⟨h.1, rfl⟩, h.2⟩
    | tup hs rs =>
      refine ⟨_, .inr (.inl ⟨_, hs, rfl⟩), ?_⟩
      rw [isEmpty_reps rs]; exact h
    | lst hs rs =>
      refine ⟨_, .inl ⟨_, hs.sq, rfl⟩, ?_⟩
      rw [isEmpty_reps rs]; exact h
    | scr hs rs =>
      refine ⟨_, .inl ⟨_, hs.sq, rfl⟩, ?_⟩
      rw [isEmpty_reps rs]; exact h
    | dic z hs e rs =>
      refine ⟨_, .inr (.inr ⟨_, hs, rfl⟩), ?_⟩
      subst e
      have q2 : q (!(List.map (fun x : Key × V => x.1) _).isEmpty) := h
      rw [List.isEmpty_map] at q2
      exact q2
    | dit z hs e rs => cases h
    | obj z hs e rs => cases h
    | kon a => cases h
  rcases r with r | ⟨t, F, r, e⟩
  · exact main r h
  · cases r with
    | fr r => subst e; exact main r h
    | lst hs rs =>
      subst e
      refine ⟨_, .inl ⟨_, .of hs, rfl⟩, ?_⟩
      rw [isEmpty_reps rs]; exact h
    | dic hs e1 rs =>
      subst e
      refine ⟨_, .inr (.inr ⟨_, hs, rfl⟩), ?_⟩
      subst e1
      have q2 : q (!(List.map (fun x : Key × V => x.1) _).isEmpty) := h
      rw [List.isEmpty_map] at q2
      exact q2
    | obj hs e1 rs => subst e; cases h
def tTru (t : TD) : TB := fun E Q => t E fun d E1 => truD d fun k => Q k E1
theorem dt_b {e : Expr} {t : TD} (ha : DB C X e t) (he : ∀ whole, isTrue e X.env whole = (do let v ← whole; standAt e.pos; holding [v] (truthy v)) := by intro _; rfl) (hK : X.K = C.K := by rfl) : DT C X e (tTru t) :=
  (pt_truth ha he).imp fun σ H Q ⟨ps, Ep, E, Z, Qd, w, h, post⟩ => ⟨ps, Ep, E, Z, _, w, h, fun d E1 Z1 H1 v w1 st1 r1 h1 => by
    obtain ⟨k, tk, q⟩ := r1.tru h1
    rw [hK]
    exact ⟨k, tk, post k E1 Z1 H1 w1 st1 q⟩⟩
theorem dt_e {e : Expr} {t : TD} (ha : DE C X e t) (he : ∀ whole, isTrue e X.env whole = (do let v ← whole; standAt e.pos; holding [v] (truthy v)) := by intro _; rfl) (hK : X.K = C.K := by rfl) : DT C X e (tTru t) := dt_b (db_e ha) he hK
def tAndD (t u : TB) : TB := fun E Q => t E fun c E1 => brB c (u E1 Q) (Q false E1)
def tOrD (t u : TB) : TB := fun E Q => t E fun c E1 => brB c (Q true E1) (u E1 Q)
def tNotD (t : TB) : TB := fun E Q => t E fun c E1 => Q (!c) E1
theorem dw_and1 {a : Expr} {t : TB} {pos : Pos} (ha : DT C X a t) : DW C X (.BoolOp .And [a] pos) t := pw_and1 ha
theorem dw_or1 {a : Expr} {t : TB} {pos : Pos} (ha : DT C X a t) : DW C X (.BoolOp .Or [a] pos) t := pw_or1 ha
theorem dw_and {a b : Expr} {rest : List Expr} {t u : TB} {pos : Pos} (ha : DT C X a t) (hb : DW C X (.BoolOp .And (b :: rest) pos) u) : DW C X (.BoolOp .And (a :: b :: rest) pos) (tAndD t u) :=
  (pw_and ha hb).imp fun σ H Q ⟨ps, Ep, E, Z, Qd, w, h, post⟩ => ⟨ps, Ep, E, Z, _, w, h, fun c E1 Z1 H1 w1 st1 h1 => by
    cases c with
    | true =>
      have h1 : u E1 Qd := (by first | exact h1.t | exact h1.f)
      exact ⟨ps, Ep, E1, Z1, Qd, w1, h1, fun b E2 Z2 H2 w2 st2 h2 => post b E2 Z2 H2 w2 (st1.trans st2) h2⟩
    | false => exact post false E1 Z1 H1 w1 st1 h1.f⟩
theorem dw_or {a b : Expr} {rest : List Expr} {t u : TB} {pos : Pos} (ha : DT C X a t) (hb : DW C X (.BoolOp .Or (b :: rest) pos) u) : DW C X (.BoolOp .Or (a :: b :: rest) pos) (tOrD t u) :=
  (pw_or ha hb).imp fun σ H Q ⟨ps, Ep, E, Z, Qd, w, h, post⟩ => ⟨ps, Ep, E, Z, _, w, h, fun c E1 Z1 H1 w1 st1 h1 => by
    cases c with
    | false =>
      have h1 : u E1 Qd := (by first | exact h1.t | exact h1.f)
      exact ⟨ps, Ep, E1, Z1, Qd, w1, h1, fun b E2 Z2 H2 w2 st2 h2 => post b E2 Z2 H2 w2 (st1.trans st2) h2⟩
    | true => exact post true E1 Z1 H1 w1 st1 h1.t⟩
theorem dt_w {e : Expr} {t : TB} (h : DW C X e t) : DT C X e t := PW.pt h
theorem dt_not {a : Expr} {t : TB} {pos : Pos} (ha : DT C X a t) : DT C X (.UnaryOp .Not a pos) (tNotD t) :=
  (pt_not ha).imp fun σ H Q ⟨ps, Ep, E, Z, Qd, w, h, post⟩ => ⟨ps, Ep, E, Z, _, w, h, fun c E1 Z1 H1 w1 st1 h1 => post _ E1 Z1 H1 w1 st1 h1⟩
/-- as values, of bools -/
def tAndV' (t u : TD) : TD := fun E Q => t E fun d E1 => match d with
  | .bl c => brB c (u E1 Q) (Q (.bl false) E1)
  | _ => False
def tOrV' (t u : TD) : TD := fun E Q => t E fun d E1 => match d with
  | .bl c => brB c (Q (.bl true) E1) (u E1 Q)
  | _ => False
theorem de_one {op} {a : Expr} {t : TD} {pos : Pos} (h : DE C X a t) : DE C X (.BoolOp op [a] pos) t := pe_one h
theorem de_and {a b : Expr} {rest : List Expr} {t u : TD} {pos : Pos} (ha : DE C X a t) (hb : DE C X (.BoolOp .And (b :: rest) pos) u) : DE C X (.BoolOp .And (a :: b :: rest) pos) (tAndV' t u) :=
  (pe_and ha hb).imp fun σ H Q ⟨ps, Ep, E, Z, Qd, w, h, post⟩ => ⟨ps, Ep, E, Z, _, w, h, fun d E1 Z1 H1 v w1 st1 r1 h1 => by
    cases r1 with
    | bl c =>
      refine ⟨c, rfl, ?_⟩
      cases c with
      | true =>
        have h1 : u E1 Qd := (by first | exact h1.t | exact h1.f)
        exact ⟨ps, Ep, E1, Z1, Qd, w1, h1, fun b E2 Z2 H2 v2 w2 st2 r2 h2 => post b E2 Z2 H2 v2 w2 (st1.trans st2) r2 h2⟩
      | false => exact post _ E1 Z1 H1 _ w1 st1 (.bl _) h1.f
    | _ => cases h1⟩
theorem de_or {a b : Expr} {rest : List Expr} {t u : TD} {pos : Pos} (ha : DE C X a t) (hb : DE C X (.BoolOp .Or (b :: rest) pos) u) : DE C X (.BoolOp .Or (a :: b :: rest) pos) (tOrV' t u) :=
  (pe_or ha hb).imp fun σ H Q ⟨ps, Ep, E, Z, Qd, w, h, post⟩ => ⟨ps, Ep, E, Z, _, w, h, fun d E1 Z1 H1 v w1 st1 r1 h1 => by
    cases r1 with
    | bl c =>
      refine ⟨c, rfl, ?_⟩
      cases c with
      | false =>
        have h1 : u E1 Qd := (by first | exact h1.t | exact h1.f)
        exact ⟨ps, Ep, E1, Z1, Qd, w1, h1, fun b E2 Z2 H2 v2 w2 st2 r2 h2 => post b E2 Z2 H2 v2 w2 (st1.trans st2) r2 h2⟩
      | true => exact post _ E1 Z1 H1 _ w1 st1 (.bl _) h1.t
    | _ => cases h1⟩
def oNotV : D → (D → Prop) → Prop := fun x q => match x with
  | .bl c => q (.bl (!c))
  | _ => False
theorem de_not {a : Expr} {t : TD} {pos : Pos} (ha : DE C X a t) : DE C X (.UnaryOp .Not a pos) (tUn1 oNotV t) := (pe_not ha).imp fun σ H Q ⟨ps, Ep, E, Z, Qd, w, h, post⟩ => ⟨ps, Ep, E, Z, _, w, h, fun d E1 Z1 H1 v w1 st1 r1 h1 => by
    cases r1 with
    | bl c => exact ⟨c, rfl, post _ E1 Z1 H1 _ w1 st1 (.bl _) h1⟩
    | _ => cases h1⟩
def tIfE (c : TB) (t u : TD) : TD := fun E Q => c E fun b E1 => brB b (t E1 Q) (u E1 Q)
theorem de_if {c a b : Expr} {tc : TB} {t u : TD} {pos : Pos} (hc : DT C X c tc) (ha : DE C X a t) (hb : DE C X b u) : DE C X (.IfExp c a b pos) (tIfE tc t u) :=
  (pe_ifExp hc ha hb).imp fun σ H Q ⟨ps, Ep, E, Z, Qd, w, h, post⟩ => ⟨ps, Ep, E, Z, _, w, h, fun c E1 Z1 H1 w1 st1 h1 => by
    cases c with
    | true => exact ⟨ps, Ep, E1, Z1, Qd, w1, h1.t, fun b E2 Z2 H2 v2 w2 st2 r2 h2 => post b E2 Z2 H2 v2 w2 (st1.trans st2) r2 h2⟩
    | false => exact ⟨ps, Ep, E1, Z1, Qd, w1, h1.f, fun b E2 Z2 H2 v2 w2 st2 r2 h2 => post b E2 Z2 H2 v2 w2 (st1.trans st2) r2 h2⟩⟩

/-! ### subscripts -/
def oIx : O2 := fun x y q => match x, y with
  | .tup ds, .int i => (match atI ds i with | some d => q d | none => False)
  | .lst ds, .int i => (match atI ds i with | some d => q d | none => False)
  | .str z, .int i => z.length ≤ sizeLine ∧ (match atI z.cps.toList i with | some c => q (.str ⟨#[c]⟩) | none => False)
  | _, _ => False
theorem Reps.atI {K : Frg} {Z : Addr → Prop} {H : Hp} {vs : List V} {ds : List D} {i : Int} {d : D} (r : Reps K Z H vs ds) (h : atI ds i = some d) : ∃ v, L2.atI vs i = some v ∧ Rep K Z H v d := by
  unfold L2.atI at h ⊢
  rw [r.length]
  cases q : ixN ds.length i with
  | none => rw [q] at h; cases h
  | some j =>
    rw [q] at h
    exact r.get (i := j) h
theorem meets_ix : Meets C oIx (rIx C.K) := fun Z H v w x y q Q rx ry h k => by
  unfold oIx at h
  split at h
  · split at h
    · rename_i e
      cases ry
      cases rx with
      | tup hs rs =>
        obtain ⟨v, e1, r⟩ := rs.atI e
        exact .inr (.inl ⟨_, _, _, v, rfl, rfl, hs, e1, k _ _ r h⟩)
    · cases h
  · split at h
    · rename_i e
      cases ry
      cases rx with
      | lst hs rs =>
        obtain ⟨v, e1, r⟩ := rs.atI e
        exact .inl ⟨_, _, _, v, rfl, rfl, hs.sq, e1, k _ _ r h⟩
    · cases h
  · obtain ⟨hz, h⟩ := h
    split at h
    · rename_i e
      cases ry
      cases rx
      exact .inr (.inr ⟨_, _, _, rfl, rfl, hz, e, k _ _ (.str _) h⟩)
    · cases h
  · cases h
theorem de_ix {a b : Expr} {ta tb : TD} {pos : Pos} (ha : DE C X a ta) (hb : DE C X b tb) (hs : PlainIx b := by exact fun _ _ => rfl) (hK : X.K = C.K := by rfl) : DE C X (.Subscript a b pos) (tOp2 oIx ta tb) :=
  (pe_ix ix_seq ha hb hs).imp fun σ H Q h => by
    rw [hK]
    exact op2_imp meets_ix σ H Q h
def S.knownB : S → Bool
  | .un => false
  | .nw _ _ => false
  | .nm _ _ => false
  | _ => true
/-- an item of what stands at a name, not taken over -/
def tIxO (i : Nat) (ti : TD) : TD := fun E Q => (match E[i]? with | some s => s.knownB = true | none => False) ∧ ti E fun k E1 => match E1[i]? with
  | some (.fr x) => oIx x k fun d => Q d E1
  | some (.ow t) => oIx t.fz k fun d => Q d E1
  | some (.mu t) => oIx t.fz k fun d => Q d E1
  | _ => False
theorem At.known {ps : Sg} {Ep : List S} {Z : Addr → Prop} {σ : Sg} {E : List S} {H : Hp} (w : At C ps Ep Z σ E H) {i : Nat} {s : S} (hlt : i < C.n) (e : E[i]? = some s) (h : s.knownB = true) : ∃ v, σ[i]? = some (some v) := by
  cases s with
  | un => cases h
  | fr d => obtain ⟨v, e1, _⟩ := w.get hlt e; exact ⟨v, e1⟩
  | ow t => obtain ⟨v, _, e1, _⟩ := w.tree hlt e (t := t) rfl; exact ⟨v, e1⟩
  | mu t => obtain ⟨v, _, e1, _⟩ := w.tree hlt e (t := t) rfl; exact ⟨v, e1⟩
  | rf a => exact ⟨_, w.getR hlt e⟩
  | nw a n => cases h
  | nm a n => cases h
theorem BRep.ix {Z : Addr → Prop} {H : Hp} {K : Frg} {v w : V} {x y : D} {q : D → Prop} {Q : VK} (rx : BRep K Z H v x) (ry : Rep K Z H w y) (h : oIx x y q) (k : ∀ z d, Rep K Z H z d → q d → Q z H) : rIx K v w H Q := by
  unfold oIx at h
  split at h
  · split at h
    · rename_i e
      cases ry
      obtain ⟨a, vs, rfl, hs, rs⟩ := rx.tup
      obtain ⟨v, e1, r⟩ := rs.atI e
      exact .inr (.inl ⟨_, _, _, v, rfl, rfl, hs, e1, k _ _ r h⟩)
    · cases h
  · split at h
    · rename_i e
      cases ry
      obtain ⟨a, vs, rfl, hs, rs⟩ := rx.lst
      obtain ⟨v, e1, r⟩ := rs.atI e
      exact .inl ⟨_, _, _, v, rfl, rfl, hs, e1, k _ _ r h⟩
    · cases h
  · obtain ⟨hz, h⟩ := h
    split at h
    · rename_i e
      cases ry
      cases rx.str
      exact .inr (.inr ⟨_, _, _, rfl, rfl, hz, e, k _ _ (.str _) h⟩)
    · cases h
  · cases h
theorem At.brep {ps : Sg} {Ep : List S} {Z : Addr → Prop} {σ : Sg} {E : List S} {H : Hp} (w : At C ps Ep Z σ E H) {i : Nat} {s : S} {t : T} (hlt : i < C.n) (e : E[i]? = some s) (et : s.tree? = some t) {v : V} (hv : σ[i]? = some (some v)) : BRep C.K Z H v t.fz := by
  obtain ⟨v', F, e1, r⟩ := w.tree hlt e et
  rw [hv] at e1
  cases e1
  exact .inr ⟨t, F, r, rfl⟩
theorem de_ixo (i : Nat) {x : Str} {b : Expr} {tb : TD} {pos pos' : Pos} (hb : DE C X b tb) (hN : X.N[i]? = some x := by rfl) (hlt : i < C.n := by exact Nat.le_of_ble_eq_true rfl) (hv : Vis X.env.scope x := by first | exact Or.inl rfl | exact Or.inr (Or.inl rfl) | exact Or.inr (Or.inr rfl)) (hd : (x == ("__debug__" : Str)) = false := by decide)
    (hcd : (x == ("__classdict__" : Str)) = false := by decide) (hs : PlainIx b := by exact fun _ _ => rfl) (hK : X.K = C.K := by rfl) : DE C X (.Subscript (.Name x pos') b pos) (tIxO i tb) :=
  (pe_ix ix_seq (pe_var hN hv hd hcd) hb hs).imp fun σ H Q ⟨ps, Ep, E, Z, Qd, w, ⟨hk, h⟩, post⟩ => by
    rw [hK]
    split at hk
    · rename_i s e
      obtain ⟨v, e1⟩ := w.known hlt e hk
      refine ⟨v, e1, ps, Ep, E, Z, _, w, h, fun k E1 Z1 H1 u w1 st1 r1 h1 => ?_⟩
      split at h1
      · rename_i d e2
        obtain ⟨v', e3, r3⟩ := w1.get hlt e2
        rw [e1] at e3; cases e3
        exact meets_ix Z1 H1 v u d k _ Q r3 r1 h1 fun z d rz q => post d E1 Z1 H1 z w1 st1 rz q
      · rename_i t e2
        exact (w1.brep hlt e2 rfl e1).ix r1 h1 fun z d rz q => post d E1 Z1 H1 z w1 st1 rz q
      · rename_i t e2
        exact (w1.brep hlt e2 rfl e1).ix r1 h1 fun z d rz q => post d E1 Z1 H1 z w1 st1 rz q
      · cases h1
    · cases hk
end
end DL
set_option Elab.async false
set_option linter.all false
set_option maxRecDepth 100000
set_option maxHeartbeats 4000000
/-! DL, part d: targets, what a loop walks, statements, comprehensions. -/
namespace DL
open PySem PySem.Spec PyProof.Rows L2

/-! ### targets -/
abbrev TGD := D → List S → (List S → Prop) → Prop
abbrev TGsD := List D → List S → (List S → Prop) → Prop
def tgOf (C : Ctx) (gs : List Nat) (t : TGD) : TG := fun v σ H Q => ∃ ps Ep E Z d Qe, At C ps Ep Z σ E H ∧ Rep C.K Z H v d ∧ t d E Qe ∧ ∀ σ' E', At C ps Ep Z σ' E' H → (σ'.length = σ.length ∧ ∀ j : Nat, j ∉ gs → σ'[j]? = σ[j]?) → Qe E' → Q σ' H
def tgsOf (C : Ctx) (gs : List Nat) (t : TGsD) : TGs := fun vs σ H Q => ∃ ps Ep E Z ds Qe, At C ps Ep Z σ E H ∧ Reps C.K Z H vs ds ∧ t ds E Qe ∧ ∀ σ' E', At C ps Ep Z σ' E' H → (σ'.length = σ.length ∧ ∀ j : Nat, j ∉ gs → σ'[j]? = σ[j]?) → Qe E' → Q σ' H
abbrev DG (C : Ctx) (X : Cx) (gs : List Nat) (e : Expr) (t : TGD) : Prop := PG X e (tgOf C gs t)
abbrev DGs (C : Ctx) (X : Cx) (gs : List Nat) (es : List Expr) (t : TGsD) : Prop := PGs X es (tgsOf C gs t)
theorem _root_.L2.PGs.imp {X : Cx} {es : List Expr} {t t' : TGs} (h : PGs X es t) (k : ∀ v σ H Q, t' v σ H Q → t v σ H Q) : PGs X es t' := ⟨fun pins s σ H v u Q I r q => h.run pins s σ H v u Q I r (k v σ H Q q)⟩
/-- a place that may be stored to -/
def S.free : Option S → Bool
  | some (.mu _) => false
  | some _ => true
  | none => false
theorem free_lt {E : List S} {i : Nat} (h : S.free E[i]? = true) : i < E.length ∧ ∀ t, E[i]? ≠ some (.mu t) := by
  refine ⟨Classical.byContradiction fun n => ?_, fun t e => ?_⟩
  · rw [List.getElem?_eq_none (by omega)] at h; cases h
  · rw [e] at h; cases h
def gN (i : Nat) : TGD := fun d E Q => S.free E[i]? = true ∧ Q (E.set i (.fr d))
section
variable {C : Ctx} {X : Cx} {pos : Pos}
theorem dg_n (i : Nat) {x : Str} (hN : X.N.Nodup) (hi : X.N[i]? = some x := by rfl) (hlt : i < C.n := by exact Nat.le_of_ble_eq_true rfl) (hx : Loc X.env.scope x := by first | exact .inl rfl | exact .inr rfl) (hf : X.fn x = true ∨ X.env.scope.names.lookup x = some .local := by first | exact .inl rfl | exact .inr rfl | assumption) :
    DG C X [i] (.Name x pos) (gN i) := (pg_name hN hi hx hf).imp fun v σ H Q ⟨ps, Ep, E, Z, d, Qe, w, r, ⟨h1, h⟩, post⟩ => by
  obtain ⟨f1, f2⟩ := free_lt h1
  exact post _ _ (w.setD hlt r f2) ⟨List.length_set, fun j hj => List.getElem?_set_ne (fun e => hj (by simp [e]))⟩ h
def gsNil : TGsD := fun ds E Q => match ds with
  | [] => Q E
  | _ => False
def gsCons (t : TGD) (u : TGsD) : TGsD := fun ds E Q => match ds with
  | d :: r => t d E fun E1 => u r E1 Q
  | [] => False
theorem dgs_nil : DGs C X [] [] gsNil := pgs_nil.imp fun vs σ H Q ⟨ps, Ep, E, Z, ds, Qe, w, r, h, post⟩ => by
  unfold gsNil at h
  split at h
  · cases r
    exact ⟨rfl, post _ _ w ⟨rfl, fun _ _ => rfl⟩ h⟩
  · cases h
theorem dgs_cons {e : Expr} {es : List Expr} {gs hs' : List Nat} {t : TGD} {u : TGsD} (h1 : DG C X gs e t) (h2 : DGs C X hs' es u) (hs : (assignEach (e :: es) X.env).map (·.2) = assign e X.env :: (assignEach es X.env).map (·.2) := by rfl) :
    DGs C X (gs ++ hs') (e :: es) (gsCons t u) := (pgs_cons h1 h2 hs).imp fun vs σ H Q ⟨ps, Ep, E, Z, ds, Qe, w, r, h, post⟩ => by
  unfold gsCons at h
  split at h
  · cases r with
    | cons rv rr =>
      refine ⟨_, _, rfl, ps, Ep, E, Z, _, _, w, rv, h, fun σ1 E1 w1 k1 h1 => ⟨ps, Ep, E1, Z, _, _, w1, rr, h1, fun σ2 E2 w2 k2 h2 => post σ2 E2 w2 ⟨k2.1.trans k1.1, fun j hj => ?_⟩ h2⟩⟩
      rw [k2.2 j fun m => hj (List.mem_append_right _ m), k1.2 j fun m => hj (List.mem_append_left _ m)]
  · cases h
def gTupD (n : Nat) (t : TGsD) : TGD := fun d E Q => match d with
  | .tup ds => ds.length = n ∧ t ds E Q
  | _ => False
theorem dg_tup {es : List Expr} {k : Nat} {gs : List Nat} {t : TGsD} {n : Nat} (h : DGs C X gs es t) (hc : X.calm = true := by rfl) (hn : (assignEach es X.env).length = n := by rfl) (hst : (assignEach es X.env).findIdx? (·.1) = none := by rfl) (hK : X.K = C.K := by rfl) :
    DG C X gs (.Tuple es k pos) (gTupD n t) := (pg_tup hc h hn hst).imp fun v σ H Q ⟨ps, Ep, E, Z, d, Qe, w, r, h, post⟩ => by
  unfold gTupD at h
  split at h
  · cases r with
    | tup hs rs =>
      rw [hK]
      exact ⟨_, _, rfl, hs, rs.length.trans h.1, ps, Ep, E, Z, _, Qe, w, rs, h.2, post⟩
  · cases h
end

/-! ### what a loop walks -/
structure Walks (C : Ctx) (J : It) (Z : Addr → Prop) (H : Hp) (ds : List D) (hold : Sg → List S → Prop) : Prop where
  stop : ∀ (Z2 : Addr → Prop) (σ2 : Sg) (E2 : List S) (H2 : Hp) (ps : Sg) (Ep : List S), Stp Z H Z2 H2 → At C ps Ep Z2 σ2 E2 H2 → hold σ2 E2 → ∀ i, ds.length ≤ i → J.stop i H2
  go : ∀ (Z2 : Addr → Prop) (σ2 : Sg) (E2 : List S) (H2 : Hp) (ps : Sg) (Ep : List S), Stp Z H Z2 H2 → At C ps Ep Z2 σ2 E2 H2 → hold σ2 E2 → ∀ (i : Nat) d, ds[i]? = some d → J.go i H2 ∧ ∀ x H3, J.yld i H2 x H3 →
    (H3 = H2 ∨ ∃ p o, H2 p = none ∧ H3 = upd H2 p o) ∧ Rep C.K Z2 H3 x d
abbrev TIt := List S → (List D → List S → Prop) → Prop
def tiOf (C : Ctx) (t : TIt) : TI := fun σ H R => ∃ ps Ep E Z Qi, At C ps Ep Z σ E H ∧ t E Qi ∧ ∀ J ds E' Z' H', At C ps Ep Z' σ E' H' → Stp Z H Z' H' → Walks C J Z' H' ds (fun _ _ => True) → Qi ds E' → R J H'
abbrev DI (C : Ctx) (X : Cx) (tg e : Expr) (t : TIt) : Prop := PI X tg e (tiOf C t)
section
variable {C : Ctx} {X : Cx} {tg : Expr}
def iSeq (K : Frg) (tl : TE) : TI := fun σ H R => tl σ H fun x H1 => ∃ a, x = .ref a ∧ (((∃ xs, SqL K H1 a xs) ∧ R (Itl K a) H1) ∨ ((∃ xs, SqT K H1 a xs) ∧ R (Itt K a) H1))
theorem pi_seq {l : Expr} {tl : TE} (hl : PE X l tl) : PI X tg l (iSeq X.K tl) := by
  refine ⟨fun pins s σ H R I h => ?_⟩
  refine thn (hl.run pins s σ H _ I h) fun v s1 ⟨x, H1, I1, r1, q1⟩ => ?_
  obtain ⟨a, e, q⟩ := q1
  subst e
  cases r1
  rcases q with ⟨⟨xs, hq⟩, q⟩ | ⟨⟨xs, hq⟩, q⟩
  · obtain ⟨its, rv, p, hz⟩ := I1.list hq
    refine wpAny_pyIter_list p.isList ?_
    refine ⟨s1.heap.objs.size, [s1.heap.objs.size], _, _, H1, rfl, I1.kept (t' := s1.toks) fun b o e => Heap.get?_push_of_some _ e, turn_list a _, ⟨_, Heap.get?_push_size _ rfl, rfl, rfl⟩, fun b hb => ?_, q⟩
    have e : b = s1.heap.objs.size := by simpa using hb
    subst e
    exact I1.fpOk (Nat.le_refl _) (I1.hok.fresh (Nat.le_refl _))
  · obtain ⟨its, rv, p, hz⟩ := I1.tuple hq
    refine wpAny_pyIter_tuple (show s1.heap.IsTuple a its.toArray from p) ?_
    refine ⟨s1.heap.objs.size, [s1.heap.objs.size], _, _, H1, rfl, I1.kept (t' := s1.toks) fun b o e => Heap.get?_push_of_some _ e, turn_tuple a _, ⟨_, Heap.get?_push_size _ rfl, rfl, rfl⟩, fun b hb => ?_, q⟩
    have e : b = s1.heap.objs.size := by simpa using hb
    subst e
    exact I1.fpOk (Nat.le_refl _) (I1.hok.fresh (Nat.le_refl _))
theorem walks_lst {Z : Addr → Prop} {H : Hp} {a : Addr} {vs : List V} {ds : List D} (h : LsS C.K Z H a vs) (r : Reps C.K Z H vs ds) : Walks C (Itl C.K a) Z H ds (fun _ _ => True) :=
  ⟨fun Z2 σ2 E2 H2 ps Ep st w _ i hi => ⟨vs, (h.mono st).sq, by rw [r.length]; exact hi⟩, fun Z2 σ2 E2 H2 ps Ep st w _ i d e => by
    obtain ⟨v, e1, rv⟩ := (r.mono st).get e
    refine ⟨⟨vs, v, (h.mono st).sq, e1⟩, fun x H3 y => ?_⟩
    obtain ⟨y1, y2⟩ := y
    subst y1
    have := y2 vs (h.mono st).sq
    rw [e1] at this
    cases this
    exact ⟨.inl rfl, rv⟩⟩
theorem walks_tup {Z : Addr → Prop} {H : Hp} {a : Addr} {vs : List V} {ds : List D} (h : SqT C.K H a vs) (r : Reps C.K Z H vs ds) : Walks C (Itt C.K a) Z H ds (fun _ _ => True) :=
  ⟨fun Z2 σ2 E2 H2 ps Ep st w _ i hi => ⟨vs, sqT_mono st h, by rw [r.length]; exact hi⟩, fun Z2 σ2 E2 H2 ps Ep st w _ i d e => by
    obtain ⟨v, e1, rv⟩ := (r.mono st).get e
    refine ⟨⟨vs, v, sqT_mono st h, e1⟩, fun x H3 y => ?_⟩
    obtain ⟨y1, y2⟩ := y
    subst y1
    have := y2 vs (sqT_mono st h)
    rw [e1] at this
    cases this
    exact ⟨.inl rfl, rv⟩⟩
def tiSeq (t : TD) : TIt := fun E Q => t E fun d E1 => match d with
  | .lst ds => Q ds E1
  | .tup ds => Q ds E1
  | .scr ds => Q ds E1
  | _ => False
theorem di_seq {l : Expr} {t : TD} (hl : DE C X l t) (hK : X.K = C.K := by rfl) : DI C X tg l (tiSeq t) := (pi_seq hl).imp fun σ H R ⟨ps, Ep, E, Z, Qd, w, h, post⟩ => by
  rw [hK]
  refine ⟨ps, Ep, E, Z, _, w, h, fun d E1 Z1 H1 v w1 st1 r1 h1 => ?_⟩
  split at h1
  · cases r1 with
    | lst hs rs => exact ⟨_, rfl, .inl ⟨⟨_, hs.sq⟩, post _ _ E1 Z1 H1 w1 st1 (walks_lst (.inl hs) rs) h1⟩⟩
  · cases r1 with
    | tup hs rs => exact ⟨_, rfl, .inr ⟨⟨_, hs⟩, post _ _ E1 Z1 H1 w1 st1 (walks_tup hs rs) h1⟩⟩
  · cases r1 with
    | scr hs rs => exact ⟨_, rfl, .inl ⟨⟨_, hs.sq⟩, post _ _ E1 Z1 H1 w1 st1 (walks_lst hs rs) h1⟩⟩
  · cases h1
/-- the ints of a range -/
def rng (i j : Int) : List D := (List.range (j - i).toNat).map fun k : Nat => .int (i + (k : Int))
theorem rng_get {i j : Int} {k : Nat} {d : D} (h : (rng i j)[k]? = some d) : k < (j - i).toNat ∧ d = .int (i + k) := by
  unfold rng at h
  rw [List.getElem?_map] at h
  cases e : (List.range (j - i).toNat)[k]? with
  | none => rw [e] at h; cases h
  | some m =>
    rw [e] at h
    obtain ⟨h1, h2⟩ := List.getElem?_eq_some_iff.mp e
    rw [List.getElem_range] at h2
    rw [List.length_range] at h1
    subst h2
    cases h
    exact ⟨h1, rfl⟩
theorem rng_len (i j : Int) : (rng i j).length = (j - i).toNat := by unfold rng; rw [List.length_map, List.length_range]
theorem walks_rng {Z : Addr → Prop} {H : Hp} (i j : Int) : Walks C (Itr i (j - i).toNat) Z H (rng i j) (fun _ _ => True) :=
  ⟨fun Z2 σ2 E2 H2 ps Ep st w _ k hk => by rw [rng_len] at hk; exact hk, fun Z2 σ2 E2 H2 ps Ep st w _ k d e => by
    obtain ⟨h1, h2⟩ := rng_get e
    refine ⟨h1, fun x H3 y => ?_⟩
    obtain ⟨y1, y2⟩ := y
    subst y1 y2 h2
    exact ⟨.inl rfl, .int _⟩⟩
def rgOk (i j : Int) : Prop := -(2 ^ 62) ≤ i ∧ i < 2 ^ 62 ∧ -(2 ^ 62) ≤ j ∧ j < 2 ^ 62
def tiRng1 (t : TD) : TIt := fun E Q => t E fun d E1 => match d with
  | .int j => rgOk 0 j ∧ Q (rng 0 j) E1
  | _ => False
def tiRng2 (t u : TD) : TIt := fun E Q => t E fun d E1 => u E1 fun e E2 => match d, e with
  | .int i, .int j => rgOk i j ∧ Q (rng i j) E2
  | _, _ => False
theorem di_range1 {a : Expr} {t : TD} {p pos : Pos} (hg : Gl X "range") (hm : X.mg "range" = none) (ha : DE C X a t) (hs : starEach [a] X.env = [(false, eval a X.env)] := by rfl) : DI C X tg (.Call (.Name "range" p) [a] [] pos) (tiRng1 t) :=
  (pi_range1 hg hm (pa_cons ha pa_nil hs) hs).imp fun σ H R ⟨ps, Ep, E, Z, Qd, w, h, post⟩ => ⟨ps, Ep, E, Z, _, w, h, fun d E1 Z1 H1 v w1 st1 r1 h1 => by
    split at h1
    · obtain ⟨⟨_, _, k1, k2⟩, h1⟩ := h1
      cases r1
      refine ⟨_, rfl, k1, k2, post _ _ E1 Z1 H1 w1 st1 ?_ h1⟩
      have := walks_rng (C := C) (Z := Z1) (H := H1) 0 (by assumption)
      rw [Int.sub_zero] at this
      exact this
    · cases h1⟩
theorem di_range2 {a b : Expr} {t u : TD} {p pos : Pos} (hg : Gl X "range") (hm : X.mg "range" = none) (ha : DE C X a t) (hb : DE C X b u) (hs : starEach [a, b] X.env = [(false, eval a X.env), (false, eval b X.env)] := by rfl) (hs2 : starEach [b] X.env = [(false, eval b X.env)] := by rfl) :
    DI C X tg (.Call (.Name "range" p) [a, b] [] pos) (tiRng2 t u) :=
  (pi_range2 hg hm (pa_cons ha (pa_cons hb pa_nil hs2) (by rw [hs, hs2])) hs hs2).imp fun σ H R ⟨ps, Ep, E, Z, Qd, w, h, post⟩ => ⟨ps, Ep, E, Z, _, w, h, fun d E1 Z1 H1 v w1 st1 r1 h1 =>
    ⟨ps, Ep, E1, Z1, _, w1, h1, fun e E2 Z2 H2 v2 w2 st2 r2 h2 => by
      split at h2
      · obtain ⟨k, h2⟩ := h2
        cases r1; cases r2
        exact ⟨_, _, rfl, k, post _ _ E2 Z2 H2 w2 (st1.trans st2) (walks_rng _ _) h2⟩
      · cases h2⟩⟩
end

/-! ### statements -/
structure DEnd where
  nx : List S → Prop
  rt : S → List S → Prop
  bk : List S → Prop := fun _ => False
  ct : List S → Prop := fun _ => False
abbrev TSD := DEnd → List S → Prop
def ResAt (C : Ctx) (ps : Sg) (Ep : List S) (Z : Addr → Prop) (σ : Sg) (E : List S) (H : Hp) (v : V) : S → Prop
  | .fr d => At C ps Ep Z σ E H ∧ Rep C.K Z H v d
  | .ow tr => At C (ps ++ [some v]) (Ep ++ [.ow tr]) Z σ E H
  | .rf a => At C ps Ep Z σ E H ∧ v = .ref a
  | _ => False
structure Fits (C : Ctx) (ps : Sg) (Ep : List S) (Z : Addr → Prop) (H : Hp) (Dd : DEnd) (Dn : Ends) : Prop where
  nx : ∀ σ' E' Z' H', At C ps Ep Z' σ' E' H' → Stp Z H Z' H' → Dd.nx E' → Dn.nx σ' H'
  bk : ∀ σ' E' Z' H', At C ps Ep Z' σ' E' H' → Stp Z H Z' H' → Dd.bk E' → Dn.bk σ' H'
  ct : ∀ σ' E' Z' H', At C ps Ep Z' σ' E' H' → Stp Z H Z' H' → Dd.ct E' → Dn.ct σ' H'
  rt : ∀ r σ' E' Z' H' v, ResAt C ps Ep Z' σ' E' H' v r → Stp Z H Z' H' → Dd.rt r E' → Dn.rt v H'
  e : ps = [] ∧ Ep = []
theorem Fits.on {C : Ctx} {ps : Sg} {Ep : List S} {Z Z' : Addr → Prop} {H H' : Hp} {Dd : DEnd} {Dn : Ends} (f : Fits C ps Ep Z H Dd Dn) (st : Stp Z H Z' H') : Fits C ps Ep Z' H' Dd Dn :=
  ⟨fun σ' E' Z2 H2 w s h => f.nx σ' E' Z2 H2 w (st.trans s) h, fun σ' E' Z2 H2 w s h => f.bk σ' E' Z2 H2 w (st.trans s) h, fun σ' E' Z2 H2 w s h => f.ct σ' E' Z2 H2 w (st.trans s) h, fun r σ' E' Z2 H2 v w s h => f.rt r σ' E' Z2 H2 v w (st.trans s) h, f.e⟩
def tsOf (C : Ctx) (t : TSD) : TS := fun Dn σ H => ∃ ps Ep E Z Dd, At C ps Ep Z σ E H ∧ t Dd E ∧ Fits C ps Ep Z H Dd Dn
abbrev DS (C : Ctx) (X : Cx) (st : Stmt) (t : TSD) : Prop := PS X st (tsOf C t)
abbrev DSs (C : Ctx) (X : Cx) (st : List Stmt) (t : TSD) : Prop := PSs X st (tsOf C t)
section
variable {C : Ctx} {X : Cx} {pos : Pos}
def dNext : TSD := fun D E => D.nx E
def dSeq (t u : TSD) : TSD := fun D E => t { D with nx := u D } E
theorem dss_nil : DSs C X [] dNext := pss_nil.imp fun Dn σ H ⟨ps, Ep, E, Z, Dd, w, h, f⟩ => f.nx σ E Z H w (Stp.refl _ _) h
theorem dss_cons {st : Stmt} {rest : List Stmt} {t u : TSD} (h1 : DS C X st t) (h2 : DSs C X rest u) : DSs C X (st :: rest) (dSeq t u) := (pss_cons h1 h2).imp fun Dn σ H ⟨ps, Ep, E, Z, Dd, w, h, f⟩ =>
  ⟨ps, Ep, E, Z, _, w, h, ⟨fun σ' E' Z' H' w' st' h' => ⟨ps, Ep, E', Z', Dd, w', h', f.on st'⟩, f.bk, f.ct, f.rt, f.e⟩⟩
/-- two in a row, what holds between them told -/
def dSeqJ (t u : TSD) : TSD := fun D E => ∃ J : List S → Prop, t { D with nx := J } E ∧ ∀ E', J E' → u D E'
theorem dss_join {st : Stmt} {rest : List Stmt} {t u : TSD} (h1 : DS C X st t) (h2 : DSs C X rest u) : DSs C X (st :: rest) (dSeqJ t u) := (pss_cons h1 h2).imp fun Dn σ H ⟨ps, Ep, E, Z, Dd, w, ⟨J, h, k⟩, f⟩ =>
  ⟨ps, Ep, E, Z, _, w, h, ⟨fun σ' E' Z' H' w' st' h' => ⟨ps, Ep, E', Z', Dd, w', k E' h', f.on st'⟩, f.bk, f.ct, f.rt, f.e⟩⟩
theorem dss_one {st : Stmt} {t : TSD} (h1 : DS C X st t) : DSs C X [st] t := pss_one h1
def dBreak : TSD := fun D E => D.bk E
def dCont : TSD := fun D E => D.ct E
theorem ds_pass : DS C X (.Pass pos) dNext := ps_pass.imp fun Dn σ H ⟨ps, Ep, E, Z, Dd, w, h, f⟩ => f.nx σ E Z H w (Stp.refl _ _) h
theorem ds_break : DS C X (.Break pos) dBreak := ps_break.imp fun Dn σ H ⟨ps, Ep, E, Z, Dd, w, h, f⟩ => f.bk σ E Z H w (Stp.refl _ _) h
theorem ds_continue : DS C X (.Continue pos) dCont := ps_continue.imp fun Dn σ H ⟨ps, Ep, E, Z, Dd, w, h, f⟩ => f.ct σ E Z H w (Stp.refl _ _) h
def dNever : TSD := fun _ _ => False
theorem ds_never {st : Stmt} : DS C X st dNever := ps_never.imp fun Dn σ H ⟨_, _, _, _, _, _, h, _⟩ => h
def dExpr (t : TD) : TSD := fun D E => t E fun _ E1 => D.nx E1
theorem ds_expr {e : Expr} {t : TD} (he : DE C X e t) (hs : swapsWith e none pos.line X.env = pure false := by rfl) : DS C X (.Expr e pos) (dExpr t) := (ps_expr he hs).imp fun Dn σ H ⟨ps, Ep, E, Z, Dd, w, h, f⟩ =>
  ⟨ps, Ep, E, Z, _, w, h, fun d E1 Z1 H1 v w1 st1 r1 h1 => f.nx σ E1 Z1 H1 w1 st1 h1⟩
def dRet (t : TD) : TSD := fun D E => t E fun d E1 => D.rt (.fr d) E1
theorem ds_ret {e : Expr} {t : TD} (he : DE C X e t) : DS C X (.Return (some e) pos) (dRet t) := (ps_ret he).imp fun Dn σ H ⟨ps, Ep, E, Z, Dd, w, h, f⟩ =>
  ⟨ps, Ep, E, Z, _, w, h, fun d E1 Z1 H1 v w1 st1 r1 h1 => f.rt (.fr d) σ E1 Z1 H1 v ⟨w1, r1⟩ st1 h1⟩
def dRetN (t : TN) : TSD := fun D E => t E fun tr E1 => D.rt (.ow tr) E1
theorem ds_retn {e : Expr} {t : TN} (he : DN C X e t) : DS C X (.Return (some e) pos) (dRetN t) := (ps_ret he).imp fun Dn σ H ⟨ps, Ep, E, Z, Dd, w, h, f⟩ =>
  ⟨ps, Ep, E, Z, _, w, h, fun tr E1 Z1 H1 v w1 st1 h1 => f.rt (.ow tr) σ E1 Z1 H1 v w1 st1 h1⟩
def dRet0 : TSD := fun D E => D.rt (.fr .non) E
theorem ds_ret0 : DS C X (.Return none pos) dRet0 := ps_retN.imp fun Dn σ H ⟨ps, Ep, E, Z, Dd, w, h, f⟩ => f.rt (.fr .non) σ E Z H _ ⟨w, .non⟩ (Stp.refl _ _) h
/-- an owned tree at a name is given out -/
def dRetV (i : Nat) : TSD := fun D E => match E[i]? with
  | some (.ow t) => D.rt (.ow t) (E.set i .un)
  | _ => False
theorem WdF.lift {Z : Addr → Prop} {σ ps : Sg} {E Ep : List S} {H : Hp} {F : Foot} (w : WdF C Z (σ ++ ps) (E ++ Ep) H F) (hl : σ.length = E.length) {i : Nat} {t : T} {v : V} (e : E[i]? = some (.ow t)) (hv : σ[i]? = some (some v)) :
    Wd C Z (σ ++ (ps ++ [some v])) (E.set i .un ++ (Ep ++ [.ow t])) H := by
  have hi := (List.getElem?_eq_some_iff.mp e).1
  have ei : (E ++ Ep)[i]? = some (.ow t) := up_get e
  have hlen := w.sl.len
  refine ⟨fun j => if j = i then [] else if j = (E ++ Ep).length then F i else F j, ?_⟩
  have lE : (E.set i .un ++ (Ep ++ [S.ow t])).length = (E ++ Ep).length + 1 := by
    simp only [List.length_append, List.length_set, List.length_singleton]
    omega
  have gE : ∀ j s, (E.set i .un ++ (Ep ++ [S.ow t]))[j]? = some s → (j = i ∧ s = .un) ∨ (j ≠ i ∧ j = (E ++ Ep).length ∧ s = .ow t) ∨ (j ≠ i ∧ j < (E ++ Ep).length ∧ (E ++ Ep)[j]? = some s) := by
    intro j s ej
    by_cases q : j = i
    · subst q
      rw [List.getElem?_append_left (by rw [List.length_set]; exact hi), List.getElem?_set_self hi] at ej
      cases ej
      exact .inl ⟨rfl, rfl⟩
    · have hj := (List.getElem?_eq_some_iff.mp ej).1
      rw [lE] at hj
      by_cases q2 : j = (E ++ Ep).length
      · rw [← List.append_assoc, List.getElem?_append_right (by rw [List.length_append, List.length_set, ← List.length_append]; omega)] at ej
        rw [List.length_append, List.length_set, ← List.length_append, q2, Nat.sub_self] at ej
        cases ej
        exact .inr (.inl ⟨q, q2, rfl⟩)
      · refine .inr (.inr ⟨q, by omega, ?_⟩)
        rw [← List.append_assoc, List.getElem?_append_left (by rw [List.length_append, List.length_set, ← List.length_append]; omega)] at ej
        by_cases q3 : j < E.length
        · rw [List.getElem?_append_left (by rw [List.length_set]; exact q3), List.getElem?_set_ne (Ne.symm q)] at ej
          exact up_get ej
        · rw [List.getElem?_append_right (by rw [List.length_set]; omega), List.length_set] at ej
          rw [List.getElem?_append_right (by omega)]
          exact ej
  have gσ : ∀ j, j < (E ++ Ep).length → (σ ++ (ps ++ [some v])).getD j none = (σ ++ ps).getD j none := fun j hj => by
    rw [List.getD_eq_getElem?_getD, List.getD_eq_getElem?_getD, ← List.append_assoc, List.getElem?_append_left (by omega)]
  have gl : (σ ++ (ps ++ [some v])).getD (E ++ Ep).length none = some v := by
    rw [List.getD_eq_getElem?_getD, ← List.append_assoc, List.getElem?_append_right (by omega), hlen, Nat.sub_self]
    rfl
  have iN : i < (E ++ Ep).length := (List.getElem?_eq_some_iff.mp ei).1
  have Fi := w.sl.rep i _ ei
  rw [List.getD_eq_getElem?_getD, List.getElem?_append_left (List.getElem?_eq_some_iff.mp hv).1, hv] at Fi
  have Fi : ∃ v', some v = some v' ∧ TRep C.K Z H v' t (F i) := Fi
  refine ⟨⟨?_, fun j s ej => ?_, fun j hj => ?_, fun j => ?_, fun j l a h1 h2 => ?_⟩, fun j a h => ?_, fun j u a ej nu ha => ?_, fun j u a ej nu ha => ?_, fun j u ej => ?_, w.fr, w.z0, w.zn, w.zt, w.kt, w.fl, fun j b n ej => ?_⟩
  · rw [lE, ← List.append_assoc, List.length_append, hlen]; rfl
  · rcases gE j s ej with ⟨rfl, rfl⟩ | ⟨q, rfl, rfl⟩ | ⟨q, q2, e2⟩
    · rw [if_pos rfl]; exact rfl
    · rw [if_neg q, if_pos rfl, gl]; exact Fi
    · rw [if_neg q, if_neg (by omega), gσ j q2]; exact w.sl.rep j s e2
  · rw [lE] at hj
    rw [if_neg (by omega), if_neg (by omega)]
    exact w.sl.out j (by omega)
  · split
    · exact List.nodup_nil
    · split
      · exact w.sl.nd i
      · exact w.sl.nd j
  · split at h1
    · cases h1
    · split at h2
      · cases h2
      · split at h1
        · split at h2
          · omega
          · have := w.sl.dj _ _ a h1 h2; omega
        · split at h2
          · have := w.sl.dj _ _ a h1 h2; omega
          · exact w.sl.dj _ _ a h1 h2
  · split at h
    · cases h
    · split at h
      · exact w.nz i a h
      · exact w.nz j a h
  · rcases gE j _ ej with ⟨rfl, q⟩ | ⟨q, rfl, q1⟩ | ⟨q, q2, e2⟩
    · subst q; cases nu
    · subst q1
      rw [if_neg q, if_pos rfl] at ha
      exact w.own i _ a ei rfl ha
    · rw [if_neg q, if_neg (by omega)] at ha
      exact w.own j u a e2 nu ha
  · rcases gE j _ ej with ⟨rfl, q⟩ | ⟨q, rfl, q1⟩ | ⟨q, q2, e2⟩
    · subst q; cases nu
    · subst q1; cases nu
    · rw [if_neg q, if_neg (by omega)] at ha
      exact w.mum j u a e2 nu ha
  · rcases gE j _ ej with ⟨rfl, q⟩ | ⟨q, rfl, q1⟩ | ⟨q, q2, e2⟩
    · cases q
    · cases q1
    · obtain ⟨x, e3, e4⟩ := w.mus j u e2
      refine ⟨x, e3, ?_⟩
      rw [← List.append_assoc, List.getElem?_append_left (by omega)]
      exact e4
  · rcases gE j _ ej with ⟨rfl, q⟩ | ⟨q, rfl, q1⟩ | ⟨q, q2, e2⟩
    · cases q
    · cases q1
    · exact w.idn j b n e2
theorem At.lift {C : Ctx} {ps : Sg} {Ep : List S} {Z : Addr → Prop} {σ : Sg} {E : List S} {H : Hp} (w : At C ps Ep Z σ E H) {i : Nat} {t : T} {v : V} (e : E[i]? = some (.ow t)) (hv : σ[i]? = some (some v)) :
    At C (ps ++ [some v]) (Ep ++ [.ow t]) Z σ (E.set i .un) H := by
  obtain ⟨hn, τ, hl, F, f⟩ := w
  refine ⟨hn, τ, by rw [List.length_set]; exact hl, ?_⟩
  exact f.lift (by rw [List.length_append]; exact hl) e (by rw [List.getElem?_append_left (List.getElem?_eq_some_iff.mp hv).1]; exact hv)
theorem ds_retv (i : Nat) {x : Str} {pos' : Pos} (hN : X.N[i]? = some x := by rfl) (hlt : i < C.n := by exact Nat.le_of_ble_eq_true rfl) (hv : Vis X.env.scope x := by first | exact Or.inl rfl | exact Or.inr (Or.inl rfl) | exact Or.inr (Or.inr rfl)) (hd : (x == ("__debug__" : Str)) = false := by decide)
    (hcd : (x == ("__classdict__" : Str)) = false := by decide) : DS C X (.Return (some (.Name x pos')) pos) (dRetV i) := (ps_ret (pe_var hN hv hd hcd)).imp fun Dn σ H ⟨ps, Ep, E, Z, Dd, w, h, f⟩ => by
  unfold dRetV at h
  split at h
  · rename_i t e
    obtain ⟨v, F, e1, r⟩ := w.tree hlt e (t := t) rfl
    exact ⟨v, e1, f.rt (.ow t) σ _ Z H v (w.lift e e1) (Stp.refl _ _) h⟩
  · cases h
def dIf (c : TB) (t u : TSD) : TSD := fun D E => c E fun b E1 => brB b (t D E1) (u D E1)
theorem ds_if {c : Expr} {a b : List Stmt} {tc : TB} {t u : TSD} (hc : DT C X c tc) (ha : DSs C X a t) (hb : DSs C X b u) : DS C X (.If c a b pos) (dIf tc t u) := (ps_if hc ha hb).imp fun Dn σ H ⟨ps, Ep, E, Z, Dd, w, h, f⟩ =>
  ⟨ps, Ep, E, Z, _, w, h, fun b E1 Z1 H1 w1 st1 h1 => by
    cases b with
    | true => exact ⟨ps, Ep, E1, Z1, Dd, w1, h1.t, f.on st1⟩
    | false => exact ⟨ps, Ep, E1, Z1, Dd, w1, h1.f, f.on st1⟩⟩
def dAsg (t : TD) (g : TGD) : TSD := fun D E => t E fun d E1 => g d E1 D.nx
theorem ds_asg {gs : List Nat} {tg e : Expr} {t : TD} {g : TGD} (he : DE C X e t) (hg : DG C X gs tg g) (hs : swapsWithSole [tg] e pos.line X.env = pure false := by rfl) (hw : swappedStores [tg] e X.env = pure none := by rfl)
    (h1 : (assignEach [tg] X.env).map (·.2) = [assign tg X.env] := by rfl) : DS C X (.Assign [tg] e pos) (dAsg t g) := (ps_asg he hg hs hw h1).imp fun Dn σ H ⟨ps, Ep, E, Z, Dd, w, h, f⟩ =>
  ⟨ps, Ep, E, Z, _, w, h, fun d E1 Z1 H1 v w1 st1 r1 h1 => ⟨ps, Ep, E1, Z1, d, _, w1, r1, h1, fun σ' E' w' _ q => f.nx σ' E' Z1 H1 w' st1 q⟩⟩
def dSet (i : Nat) (t : TD) : TSD := fun D E => t E fun d E1 => S.free E1[i]? = true ∧ D.nx (E1.set i (.fr d))
theorem ds_set (i : Nat) {x : Str} {e : Expr} {t : TD} {pos' : Pos} (hN : X.N.Nodup) (he : DE C X e t) (hi : X.N[i]? = some x := by rfl) (hlt : i < C.n := by exact Nat.le_of_ble_eq_true rfl) (hx : Loc X.env.scope x := by first | exact .inl rfl | exact .inr rfl) (hs : swapsWith e (some (.Name x pos')) pos.line X.env = pure false := by rfl)
    (hf : X.fn x = true ∨ X.env.scope.names.lookup x = some .local := by first | exact .inl rfl | exact .inr rfl | assumption) : DS C X (.Assign [.Name x pos'] e pos) (dSet i t) := (ps_set hN hi hx he hs hf).imp fun Dn σ H ⟨ps, Ep, E, Z, Dd, w, h, f⟩ =>
  ⟨ps, Ep, E, Z, _, w, h, fun d E1 Z1 H1 v w1 st1 r1 ⟨h0, h1⟩ => by
    obtain ⟨f1, f2⟩ := free_lt h0
    exact f.nx _ _ Z1 H1 (w1.setD hlt r1 f2) st1 h1⟩
def dSetN (i : Nat) (t : TN) : TSD := fun D E => t E fun tr E1 => S.free E1[i]? = true ∧ D.nx (E1.set i (.ow tr))
theorem ds_setn (i : Nat) {x : Str} {e : Expr} {t : TN} {pos' : Pos} (hN : X.N.Nodup) (he : DN C X e t) (hi : X.N[i]? = some x := by rfl) (hlt : i < C.n := by exact Nat.le_of_ble_eq_true rfl) (hx : Loc X.env.scope x := by first | exact .inl rfl | exact .inr rfl) (hs : swapsWith e (some (.Name x pos')) pos.line X.env = pure false := by rfl)
    (hf : X.fn x = true ∨ X.env.scope.names.lookup x = some .local := by first | exact .inl rfl | exact .inr rfl | assumption) : DS C X (.Assign [.Name x pos'] e pos) (dSetN i t) := (ps_set hN hi hx he hs hf).imp fun Dn σ H ⟨ps, Ep, E, Z, Dd, w, h, f⟩ =>
  ⟨ps, Ep, E, Z, _, w, h, fun tr E1 Z1 H1 v w1 st1 ⟨h0, h1⟩ => by
    obtain ⟨f1, f2⟩ := free_lt h0
    exact f.nx _ _ Z1 H1 (w1.setP hlt f2) st1 h1⟩
/-- name op= e, ints and texts -/
def dAug (i : Nat) (o : O2) (t : TD) : TSD := fun D E => match E[i]? with
  | some (.fr x) => t E fun y E1 => o x y fun z => S.free E1[i]? = true ∧ D.nx (E1.set i (.fr z))
  | _ => False
theorem ds_aug (i : Nat) {x : Str} {e : Expr} {t : TD} {op : Operator} {o : O2} {r : R2} {pos' : Pos} (hN : X.N.Nodup) (ho : OpR X (inplaceOp op) r ∧ Meets C o r) (he : DE C X e t) (hi : X.N[i]? = some x := by rfl) (hlt : i < C.n := by exact Nat.le_of_ble_eq_true rfl) (hx : Loc X.env.scope x := by first | exact .inl rfl | exact .inr rfl)
    (hf : X.fn x = true ∨ X.env.scope.names.lookup x = some .local := by first | exact .inl rfl | exact .inr rfl | assumption) : DS C X (.AugAssign (.Name x pos') op e pos) (dAug i o t) := (ps_aug hN hi hx he (fun pins s σ H x y v u Q I r1 r2 h => ho.1 pins s σ H x y v u Q I r1 r2 h) hf).imp fun Dn σ H ⟨ps, Ep, E, Z, Dd, w, h, f⟩ => by
  unfold dAug at h
  split at h
  · rename_i d e
    obtain ⟨v, e1, r0⟩ := w.get hlt e
    refine ⟨v, e1, ps, Ep, E, Z, _, w, h, fun y E1 Z1 H1 u w1 st1 r1 h1 => ho.2 Z1 H1 v u d y _ _ (r0.mono st1) r1 h1 fun z dz rz q => ?_⟩
    obtain ⟨f1, f2⟩ := free_lt q.1
    exact f.nx _ _ Z1 H1 (w1.setD hlt rz f2) st1 q.2
  · cases h
def rAddI : R2 := fun x y H Q => (∃ i j, x = .int i ∧ y = .int j ∧ Q (.int (i + j)) H) ∨ ∃ i j, x = .str i ∧ y = .str j ∧ i.length + j.length ≤ sizeLine ∧ Q (.str (i ++ j)) H
theorem i_add : OpR X (inplaceOp .Add) rAddA ∧ Meets C oAdd rAddA := ⟨iop_add.or iop_add_str, (o_add (X := X)).2⟩
theorem i_sub : OpR X (inplaceOp .Sub) (rI0 fun i j => .int (i - j)) ∧ Meets C (oI (iInt fun i j => i - j)) (rI0 fun i j => .int (i - j)) := ⟨iop_sub, meets_I fun _ _ _ _ _ => .int _⟩
/-- for -/
def dFor (t : TIt) (g : TGD) (tb : TSD) : TSD := fun D E => t E fun ds E1 => ∃ I : Nat → List S → Prop, I 0 E1 ∧ (∀ (i : Nat) d E', ds[i]? = some d → I i E' → g d E' fun E2 => tb { nx := I (i + 1), ct := I (i + 1), bk := D.nx, rt := D.rt } E2) ∧ ∀ E', I ds.length E' → D.nx E'
theorem ds_for {gs : List Nat} {tg iter : Expr} {body : List Stmt} {t : TIt} {g : TGD} {tb : TSD} (hp : PassesOwn (model X.prog X.w) X.A X.env X.xe) (hi : DI C X tg iter t) (hg : DG C X gs tg g) (hb : DSs C X body tb) (hc : X.calm = true := by rfl)
    (hs : ∀ x, foldedSetIterable iter X.env x = pure x := by intro _; rfl) : DS C X (.For tg iter body [] pos) (dFor t g tb) := (ps_for hp hc hi hg hb hs).imp fun Dn σ H ⟨ps, Ep, E, Z, Dd, w, h, f⟩ =>
  ⟨ps, Ep, E, Z, _, w, h, fun J ds E1 Z1 H1 w1 st1 wk ⟨I, i0, step, fin⟩ => by
    refine ⟨fun i m σ' H' => m = ds.length - i ∧ i ≤ ds.length ∧ ∃ E' Z', At C ps Ep Z' σ' E' H' ∧ Stp Z1 H1 Z' H' ∧ I i E', ⟨_, rfl, Nat.zero_le _, E1, Z1, w1, Stp.refl _ _, i0⟩, ?_⟩
    rintro i m σ' H' ⟨rfl, hle, E', Z', w', st', hi'⟩
    by_cases hlt : i < ds.length
    · obtain ⟨go, yl⟩ := wk.go Z' σ' E' H' ps Ep st' w' trivial i _ (List.getElem?_eq_getElem hlt)
      refine .inr ⟨go, fun σ2 H2 => ∃ E2 Z2, At C ps Ep Z2 σ2 E2 H2 ∧ Stp Z1 H1 Z2 H2 ∧ I (i + 1) E2, fun σ2 H2 ⟨E2, Z2, w2, st2, h2⟩ => ⟨ds.length - (i + 1), by omega, rfl, hlt, E2, Z2, w2, st2, h2⟩, fun x H3 y => ?_⟩
      obtain ⟨hh, rx⟩ := yl x H3 y
      have w3 : At C ps Ep Z' σ' E' H3 ∧ Stp Z' H' Z' H3 := by
        rcases hh with e | ⟨p, o, hp, e⟩
        · subst e; exact ⟨w', Stp.refl _ _⟩
        · subst e; exact ⟨w'.new hp, Stp.new w'.zt hp⟩
      refine ⟨ps, Ep, E', Z', _, _, w3.1, rx, step i _ E' (List.getElem?_eq_getElem hlt) hi', fun σ2 E2 w2 _ h2 => ⟨ps, Ep, E2, Z', _, w2, h2, ?_⟩⟩
      have stA := st'.trans w3.2
      exact ⟨fun σ5 E5 Z5 H5 w5 st5 h5 => ⟨E5, Z5, w5, stA.trans st5, h5⟩, fun σ5 E5 Z5 H5 w5 st5 h5 => f.nx σ5 E5 Z5 H5 w5 (st1.trans (stA.trans st5)) h5, fun σ5 E5 Z5 H5 w5 st5 h5 => ⟨E5, Z5, w5, stA.trans st5, h5⟩,
        fun r σ5 E5 Z5 H5 v w5 st5 h5 => f.rt r σ5 E5 Z5 H5 v w5 (st1.trans (stA.trans st5)) h5, f.e⟩
    · have e : i = ds.length := by omega
      subst e
      exact .inl ⟨wk.stop Z' σ' E' H' ps Ep st' w' trivial _ (Nat.le_refl _), f.nx σ' E' Z' H' w' (st1.trans st') (fin E' hi')⟩⟩
/-- while -/
def dWhile (c : TB) (tb : TSD) : TSD := fun D E => ∃ W : Nat → List S → Prop, (∃ m, W m E) ∧ ∀ m E', W m E' → c E' fun b E1 => brB b (tb { nx := fun E2 => ∃ m', m' < m ∧ W m' E2, ct := fun E2 => ∃ m', m' < m ∧ W m' E2, bk := D.nx, rt := D.rt } E1) (D.nx E1)
theorem ds_while {c : Expr} {body : List Stmt} {tc : TB} {tb : TSD} (hp : PassesOwn (model X.prog X.w) X.A X.env X.xe) (hc : DT C X c tc) (hb : DSs C X body tb) : DS C X (.While c body [] pos) (dWhile tc tb) := (ps_while hp hc hb).imp fun Dn σ H ⟨ps, Ep, E, Z, Dd, w, ⟨W, ⟨m0, w0⟩, turn⟩, f⟩ => by
  refine ⟨fun m σ' H' => ∃ E' Z', At C ps Ep Z' σ' E' H' ∧ Stp Z H Z' H' ∧ W m E', ⟨m0, E, Z, w, Stp.refl _ _, w0⟩, ?_⟩
  rintro m σ' H' ⟨E', Z', w', st', wm⟩
  refine ⟨ps, Ep, E', Z', _, w', turn m E' wm, fun b E1 Z1 H1 w1 st1 h1 => ?_⟩
  cases b with
  | true =>
    rw [if_pos rfl]
    replace h1 := h1.t
    refine ⟨fun σ2 H2 => ∃ m', m' < m ∧ ∃ E2 Z2, At C ps Ep Z2 σ2 E2 H2 ∧ Stp Z H Z2 H2 ∧ W m' E2, fun σ2 H2 h => h, ps, Ep, E1, Z1, _, w1, h1, ?_⟩
    have stA := st'.trans st1
    exact ⟨fun σ5 E5 Z5 H5 w5 st5 ⟨m', hm, h5⟩ => ⟨m', hm, E5, Z5, w5, stA.trans st5, h5⟩, fun σ5 E5 Z5 H5 w5 st5 h5 => f.nx σ5 E5 Z5 H5 w5 (stA.trans st5) h5, fun σ5 E5 Z5 H5 w5 st5 ⟨m', hm, h5⟩ => ⟨m', hm, E5, Z5, w5, stA.trans st5, h5⟩,
        fun r σ5 E5 Z5 H5 v w5 st5 h5 => f.rt r σ5 E5 Z5 H5 v w5 (stA.trans st5) h5, f.e⟩
  | false =>
    rw [if_neg Bool.false_ne_true]
    replace h1 := h1.f
    exact f.nx σ' E1 Z1 H1 w1 (st'.trans st1) h1
end
end DL
set_option Elab.async false
set_option linter.all false
set_option maxRecDepth 100000
set_option maxHeartbeats 4000000
/-! DL, part e: comprehensions, calls, defs. -/
namespace DL
open PySem PySem.Spec PyProof.Rows L2

section
variable {C : Ctx} {Z Z' : Addr → Prop} {σ : Sg} {E : List S} {H H' : Hp} {F : Foot}
theorem SRep.un {K : Frg} {o : Option V} : SRep K Z H o .un [] := rfl
/-- places chosen anew -/
theorem WdF.re (w : WdF C Z σ E H F) (φ : Nat → Nat) {σ2 : Sg} {E2 : List S} (len : σ2.length = E2.length)
    (h : ∀ (j : Nat) s, E2[j]? = some s → s = .un ∨ (E[φ j]? = some s ∧ σ2.getD j none = σ.getD (φ j) none ∧ (s.isMu = true → φ j = j)))
    (inj : ∀ (j l : Nat) s u, E2[j]? = some s → E2[l]? = some u → s ≠ .un → u ≠ .un → φ j = φ l → j = l) : Wd C Z σ2 E2 H := by
  have key : ∀ (j : Nat) a, a ∈ (match E2[j]? with | some .un => [] | some _ => F (φ j) | none => ([] : List Addr)) → ∃ s, E2[j]? = some s ∧ s ≠ .un ∧ a ∈ F (φ j) := fun j a ha => by
    cases e : E2[j]? with
    | none => rw [e] at ha; cases ha
    | some s =>
      rw [e] at ha
      cases s with
      | un => cases ha
      | fr d => exact ⟨_, rfl, (fun q => nomatch q), ha⟩
      | ow d => exact ⟨_, rfl, (fun q => nomatch q), ha⟩
      | mu d => exact ⟨_, rfl, (fun q => nomatch q), ha⟩
      | rf a => exact ⟨_, rfl, (fun q => nomatch q), ha⟩
      | nw a n => exact ⟨_, rfl, (fun q => nomatch q), ha⟩
      | nm a n => exact ⟨_, rfl, (fun q => nomatch q), ha⟩
  refine ⟨fun j => match E2[j]? with | some .un => [] | some _ => F (φ j) | none => [], ⟨⟨len, fun j s e => ?_, fun j hj => ?_, fun j => ?_, fun j l a h1 h2 => ?_⟩, fun j a ha => ?_, fun j t a e nu ha => ?_, fun j t a e nu ha => ?_, fun j t e => ?_, w.fr, w.z0, w.zn, w.zt, w.kt, w.fl, fun j b n e => ?_⟩⟩
  · show SRep _ _ _ _ s (match E2[j]? with | some .un => [] | some _ => F (φ j) | none => [])
    rw [e]
    rcases h j s e with q | ⟨q1, q2, _⟩
    · subst q; exact rfl
    · rw [q2]
      have z := w.sl.rep _ s q1
      cases s with
      | un => exact rfl
      | fr d => exact z
      | ow t => exact z
      | mu t => exact z
      | rf a => exact z
      | nw a n => exact z
      | nm a n => exact z
  · show (match E2[j]? with | some .un => [] | some _ => F (φ j) | none => []) = []
    rw [List.getElem?_eq_none hj]
  · show (match E2[j]? with | some .un => [] | some _ => F (φ j) | none => []).Nodup
    split
    · exact List.nodup_nil
    · exact w.sl.nd _
    · exact List.nodup_nil
  · obtain ⟨s, e1, n1, m1⟩ := key j a h1
    obtain ⟨u, e2, n2, m2⟩ := key l a h2
    exact inj j l s u e1 e2 n1 n2 (w.sl.dj _ _ a m1 m2)
  · obtain ⟨s, e1, n1, m1⟩ := key j a ha
    exact w.nz _ a m1
  · obtain ⟨s, e1, n1, m1⟩ := key j a ha
    rw [e] at e1; cases e1
    rcases h j _ e with q | ⟨q1, q2, _⟩
    · subst q; cases nu
    · exact w.own _ t a q1 nu m1
  · obtain ⟨s, e1, n1, m1⟩ := key j a ha
    rw [e] at e1; cases e1
    rcases h j _ e with q | ⟨q1, q2, q3⟩
    · subst q; cases nu
    · have := q3 nu
      rw [this] at q1 m1
      exact w.mum _ t a q1 nu m1
  · rcases h j _ e with q | ⟨q1, q2, q3⟩
    · cases q
    · have q := q3 rfl
      rw [q] at q1 q2
      obtain ⟨v, e1, e2⟩ := w.mus j t q1
      refine ⟨v, e1, getD_some ?_⟩
      rw [q2]
      exact of_getD e2
  · rcases h j _ e with q | ⟨q1, q2, q3⟩
    · cases q
    · have q := q3 rfl
      rw [q] at q1
      exact w.idn j b n q1
end

section
variable {C : Ctx} {ps : Sg} {Ep : List S} {Z Z' : Addr → Prop} {σ : Sg} {E : List S} {H H' : Hp}
theorem getD_left {α : Type} {a b : List (Option α)} {i : Nat} (h : i < a.length) : (a ++ b).getD i none = a.getD i none := by
  rw [List.getD_eq_getElem?_getD, List.getD_eq_getElem?_getD, List.getElem?_append_left h]
theorem getD_right {α : Type} {a b : List (Option α)} {i : Nat} (h : a.length ≤ i) : (a ++ b).getD i none = b.getD (i - a.length) none := by
  rw [List.getD_eq_getElem?_getD, List.getD_eq_getElem?_getD, List.getElem?_append_right h]
/-- other values at places where nothing is known -/
theorem At.resig (w : At C ps Ep Z σ E H) {σ' : Sg} (hl : σ'.length = σ.length) (h : ∀ (j : Nat) s, E[j]? = some s → s ≠ .un → σ'[j]? = σ[j]?) : At C ps Ep Z σ' E H := by
  obtain ⟨hn, τ, h0, F, f⟩ := w
  have fl := f.sl.len
  refine ⟨hl.trans hn, τ, by omega, f.re (fun j => j) (by rw [← fl]; simp only [List.length_append]; omega) (fun j s e => ?_) fun _ _ _ _ _ _ _ _ e => e⟩
  by_cases q : s = .un
  · exact .inl q
  · refine .inr ⟨e, ?_, fun _ => rfl⟩
    by_cases hj : j < σ.length
    · rw [List.append_assoc, List.append_assoc, getD_left (by omega), getD_left hj]
      rw [List.getElem?_append_left (by omega)] at e
      rw [List.getD_eq_getElem?_getD, List.getD_eq_getElem?_getD, h j s e q]
    · rw [List.append_assoc, List.append_assoc, getD_right (a := σ') (by omega), getD_right (a := σ) (by omega), hl]
def wipeE (E : List S) : List Nat → List S
  | [] => E
  | v :: vs => (wipeE E vs).set v .un
theorem wipeE_length (E : List S) : ∀ vs : List Nat, (wipeE E vs).length = E.length
  | [] => rfl
  | v :: vs => by unfold wipeE; rw [List.length_set, wipeE_length E vs]
theorem wipe_len (σ : Sg) : ∀ vs : List Nat, (L2.wipe σ vs).length = σ.length
  | [] => rfl
  | v :: vs => by unfold L2.wipe; rw [List.length_set, wipe_len σ vs]
theorem At.wipe (w : At C ps Ep Z σ E H) : ∀ vs : List Nat, At C ps Ep Z (L2.wipe σ vs) (wipeE E vs) H
  | [] => w
  | v :: vs => by
    have q := w.wipe vs
    unfold L2.wipe wipeE
    by_cases hv : v < C.n
    · exact q.forget hv
    · rw [List.set_eq_of_length_le (show (L2.wipe σ vs).length ≤ v by rw [q.1]; omega)]
      by_cases h2 : v < (wipeE E vs).length
      · have r := q.forgetG h2
        rw [if_neg hv] at r
        exact r
      · rw [List.set_eq_of_length_le (by omega)]
        exact q
/-- one more item to a pending list -/
theorem At.snocP {D' : Addr} {acc : List D} {y : V} {d : D} (w : At C (ps ++ [some (.ref D')]) (Ep ++ [.ow (.lst acc)]) Z σ E H) (r : Rep C.K Z H y d) :
    ∃ vs, H D' = some (.lst vs) ∧ vs.length = acc.length ∧ Stp Z H Z (upd H D' (.lst (vs ++ [y]))) ∧ At C (ps ++ [some (.ref D')]) (Ep ++ [.ow (.lst (acc ++ [d]))]) Z σ E (upd H D' (.lst (vs ++ [y]))) := by
  obtain ⟨hn, τ, hl, w⟩ := w
  have fl := w.len
  have e1 : (E ++ (Ep ++ [S.ow (.lst acc)]))[(E ++ Ep).length]? = some (.ow (.lst acc)) := by
    rw [← List.append_assoc, List.getElem?_append_right (Nat.le_refl _), Nat.sub_self]; rfl
  have e2 : (σ ++ τ ++ (ps ++ [some (V.ref D')]))[(E ++ Ep).length]? = some (some (.ref D')) := by
    have e : (σ ++ τ ++ ps).length = (E ++ Ep).length := by
      simp only [List.length_append, List.length_singleton] at fl ⊢
      omega
    rw [← List.append_assoc, List.getElem?_append_right (by omega), e, Nat.sub_self]; rfl
  obtain ⟨a, vs, e3, h, rs, k⟩ := w.list e1 (ds := acc) rfl
  rw [e2] at e3
  cases e3
  obtain ⟨st, w2⟩ := k (vs ++ [y]) (acc ++ [d]) (rs.append (.one r))
  refine ⟨vs, h, rs.length, st, hn, τ, hl, ?_⟩
  rw [← List.append_assoc E, List.set_append_right _ _ (Nat.le_refl _), Nat.sub_self, List.append_assoc E] at w2
  exact w2

/-! ### comprehensions -/
variable {X : Cx}
structure PTsD (C : Ctx) (X : Cx) (ifs : List Expr) (t : TB) : Prop where
  pts : PTs X ifs (ttOf C t)
def tYesD : TB := fun E Q => Q true E
theorem dts_nil : PTs X [] (ttOf C tYesD) := ⟨fun pins s σ H Q I ⟨ps, Ep, E, Z, Qd, w, h, post⟩ => (pts_nil (X := X)).run pins s σ H Q I (post true E Z H w (Stp.refl _ _) h)⟩
theorem dts_one {c : Expr} {t : TB} (h : DT C X c t) : PTs X [c] (ttOf C t) := pts_one h
def tLcD (t : TIt) (g : TGD) (tt : TB) (te : TD) (own : List Nat) : TN := fun E Q => t E fun ds E1 => ∃ I : Nat → List D → List S → Prop, I 0 [] (wipeE E1 own) ∧
  (∀ (i : Nat) d acc E', ds[i]? = some d → I i acc E' → g d E' fun E2 => tt E2 fun b E3 => brB b (te E3 fun y E4 => acc.length < sizeLine ∧ I (i + 1) (acc ++ [y]) (wipeE E4 own)) (I (i + 1) acc (wipeE E3 own))) ∧
  ∀ acc E', I ds.length acc E' → (∀ j ∈ own, E'[j]? = some .un ∨ E'[j]? = none) → Q (.lst acc) E'
theorem wipeE_un (E : List S) : ∀ (vs : List Nat) (j : Nat), j ∈ vs → (wipeE E vs)[j]? = some .un ∨ (wipeE E vs)[j]? = none
  | [], _, h => by cases h
  | v :: vs, j, h => by
    unfold wipeE
    by_cases q : v = j
    · subst q
      by_cases hv : v < (wipeE E vs).length
      · rw [List.getElem?_set_self hv]; exact .inl rfl
      · rw [List.getElem?_eq_none (by rw [List.length_set]; omega)]; exact .inr rfl
    · rw [List.getElem?_set_ne q]
      exact wipeE_un E vs j ((List.mem_cons.mp h).resolve_left fun e => q e.symm)
theorem wipe_eq {σ σ' : Sg} : ∀ {vs : List Nat}, (∀ j : Nat, j ∉ vs → σ'[j]? = σ[j]?) → σ'.length = σ.length → L2.wipe σ' vs = L2.wipe σ vs := fun {vs} h hl => by
  refine List.ext_getElem? fun j => ?_
  by_cases hj : j ∈ vs
  · have one : ∀ (τ : Sg) (vs : List Nat), j ∈ vs → (L2.wipe τ vs)[j]? = if j < τ.length then some none else none := by
      intro τ vs
      induction vs with
      | nil => intro h; cases h
      | cons v vs ih =>
        intro h
        unfold L2.wipe
        by_cases q : v = j
        · subst q
          by_cases hv : v < τ.length
          · rw [List.getElem?_set_self (by rw [wipe_length]; exact hv), if_pos hv]
          · rw [List.getElem?_eq_none (by rw [List.length_set, wipe_length]; omega), if_neg hv]
        · rw [List.getElem?_set_ne q]
          exact ih ((List.mem_cons.mp h).resolve_left fun e => q e.symm)
    rw [one σ' vs hj, one σ vs hj, hl]
  · rw [wipe_out hj, wipe_out hj, h j hj]
theorem lc_imp {t : TIt} {g : TGD} {tt : TB} {te : TD} {own : List Nat} {gs : List Nat} (hgs : ∀ j ∈ gs, j ∈ own) (σ : Sg) (H : Hp) (Q : VK) (h : neOf C (tLcD t g tt te own) σ H Q) : tLc (tiOf C t) (tgOf C gs g) (ttOf C tt) (teOf C te) own σ H Q := by
  obtain ⟨ps, Ep, E, Z, Qd, w, h, post⟩ := h
  refine ⟨ps, Ep, E, Z, _, w, h, fun J ds E1 Z1 H1 w1 st1 wk ⟨I, i0, step, fin⟩ D' hD => ?_⟩
  obtain ⟨stp, wp⟩ := w1.push hD (vs := []) (ds := []) .nil
  refine ⟨fun i m H' => m = ds.length - i ∧ i ≤ ds.length ∧ ∃ E' Z' acc, At C (ps ++ [some (.ref D')]) (Ep ++ [.ow (.lst acc)]) Z' (L2.wipe σ own) E' H' ∧ Stp Z1 H1 Z' H' ∧ I i acc E' ∧ ∀ j ∈ own, E'[j]? = some .un ∨ E'[j]? = none,
    ⟨_, rfl, Nat.zero_le _, _, Z1, [], wp.wipe own, stp, i0, wipeE_un _ _⟩, ?_⟩
  rintro i m H' ⟨rfl, hle, E', Z', acc, w', st', hi', hun⟩
  by_cases hlt : i < ds.length
  · obtain ⟨go, yl⟩ := wk.go Z' _ E' H' _ _ st' w' trivial i _ (List.getElem?_eq_getElem hlt)
    refine .inr ⟨go, fun H2 => ∃ E2 Z2 acc, At C (ps ++ [some (.ref D')]) (Ep ++ [.ow (.lst acc)]) Z2 (L2.wipe σ own) E2 H2 ∧ Stp Z1 H1 Z2 H2 ∧ I (i + 1) acc E2 ∧ ∀ j ∈ own, E2[j]? = some .un ∨ E2[j]? = none,
      fun H2 ⟨E2, Z2, acc2, w2, st2, h2, u2⟩ => ⟨ds.length - (i + 1), by omega, rfl, hlt, E2, Z2, acc2, w2, st2, h2, u2⟩, fun x H3 y => ?_⟩
    obtain ⟨hh, rx⟩ := yl x H3 y
    have w3 : At C (ps ++ [some (.ref D')]) (Ep ++ [.ow (.lst acc)]) Z' (L2.wipe σ own) E' H3 ∧ Stp Z' H' Z' H3 := by
      rcases hh with e | ⟨p, o, hp, e⟩
      · subst e; exact ⟨w', Stp.refl _ _⟩
      · subst e; exact ⟨w'.new hp, Stp.new w'.zt hp⟩
    have stA := st'.trans w3.2
    refine ⟨_, _, E', Z', _, _, w3.1, rx, step i _ acc E' (List.getElem?_eq_getElem hlt) hi', fun σ2 E2 w2 k2 h2 => ?_⟩
    have hl2 : σ2.length = (L2.wipe σ own).length := k2.1
    have ww : L2.wipe σ2 own = L2.wipe σ own := by
      rw [wipe_eq (σ := L2.wipe σ own) (fun j hj => k2.2 j fun m => hj (hgs j m)) hl2]
      refine wipe_eq (fun j hj => wipe_out hj) (wipe_length σ own)
    refine ⟨ww, _, _, E2, Z', _, w2, h2, fun b E3 Z3 H4 w4 st4 h4 => ?_⟩
    cases b with
    | true =>
      rw [if_pos rfl]
      replace h4 := h4.t
      refine ⟨_, _, E3, Z3, _, w4, h4, fun d E5 Z5 H5 v w5 st5 r5 ⟨hz, h5⟩ => ?_⟩
      obtain ⟨vs, e6, l6, st6, w6⟩ := w5.snocP r5
      refine ⟨vs, e6, by rw [l6]; exact hz, wipeE E5 own, Z5, acc ++ [d], ?_, stA.trans (st4.trans (st5.trans st6)), h5, wipeE_un _ _⟩
      rw [← ww]
      exact w6.wipe own
    | false =>
      rw [if_neg Bool.false_ne_true]
      replace h4 := h4.f
      refine ⟨wipeE E3 own, Z3, acc, ?_, stA.trans st4, h4, wipeE_un _ _⟩
      rw [← ww]
      exact w4.wipe own
  · have e : i = ds.length := by omega
    subst e
    refine .inl ⟨wk.stop Z' _ E' H' _ _ st' w' trivial _ (Nat.le_refl _), post _ E' Z' H' _ (w'.resig (wipe_length σ own).symm fun j s ej hs => ?_) (st1.trans st') (fin acc E' hi' hun)⟩
    have hj : j ∉ own := fun m => by
      rcases hun j m with z | z
      · rw [ej] at z; cases z; exact hs rfl
      · rw [ej] at z; cases z
    exact (wipe_out hj).symm
theorem dn_lc {elt tg iter : Expr} {ifs : List Expr} {scope : Scope} {own : List (Str × Nat)} {pos : Pos} {t : TIt} {g : TGD} {tt : TB} {te : TD} {gs : List Nat} (hN : X.N.Nodup) (hi : DI C X tg iter t) (ok : BlkOk X.N X.env.scope scope own)
    (hg : ∀ (s : Shared) (H : Hp) (a : Addr) (cl : List (Str × Addr)) (fp : List Addr), DG C (X.blk s H scope (compEnvC scope cl a X.env) fp) gs tg g) (ht : ∀ (s : Shared) (H : Hp) (a : Addr) (cl : List (Str × Addr)) (fp : List Addr), PTs (X.blk s H scope (compEnvC scope cl a X.env) fp) ifs (ttOf C tt))
    (he : ∀ (s : Shared) (H : Hp) (a : Addr) (cl : List (Str × Addr)) (fp : List Addr), DE C (X.blk s H scope (compEnvC scope cl a X.env) fp) elt te) (hc : X.calm = true := by rfl) (hgs : ∀ j ∈ gs, j ∈ own.map (·.2) := by decide) (hs : ∀ x, foldedSetIterable iter X.env x = pure x := by intro _; rfl) :
    DN C X (.ListComp elt [⟨tg, iter, ifs, 0⟩] scope pos) (tLcD t g tt te (own.map (·.2))) := (pe_lc hc hN hi ok hg ht he hs).imp (lc_imp hgs)
/-- name = [..] on one line -/
theorem ds_setlc (i : Nat) {y : Str} {py : Pos} {elt tg iter : Expr} {ifs : List Expr} {scope : Scope} {own : List (Str × Nat)} {pos spos : Pos} {t : TIt} {g : TGD} {tt : TB} {te : TD} {gs : List Nat} (hN : X.N.Nodup) (hi : DI C X tg iter t) (ok : BlkOk X.N X.env.scope scope own)
    (hg : ∀ (s : Shared) (H : Hp) (a : Addr) (cl : List (Str × Addr)) (fp : List Addr), DG C (X.blk s H scope (compEnvC scope cl a X.env) fp) gs tg g) (ht : ∀ (s : Shared) (H : Hp) (a : Addr) (cl : List (Str × Addr)) (fp : List Addr), PTs (X.blk s H scope (compEnvC scope cl a X.env) fp) ifs (ttOf C tt))
    (he : ∀ (s : Shared) (H : Hp) (a : Addr) (cl : List (Str × Addr)) (fp : List Addr), DE C (X.blk s H scope (compEnvC scope cl a X.env) fp) elt te) (hy : X.N[i]? = some y := by rfl) (hlt : i < C.n := by exact Nat.le_of_ble_eq_true rfl) (hyl : X.env.scope.names.lookup y = some .local := by rfl)
    (hsw : swapsWith (.ListComp elt [⟨tg, iter, ifs, 0⟩] scope pos) (some (.Name y py)) spos.line X.env = pure true := by exact sw_true rfl rfl rfl (by decide +kernel)) (hc : X.calm = true := by rfl) (hgs : ∀ j ∈ gs, j ∈ own.map (·.2) := by decide)
    (hs : ∀ x, foldedSetIterable iter X.env x = pure x := by intro _; rfl) :
    DS C X (.Assign [.Name y py] (.ListComp elt [⟨tg, iter, ifs, 0⟩] scope pos) spos) (dSetN i (tLcD t g tt te (own.map (·.2)))) := (ps_setLc hc hN hy hyl hsw hi ok hg ht he hs).imp fun Dn σ H ⟨ps, Ep, E, Z, Dd, w, h, f⟩ => by
  refine lc_imp hgs σ H _ ⟨ps, Ep, E, Z, _, w, h, fun tr E1 Z1 H1 v w1 st1 ⟨h0, h1⟩ => ?_⟩
  obtain ⟨f1, f2⟩ := free_lt h0
  exact f.nx _ _ Z1 H1 (w1.setP hlt f2) st1 h1
/-! ### a comprehension over an owned list at a name, only looked at -/
def lstIs (E : List S) (j : Nat) (ds : List D) : Prop := ∃ s, E[j]? = some s ∧ s.tree? = some (.lst ds)
def tibOf (C : Ctx) (j : Nat) (t : TIt) : TI := fun σ H R => ∃ ps Ep E Z Qi, At C ps Ep Z σ E H ∧ t E Qi ∧ ∀ J ds E' Z' H', At C ps Ep Z' σ E' H' → Stp Z H Z' H' → Walks C J Z' H' ds (fun σ2 E2 => σ2[j]? = σ[j]? ∧ lstIs E2 j ds) → Qi ds E' → R J H'
def tiB (j : Nat) : TIt := fun E Q => match E[j]? with
  | some (.ow (.lst ds)) => Q ds E
  | some (.mu (.lst ds)) => Q ds E
  | _ => False
theorem di_b (j : Nat) {x : Str} {pos : Pos} {tg : Expr} (hN : X.N[j]? = some x := by rfl) (hlt : j < C.n := by exact Nat.le_of_ble_eq_true rfl) (hv : Vis X.env.scope x := by first | exact Or.inl rfl | exact Or.inr (Or.inl rfl) | exact Or.inr (Or.inr rfl)) (hd : (x == ("__debug__" : Str)) = false := by decide)
    (hcd : (x == ("__classdict__" : Str)) = false := by decide) (hK : X.K = C.K := by rfl) : PI X tg (.Name x pos) (tibOf C j (tiB j)) := (pi_list (pe_var hN hv hd hcd)).imp fun σ H R ⟨ps, Ep, E, Z, Qd, w, h, post⟩ => by
  rw [hK]
  have main : ∀ {s : S} {ds : List D}, E[j]? = some s → s.tree? = some (.lst ds) → Qd ds E → iList C.K (tVar j) σ H R := fun {s ds} e et q => by
    obtain ⟨a, vs, e1, ha, rs, _⟩ := w.list hlt e et
    have get : ∀ {Z2 : Addr → Prop} {σ2 : Sg} {E2 : List S} {H2 : Hp} {ps : Sg} {Ep : List S}, At C ps Ep Z2 σ2 E2 H2 → σ2[j]? = σ[j]? → lstIs E2 j ds → ∃ vs2, H2 a = some (.lst vs2) ∧ Reps C.K Z2 H2 vs2 ds := fun {Z2 σ2 E2 H2 ps Ep} w2 es ⟨s2, g1, g2⟩ => by
      obtain ⟨a2, vs2, g3, g4, g5, _⟩ := w2.list hlt g1 g2
      rw [es, e1] at g3
      cases g3
      exact ⟨vs2, g4, g5⟩
    refine ⟨_, e1, a, rfl, ⟨vs, .of ha⟩, post _ ds E Z H w (Stp.refl _ _) ⟨fun Z2 σ2 E2 H2 ps Ep st w2 hh i hi => ?_, fun Z2 σ2 E2 H2 ps Ep st w2 hh i d ed => ?_⟩ q⟩
    · obtain ⟨vs2, g1, g2⟩ := get w2 hh.1 hh.2
      exact ⟨vs2, .of g1, by rw [g2.length]; exact hi⟩
    · obtain ⟨vs2, g1, g2⟩ := get w2 hh.1 hh.2
      obtain ⟨v, e2, rv⟩ := g2.get ed
      refine ⟨⟨vs2, v, .of g1, e2⟩, fun x H3 y => ?_⟩
      obtain ⟨y1, y2⟩ := y
      subst y1
      have := y2 vs2 (.of g1)
      rw [e2] at this
      cases this
      exact ⟨.inl rfl, rv⟩
  unfold tiB at h
  split at h
  · rename_i ds e; exact main e rfl h
  · rename_i ds e; exact main e rfl h
  · cases h
def tLcB (j : Nat) (t : TIt) (g : TGD) (tt : TB) (te : TD) (own : List Nat) : TN := fun E Q => t E fun ds E1 => ∃ I : Nat → List D → List S → Prop, I 0 [] (wipeE E1 own) ∧ (∀ i acc E', I i acc E' → lstIs E' j ds) ∧
  (∀ (i : Nat) d acc E', ds[i]? = some d → I i acc E' → g d E' fun E2 => tt E2 fun b E3 => brB b (te E3 fun y E4 => acc.length < sizeLine ∧ I (i + 1) (acc ++ [y]) (wipeE E4 own)) (I (i + 1) acc (wipeE E3 own))) ∧
  ∀ acc E', I ds.length acc E' → (∀ j ∈ own, E'[j]? = some .un ∨ E'[j]? = none) → Q (.lst acc) E'
theorem lcB_imp {j0 : Nat} {t : TIt} {g : TGD} {tt : TB} {te : TD} {own : List Nat} {gs : List Nat} (hj0 : j0 ∉ own) (hgs : ∀ j ∈ gs, j ∈ own) (σ : Sg) (H : Hp) (Q : VK) (h : neOf C (tLcB j0 t g tt te own) σ H Q) : tLc (tibOf C j0 t) (tgOf C gs g) (ttOf C tt) (teOf C te) own σ H Q := by
  obtain ⟨ps, Ep, E, Z, Qd, w, h, post⟩ := h
  refine ⟨ps, Ep, E, Z, _, w, h, fun J ds E1 Z1 H1 w1 st1 wk ⟨I, i0, hold, step, fin⟩ D' hD => ?_⟩
  obtain ⟨stp, wp⟩ := w1.push hD (vs := []) (ds := []) .nil
  refine ⟨fun i m H' => m = ds.length - i ∧ i ≤ ds.length ∧ ∃ E' Z' acc, At C (ps ++ [some (.ref D')]) (Ep ++ [.ow (.lst acc)]) Z' (L2.wipe σ own) E' H' ∧ Stp Z1 H1 Z' H' ∧ I i acc E' ∧ ∀ j ∈ own, E'[j]? = some .un ∨ E'[j]? = none,
    ⟨_, rfl, Nat.zero_le _, _, Z1, [], wp.wipe own, stp, i0, wipeE_un _ _⟩, ?_⟩
  rintro i m H' ⟨rfl, hle, E', Z', acc, w', st', hi', hun⟩
  by_cases hlt : i < ds.length
  · obtain ⟨go, yl⟩ := wk.go Z' _ E' H' _ _ st' w' ⟨wipe_out hj0, hold _ _ _ hi'⟩ i _ (List.getElem?_eq_getElem hlt)
    refine .inr ⟨go, fun H2 => ∃ E2 Z2 acc, At C (ps ++ [some (.ref D')]) (Ep ++ [.ow (.lst acc)]) Z2 (L2.wipe σ own) E2 H2 ∧ Stp Z1 H1 Z2 H2 ∧ I (i + 1) acc E2 ∧ ∀ j ∈ own, E2[j]? = some .un ∨ E2[j]? = none,
      fun H2 ⟨E2, Z2, acc2, w2, st2, h2, u2⟩ => ⟨ds.length - (i + 1), by omega, rfl, hlt, E2, Z2, acc2, w2, st2, h2, u2⟩, fun x H3 y => ?_⟩
    obtain ⟨hh, rx⟩ := yl x H3 y
    have w3 : At C (ps ++ [some (.ref D')]) (Ep ++ [.ow (.lst acc)]) Z' (L2.wipe σ own) E' H3 ∧ Stp Z' H' Z' H3 := by
      rcases hh with e | ⟨p, o, hp, e⟩
      · subst e; exact ⟨w', Stp.refl _ _⟩
      · subst e; exact ⟨w'.new hp, Stp.new w'.zt hp⟩
    have stA := st'.trans w3.2
    refine ⟨_, _, E', Z', _, _, w3.1, rx, step i _ acc E' (List.getElem?_eq_getElem hlt) hi', fun σ2 E2 w2 k2 h2 => ?_⟩
    have hl2 : σ2.length = (L2.wipe σ own).length := k2.1
    have ww : L2.wipe σ2 own = L2.wipe σ own := by
      rw [wipe_eq (σ := L2.wipe σ own) (fun j hj => k2.2 j fun m => hj (hgs j m)) hl2]
      refine wipe_eq (fun j hj => wipe_out hj) (wipe_length σ own)
    refine ⟨ww, _, _, E2, Z', _, w2, h2, fun b E3 Z3 H4 w4 st4 h4 => ?_⟩
    cases b with
    | true =>
      rw [if_pos rfl]
      replace h4 := h4.t
      refine ⟨_, _, E3, Z3, _, w4, h4, fun d E5 Z5 H5 v w5 st5 r5 ⟨hz, h5⟩ => ?_⟩
      obtain ⟨vs, e6, l6, st6, w6⟩ := w5.snocP r5
      refine ⟨vs, e6, by rw [l6]; exact hz, wipeE E5 own, Z5, acc ++ [d], ?_, stA.trans (st4.trans (st5.trans st6)), h5, wipeE_un _ _⟩
      rw [← ww]
      exact w6.wipe own
    | false =>
      rw [if_neg Bool.false_ne_true]
      replace h4 := h4.f
      refine ⟨wipeE E3 own, Z3, acc, ?_, stA.trans st4, h4, wipeE_un _ _⟩
      rw [← ww]
      exact w4.wipe own
  · have e : i = ds.length := by omega
    subst e
    refine .inl ⟨wk.stop Z' _ E' H' _ _ st' w' ⟨wipe_out hj0, hold _ _ _ hi'⟩ _ (Nat.le_refl _), post _ E' Z' H' _ (w'.resig (wipe_length σ own).symm fun j s ej hs => ?_) (st1.trans st') (fin acc E' hi' hun)⟩
    have hj : j ∉ own := fun m => by
      rcases hun j m with z | z
      · rw [ej] at z; cases z; exact hs rfl
      · rw [ej] at z; cases z
    exact (wipe_out hj).symm
theorem dn_lcB (j0 : Nat) {elt tg iter : Expr} {ifs : List Expr} {scope : Scope} {own : List (Str × Nat)} {pos : Pos} {t : TIt} {g : TGD} {tt : TB} {te : TD} {gs : List Nat} (hN : X.N.Nodup) (hi : PI X tg iter (tibOf C j0 t)) (ok : BlkOk X.N X.env.scope scope own)
    (hg : ∀ (s : Shared) (H : Hp) (a : Addr) (cl : List (Str × Addr)) (fp : List Addr), DG C (X.blk s H scope (compEnvC scope cl a X.env) fp) gs tg g) (ht : ∀ (s : Shared) (H : Hp) (a : Addr) (cl : List (Str × Addr)) (fp : List Addr), PTs (X.blk s H scope (compEnvC scope cl a X.env) fp) ifs (ttOf C tt))
    (he : ∀ (s : Shared) (H : Hp) (a : Addr) (cl : List (Str × Addr)) (fp : List Addr), DE C (X.blk s H scope (compEnvC scope cl a X.env) fp) elt te) (hc : X.calm = true := by rfl) (hj0 : j0 ∉ own.map (·.2) := by decide) (hgs : ∀ j ∈ gs, j ∈ own.map (·.2) := by decide) (hs : ∀ x, foldedSetIterable iter X.env x = pure x := by intro _; rfl) :
    DN C X (.ListComp elt [⟨tg, iter, ifs, 0⟩] scope pos) (tLcB j0 t g tt te (own.map (·.2))) := (pe_lc hc hN hi ok hg ht he hs).imp (lcB_imp hj0 hgs)
end
end DL
set_option Elab.async false
set_option linter.all false
set_option maxRecDepth 100000
set_option maxHeartbeats 4000000
/-! DL, part f: calls of defs, what a def keeps. -/
namespace DL
open PySem PySem.Spec PyProof.Rows L2

/-- as At, but the names are all that is there -/
def At0 (C : Ctx) (ps : Sg) (Ep : List S) (Z : Addr → Prop) (σ : Sg) (E : List S) (H : Hp) : Prop := σ.length = E.length ∧ Wd C Z (σ ++ ps) (E ++ Ep) H
def ResAt0 (C : Ctx) (ps : Sg) (Ep : List S) (Z : Addr → Prop) (σ : Sg) (E : List S) (H : Hp) (v : V) : S → Prop
  | .fr d => At0 C ps Ep Z σ E H ∧ Rep C.K Z H v d
  | .ow tr => At0 C (ps ++ [some v]) (Ep ++ [.ow tr]) Z σ E H
  | .rf a => At0 C ps Ep Z σ E H ∧ v = .ref a
  | _ => False
section
variable {C : Ctx} {ps : Sg} {Ep : List S} {Z Z' : Addr → Prop} {σ τ : Sg} {E : List S} {H H' : Hp}
theorem At.zero (w : At C ps Ep Z σ E H) : σ.length = C.n ∧ ∃ τ, At0 C ps Ep Z (σ ++ τ) E H := by
  obtain ⟨hn, τ, hl, w⟩ := w
  exact ⟨hn, τ, by rw [List.length_append]; exact hl, w⟩
theorem At0.to (hn : σ.length = C.n) (w : At0 C ps Ep Z (σ ++ τ) E H) : At C ps Ep Z σ E H := by
  obtain ⟨hl, w⟩ := w
  exact ⟨hn, τ, by rw [List.length_append] at hl; exact hl, w⟩
theorem Wd.reN (m : Nat) {A : Sg} {B : List S} (w : Wd C Z A B H) : Wd { C with n := m } Z A B H := by
  obtain ⟨F, w⟩ := w
  exact ⟨F, w.sl, w.nz, w.own, w.mum, w.mus, w.fr, w.z0, w.zn, w.zt, w.kt, w.fl, w.idn⟩
theorem ResAt0.reN (m : Nat) {v : V} {r : S} (w : ResAt0 C ps Ep Z σ E H v r) : ResAt0 { C with n := m } ps Ep Z σ E H v r := by
  cases r with
  | fr d => exact ⟨⟨w.1.1, w.1.2.reN m⟩, w.2⟩
  | ow t => exact ⟨w.1, w.2.reN m⟩
  | rf a => exact ⟨⟨w.1.1, w.1.2.reN m⟩, w.2⟩
  | un => cases w
  | mu t => cases w
  | nw a n => cases w
  | nm a n => cases w
theorem ResAt0.to (hn : σ.length = C.n) {v : V} {r : S} (w : ResAt0 C ps Ep Z (σ ++ τ) E H v r) : ResAt C ps Ep Z σ E H v r := by
  cases r with
  | fr d => exact ⟨w.1.to hn, w.2⟩
  | ow t => exact At0.to (τ := τ) hn w
  | rf a => exact ⟨w.1.to hn, w.2⟩
  | un => cases w
  | mu t => cases w
  | nw a n => cases w
  | nm a n => cases w
end
/-- an argument: data, or the tree at a name, lent -/
inductive AM where
  | d (d : D) | m (i : Nat) | r (a : Addr)
abbrev SpD := List S → (S → List S → Prop) → Prop
/-- what has no footprint and is known -/
def S.flt : S → Bool
  | .fr _ => true
  | .rf _ => true
  | _ => false
/-- what has a footprint -/
def S.big : S → Bool
  | .ow _ => true
  | .mu _ => true
  | .nw _ _ => true
  | .nm _ _ => true
  | _ => false
/-- what comes back of what was lent -/
def S.bk : S → S → Option S
  | .ow _, .mu t => some (.ow t)
  | .mu _, .mu t => some (.mu t)
  | .nw _ _, .nm a n => some (.nw a n)
  | .nm _ _, .nm a n => some (.nm a n)
  | _, _ => none
theorem bk_kind {s0 m s : S} (h : S.bk s0 m = some s) : s.isNew = s0.isNew ∧ s.isMu = s0.isMu ∧ m.isMu = true ∧ s.big = true := by
  cases s0 <;> cases m <;> first | (cases h; exact ⟨rfl, rfl, rfl, rfl⟩) | cases h
theorem SRep.bk {K : Frg} {Z : Addr → Prop} {H : Hp} {o : Option V} {F : List Addr} {s0 m s : S} (h : S.bk s0 m = some s) (r : SRep K Z H o m F) : SRep K Z H o s F := by
  cases s0 <;> cases m <;> first | (cases h; exact r) | cases h
def argS (E : List S) : AM → S
  | .d d => .fr d
  | .r a => .rf a
  | .m i => match E[i]? with
    | some (.ow t) => .mu t
    | some (.mu t) => .mu t
    | some (.fr d) => .fr d
    | some (.rf a) => .rf a
    | some (.nw a n) => .nm a n
    | some (.nm a n) => .nm a n
    | _ => .un
def msOf : List AM → List Nat
  | [] => []
  | .d _ :: as => msOf as
  | .r _ :: as => msOf as
  | .m i :: as => i :: msOf as
def apart : List Nat → Bool
  | [] => true
  | i :: is => !is.contains i && apart is
def whoAt : List AM → Nat → Option Nat
  | [], _ => none
  | .d _ :: as, j => (whoAt as j).map (· + 1)
  | .r _ :: as, j => (whoAt as j).map (· + 1)
  | .m i :: as, j => if i = j then some 0 else (whoAt as j).map (· + 1)
def backAt (as : List AM) (Em : List S) (j : Nat) (s : S) : S := match whoAt as j with
  | none => s
  | some k => match s with
    | .un => .un
    | .fr d => .fr d
    | .rf a => .rf a
    | s => match Em[k]? with
      | some m => (S.bk s m).getD .un
      | none => .un
def backL (as : List AM) (Em : List S) : Nat → List S → List S
  | _, [] => []
  | j, s :: E => backAt as Em j s :: backL as Em (j + 1) E
theorem backL_length (as : List AM) (Em : List S) : ∀ (j : Nat) (E : List S), (backL as Em j E).length = E.length
  | _, [] => rfl
  | j, s :: E => by rw [backL, List.length_cons, List.length_cons, backL_length as Em (j + 1) E]
theorem backL_get (as : List AM) (Em : List S) : ∀ (j : Nat) (E : List S) (i : Nat), (backL as Em j E)[i]? = E[i]?.map (backAt as Em (j + i))
  | _, [], i => by simp [backL]
  | j, s :: E, 0 => by simp [backL]
  | j, s :: E, i + 1 => by
    rw [backL, List.getElem?_cons_succ, List.getElem?_cons_succ, backL_get as Em (j + 1) E i, show j + 1 + i = j + (i + 1) by omega]
theorem whoAt_some : ∀ {as : List AM} {j k : Nat}, whoAt as j = some k → as[k]? = some (.m j)
  | [], _, _, h => by cases h
  | .d _ :: as, j, k, h => by
    unfold whoAt at h
    cases e : whoAt as j with
    | none => rw [e] at h; cases h
    | some l => rw [e] at h; cases h; rw [List.getElem?_cons_succ]; exact whoAt_some e
  | .r _ :: as, j, k, h => by
    unfold whoAt at h
    cases e : whoAt as j with
    | none => rw [e] at h; cases h
    | some l => rw [e] at h; cases h; rw [List.getElem?_cons_succ]; exact whoAt_some e
  | .m i :: as, j, k, h => by
    unfold whoAt at h
    split at h
    · rename_i q
      cases h
      rw [q]; rfl
    · cases e : whoAt as j with
      | none => rw [e] at h; cases h
      | some l => rw [e] at h; cases h; rw [List.getElem?_cons_succ]; exact whoAt_some e
theorem whoAt_none : ∀ {as : List AM} {j : Nat}, whoAt as j = none → ∀ k : Nat, as[k]? ≠ some (.m j)
  | [], _, _, k, e => by simp at e
  | .d _ :: as, j, h, k, e => by
    unfold whoAt at h
    cases k with
    | zero => simp at e
    | succ k =>
      rw [List.getElem?_cons_succ] at e
      exact whoAt_none (as := as) (by cases q : whoAt as j with | none => rfl | some l => rw [q] at h; cases h) k e
  | .r _ :: as, j, h, k, e => by
    unfold whoAt at h
    cases k with
    | zero => simp at e
    | succ k =>
      rw [List.getElem?_cons_succ] at e
      exact whoAt_none (as := as) (by cases q : whoAt as j with | none => rfl | some l => rw [q] at h; cases h) k e
  | .m i :: as, j, h, k, e => by
    unfold whoAt at h
    split at h
    · cases h
    · rename_i q
      cases k with
      | zero => simp at e; exact q e
      | succ k =>
        rw [List.getElem?_cons_succ] at e
        exact whoAt_none (as := as) (by cases q : whoAt as j with | none => rfl | some l => rw [q] at h; cases h) k e
theorem mem_msOf : ∀ {as : List AM} {k i : Nat}, as[k]? = some (.m i) → i ∈ msOf as
  | [], _, _, e => by simp at e
  | .d _ :: as, k, i, e => by
    cases k with
    | zero => simp at e
    | succ k => rw [List.getElem?_cons_succ] at e; exact mem_msOf (as := as) e
  | .r _ :: as, k, i, e => by
    cases k with
    | zero => simp at e
    | succ k => rw [List.getElem?_cons_succ] at e; exact mem_msOf (as := as) e
  | .m j :: as, k, i, e => by
    cases k with
    | zero => simp at e; subst e; exact List.mem_cons_self
    | succ k => rw [List.getElem?_cons_succ] at e; exact List.mem_cons_of_mem _ (mem_msOf (as := as) e)
theorem apart_inj : ∀ {as : List AM} {k l i : Nat}, apart (msOf as) = true → as[k]? = some (.m i) → as[l]? = some (.m i) → k = l
  | [], _, _, _, _, e, _ => by simp at e
  | .d _ :: as, k, l, i, h, e1, e2 => by
    cases k with
    | zero => simp at e1
    | succ k =>
      cases l with
      | zero => simp at e2
      | succ l =>
        rw [List.getElem?_cons_succ] at e1 e2
        rw [apart_inj (as := as) h e1 e2]
  | .r _ :: as, k, l, i, h, e1, e2 => by
    cases k with
    | zero => simp at e1
    | succ k =>
      cases l with
      | zero => simp at e2
      | succ l =>
        rw [List.getElem?_cons_succ] at e1 e2
        rw [apart_inj (as := as) h e1 e2]
  | .m j :: as, k, l, i, h, e1, e2 => by
    have h' : (!(msOf as).contains j && apart (msOf as)) = true := h
    obtain ⟨h1, h2⟩ := Bool.and_eq_true_iff.mp h'
    have n : j ∉ msOf as := by simpa using h1
    cases k with
    | zero =>
      simp at e1
      subst e1
      cases l with
      | zero => rfl
      | succ l => rw [List.getElem?_cons_succ] at e2; exact absurd (mem_msOf e2) n
    | succ k =>
      rw [List.getElem?_cons_succ] at e1
      cases l with
      | zero =>
        simp at e2
        subst e2
        exact absurd (mem_msOf e1) n
      | succ l =>
        rw [List.getElem?_cons_succ] at e2
        rw [apart_inj (as := as) h2 e1 e2]

theorem backAt_big {as : List AM} {Em : List S} {j : Nat} {s0 s : S} (hu : s0.big = true) (e : backAt as Em j s0 = s) :
    (whoAt as j = none ∧ s0 = s) ∨ (∃ (k : Nat) (m : S), as[k]? = some (AM.m j) ∧ Em[k]? = some m ∧ S.bk s0 m = some s) ∨ s = .un := by
  have main : (match whoAt as j with | none => s0 | some k => match Em[k]? with | some m => (S.bk s0 m).getD .un | none => .un) = s := by
    unfold backAt at e
    cases s0 with
    | un => cases hu
    | fr d => cases hu
    | rf a => cases hu
    | ow t => exact e
    | mu t => exact e
    | nw a n => exact e
    | nm a n => exact e
  cases wa : whoAt as j with
  | none => rw [wa] at main; exact .inl ⟨rfl, main⟩
  | some k =>
    rw [wa] at main
    have ek := whoAt_some wa
    have main : (match Em[k]? with | some m => (S.bk s0 m).getD .un | none => .un) = s := main
    split at main
    · rename_i m em
      cases b : S.bk s0 m with
      | none => rw [b] at main; exact .inr (.inr main.symm)
      | some s1 => rw [b] at main; exact .inr (.inl ⟨k, m, ek, em, by rw [b]; exact congrArg some main⟩)
    · exact .inr (.inr main.symm)

inductive ArgsOk (K : Frg) (Z : Addr → Prop) (σ : Sg) (H : Hp) : List V → List AM → Prop
  | nil : ArgsOk K Z σ H [] []
  | d {v : V} {vs : List V} {d : D} {as : List AM} : Rep K Z H v d → ArgsOk K Z σ H vs as → ArgsOk K Z σ H (v :: vs) (.d d :: as)
  | rx {vs : List V} {a : Addr} {as : List AM} : ArgsOk K Z σ H vs as → ArgsOk K Z σ H (.ref a :: vs) (.r a :: as)
  | m {v : V} {vs : List V} {i : Nat} {as : List AM} : σ[i]? = some (some v) → ArgsOk K Z σ H vs as → ArgsOk K Z σ H (v :: vs) (.m i :: as)
section
variable {K : Frg} {Z Z' : Addr → Prop} {σ : Sg} {H H' : Hp}
theorem ArgsOk.length : ∀ {vs : List V} {as : List AM}, ArgsOk K Z σ H vs as → vs.length = as.length
  | _, _, .nil => rfl
  | _, _, .d _ r => by rw [List.length_cons, List.length_cons, r.length]
  | _, _, .rx r => by rw [List.length_cons, List.length_cons, r.length]
  | _, _, .m _ r => by rw [List.length_cons, List.length_cons, r.length]
theorem ArgsOk.atD : ∀ {vs : List V} {as : List AM} {k : Nat} {d : D}, ArgsOk K Z σ H vs as → as[k]? = some (.d d) → ∃ v, vs[k]? = some v ∧ Rep K Z H v d
  | _, _, _, _, .nil, e => by simp at e
  | _, _, 0, _, .d h _, e => by simp at e; subst e; exact ⟨_, rfl, h⟩
  | _, _, 0, _, .m h _, e => by simp at e
  | _, _, 0, _, .rx _, e => by simp at e
  | _, _, k + 1, _, .d _ r, e => by
    rw [List.getElem?_cons_succ] at e ⊢
    exact r.atD e
  | _, _, k + 1, _, .rx r, e => by
    rw [List.getElem?_cons_succ] at e ⊢
    exact r.atD e
  | _, _, k + 1, _, .m _ r, e => by
    rw [List.getElem?_cons_succ] at e ⊢
    exact r.atD e
theorem ArgsOk.atM : ∀ {vs : List V} {as : List AM} {k : Nat} {i : Nat}, ArgsOk K Z σ H vs as → as[k]? = some (.m i) → ∃ v, vs[k]? = some v ∧ σ[i]? = some (some v)
  | _, _, _, _, .nil, e => by simp at e
  | _, _, 0, _, .d h _, e => by simp at e
  | _, _, 0, _, .rx _, e => by simp at e
  | _, _, 0, _, .m h _, e => by simp at e; subst e; exact ⟨_, rfl, h⟩
  | _, _, k + 1, _, .d _ r, e => by
    rw [List.getElem?_cons_succ] at e ⊢
    exact r.atM e
  | _, _, k + 1, _, .rx r, e => by
    rw [List.getElem?_cons_succ] at e ⊢
    exact r.atM e
  | _, _, k + 1, _, .m _ r, e => by
    rw [List.getElem?_cons_succ] at e ⊢
    exact r.atM e
theorem ArgsOk.atR : ∀ {vs : List V} {as : List AM} {k : Nat} {a : Addr}, ArgsOk K Z σ H vs as → as[k]? = some (.r a) → vs[k]? = some (.ref a)
  | _, _, _, _, .nil, e => by simp at e
  | _, _, 0, _, .d h _, e => by simp at e
  | _, _, 0, _, .m h _, e => by simp at e
  | _, _, 0, _, .rx _, e => by simp at e; subst e; rfl
  | _, _, k + 1, _, .d _ r, e => by
    rw [List.getElem?_cons_succ] at e ⊢
    exact r.atR e
  | _, _, k + 1, _, .m _ r, e => by
    rw [List.getElem?_cons_succ] at e ⊢
    exact r.atR e
  | _, _, k + 1, _, .rx r, e => by
    rw [List.getElem?_cons_succ] at e ⊢
    exact r.atR e
theorem ArgsOk.append : ∀ {vs ws : List V} {as bs : List AM}, ArgsOk K Z σ H vs as → ArgsOk K Z σ H ws bs → ArgsOk K Z σ H (vs ++ ws) (as ++ bs)
  | _, _, _, _, .nil, h => h
  | _, _, _, _, .d q r, h => .d q (r.append h)
  | _, _, _, _, .rx r, h => .rx (r.append h)
  | _, _, _, _, .m q r, h => .m q (r.append h)
end

/-- what a def promises, over data: at the entry the arguments' places; Qd of the result and of what became of the trees -/
def spD (K : Frg) (n : Nat) (sd : SpD) : Sp := fun vs H Q _ => ∃ (Z : Addr → Prop) (args : List S) (F : Foot) (Qd : S → List S → Prop), vs.length = n ∧ Slots K Z H (vs.map some) args F ∧ (∀ i a, a ∈ F i → ¬ Z a) ∧ (∀ a, Z a → H a ≠ none) ∧ (∀ (i : Nat) s, args[i]? = some s → s.isNew = false) ∧ sd args Qd ∧
  ∀ r Em Z' H' v, ResAt0 ⟨K, H, F, Z, vs, Z, H, 0⟩ [] [] Z' (vs.map some) Em H' v r → Qd r Em → Q v H'

section
variable {C : Ctx} {ps : Sg} {Ep : List S} {Z Z' : Addr → Prop} {σ : Sg} {E : List S} {H H' : Hp} {F : Foot}
/-- a callee's world goes on from the caller's -/
theorem WdF.stp {C' : Ctx} {F' : Foot} {σ' : Sg} {E' : List S} {Z0 : Addr → Prop} {H0 : Hp} (e1 : C'.Z0 = Z0) (e2 : C'.H0 = H0) (nz : ∀ i a, a ∈ C'.Fm i → ¬ Z0 a) (kd : ∀ i a, a ∈ C'.Fm i → ∃ o, H0 a = some o ∧ MutK o) (zt : ∀ a, Z0 a → H0 a ≠ none) (w : WdF C' Z' σ' E' H' F') : Stp Z0 H0 Z' H' := by
  subst e1 e2
  refine ⟨w.z0, fun a z => ?_, fun a xs h => ?_, fun a o u h => ?_⟩
  · cases q : C'.H0 a with
    | none => exact absurd q (zt a z)
    | some o => exact w.fr a o q fun i hi => nz i a hi z
  · refine w.fr a _ h fun i hi => ?_
    obtain ⟨o, e, k⟩ := kd i a hi
    rw [h] at e; cases e; exact k
  · refine w.fr a _ h fun i hi => ?_
    obtain ⟨o, e, k⟩ := kd i a hi
    rw [h] at e; cases e; exact k
/-- the footprints that are lent -/
def lent (as : List AM) (E : List S) (F : Foot) : Foot := fun k => match as[k]? with
  | some (.m i) => (match E[i]? with | some s => if s.big = true then F i else [] | none => [])
  | _ => []
theorem mem_lent {as : List AM} {k : Nat} {a : Addr} (h : a ∈ lent as E F k) : ∃ i s, as[k]? = some (.m i) ∧ E[i]? = some s ∧ s.big = true ∧ a ∈ F i := by
  unfold lent at h
  split at h
  · rename_i i e
    split at h
    · rename_i s e2
      split at h
      · rename_i hb
        exact ⟨i, s, e, e2, hb, h⟩
      · cases h
    · cases h
  · cases h
theorem lent_of {as : List AM} {k i : Nat} {s : S} (e : as[k]? = some (.m i)) (e2 : E[i]? = some s) (et : s.big = true) : lent as E F k = F i := by
  unfold lent
  rw [e]
  show (match E[i]? with | some s => if s.big = true then F i else [] | none => []) = F i
  rw [e2]
  exact if_pos et
/-- THE CALL: the caller's places behind it -/
theorem callW_go {as : List AM} {vs : List V} (w : WdF C Z (σ ++ ps) (E ++ Ep) H F) (hl : σ.length = E.length) (ok : ArgsOk C.K Z σ H vs as) (ap : apart (msOf as) = true) :
    Slots C.K Z H (vs.map some) (as.map (argS E)) (lent as E F) ∧ (∀ i a, a ∈ lent as E F i → ¬ Z a) ∧
    ∀ (m : Nat) (Em : List S) Z' H' (pv : Sg) (pe : List S), pv.length = pe.length → (∀ (l : Nat) s, pe[l]? = some s → s = .un ∨ s.isNew = true) → Wd ⟨C.K, H, lent as E F, Z, vs, Z, H, m⟩ Z' (vs.map some ++ pv) (Em ++ pe) H' → (vs.map some).length = Em.length →
        Stp Z H Z' H' ∧ Wd C Z' (σ ++ (ps ++ pv)) (backL as Em 0 E ++ (Ep ++ pe)) H' := by
  have hlen := ok.length
  have eF : ∀ {i : Nat} {s : S}, E[i]? = some s → SRep C.K Z H (σ.getD i none) s (F i) := fun {i s} e => by
    have q := w.sl.rep i s (up_get e)
    rw [getD_left (by rw [hl]; exact (List.getElem?_eq_some_iff.mp e).1)] at q
    exact q
  have nzl : ∀ i a, a ∈ lent as E F i → ¬ Z a := fun k a h => by
    obtain ⟨i, s, _, _, _, m⟩ := mem_lent h
    exact w.nz i a m
  have kdl : ∀ i a, a ∈ lent as E F i → ∃ o, H a = some o ∧ MutK o := fun k a h => by
    obtain ⟨i, s, _, _, _, m⟩ := mem_lent h
    exact w.kind m
  have gv : ∀ {k : Nat} {v : V}, vs[k]? = some v → (vs.map some).getD k none = some v := fun {k v} e => by
    rw [List.getD_eq_getElem?_getD, List.getElem?_map, e]; rfl
  refine ⟨⟨by rw [List.length_map, List.length_map, hlen], fun k s e => ?_, fun k hk => ?_, fun k => ?_, fun k l a h1 h2 => ?_⟩, nzl, fun m0 Em Z' H' => ?_⟩
  · rw [List.getElem?_map] at e
    cases ea : as[k]? with
    | none => rw [ea] at e; cases e
    | some x =>
      rw [ea] at e
      cases e
      cases x with
      | d d =>
        obtain ⟨v, e1, rv⟩ := ok.atD ea
        refine ⟨?_, v, gv e1, rv⟩
        unfold lent; rw [ea]
      | r a =>
        refine ⟨?_, gv (ok.atR ea)⟩
        unfold lent; rw [ea]
      | m i =>
        obtain ⟨v, e1, e2⟩ := ok.atM ea
        have e2' := of_getD e2
        show SRep C.K Z H _ (argS E (.m i)) _
        unfold argS lent
        rw [ea]
        dsimp only
        cases ei : E[i]? with
        | none => exact rfl
        | some s =>
          have q := eF ei
          cases s with
          | un => exact rfl
          | fr d =>
            obtain ⟨q1, u, q2, q3⟩ := q
            rw [e2'] at q2
            cases q2
            exact ⟨rfl, v, gv e1, q3⟩
          | ow t =>
            obtain ⟨u, q2, q3⟩ := q
            rw [e2'] at q2
            cases q2
            exact ⟨v, gv e1, q3⟩
          | mu t =>
            obtain ⟨u, q2, q3⟩ := q
            rw [e2'] at q2
            cases q2
            exact ⟨v, gv e1, q3⟩
          | rf a =>
            obtain ⟨q1, q2⟩ := q
            rw [e2'] at q2
            cases q2
            exact ⟨rfl, gv e1⟩
          | nw a n =>
            obtain ⟨q1, q2, q3⟩ := q
            rw [e2'] at q2
            cases q2
            exact ⟨q1, gv e1, q3⟩
          | nm a n =>
            obtain ⟨q1, q2, q3⟩ := q
            rw [e2'] at q2
            cases q2
            exact ⟨q1, gv e1, q3⟩
  · rw [List.length_map] at hk
    unfold lent
    rw [List.getElem?_eq_none hk]
  · unfold lent
    split
    · split
      · split
        · exact w.sl.nd _
        · exact List.nodup_nil
      · exact List.nodup_nil
    · exact List.nodup_nil
  · obtain ⟨i, _, e1, _, _, m1⟩ := mem_lent h1
    obtain ⟨j, _, e2, _, _, m2⟩ := mem_lent h2
    have := w.sl.dj i j a m1 m2
    subst this
    exact apart_inj ap e1 e2
  · -- the end
      intro pv pe hp hpe ⟨F', f⟩ hle
      have st : Stp Z H Z' H' := WdF.stp (C' := ⟨C.K, H, lent as E F, Z, vs, Z, H, m0⟩) rfl rfl nzl kdl w.zt f
      have keepF : ∀ j a, a ∈ F j → (∀ k : Nat, as[k]? ≠ some (AM.m j)) → H' a = H a := fun j a ha hn => by
        obtain ⟨o, e, _⟩ := w.kind ha
        rw [e]
        refine f.fr a o e fun k hk => ?_
        obtain ⟨i, _, e1, _, _, m⟩ := mem_lent hk
        have := w.sl.dj i j a m ha
        subst this
        exact hn k e1
      have nz1 : ∀ j a, a ∈ F j → ¬ Z' a := fun j a ha z => by
        rcases f.zn a z with z | z
        · exact w.nz j a ha z
        · obtain ⟨o, e, _⟩ := w.kind ha
          have z : H a = none := z
          rw [e] at z; cases z
      have old : ∀ j a, a ∈ F j → H a ≠ none := fun j a ha => by
        obtain ⟨o, e, _⟩ := w.kind ha
        rw [e]; intro q; cases q
      -- the pieces: a place not lent; lent; pending of old; of new
      have lE : (E ++ Ep).length = E.length + Ep.length := List.length_append
      have lV : (vs.map some).length = vs.length := List.length_map _
      have lent_mu : ∀ {k i : Nat} {m : S}, as[k]? = some (.m i) → Em[k]? = some m → m.isMu = true → ∀ a, a ∈ F' k → (∃ s, E[i]? = some s ∧ s.big = true ∧ a ∈ F i) ∨ H a = none := fun {k i m} e1 e2 hm a ha => by
        rcases f.mum k m a (up_get e2) hm ha with z | z
        · obtain ⟨i', s, e3, e4, e5, m⟩ := mem_lent z
          rw [e1] at e3
          cases e3
          exact .inl ⟨s, e4, e5, m⟩
        · exact .inr z
      have pos : ∀ (j : Nat) s, (backL as Em 0 E ++ (Ep ++ pe))[j]? = some s →
          (s = .un) ∨ ((E ++ Ep)[j]? = some s ∧ (∀ k : Nat, as[k]? ≠ some (AM.m j)) ∧ j < (E ++ Ep).length) ∨ (∃ u : S, E[j]? = some u ∧ u.flt = true ∧ s = u) ∨ (∃ (k : Nat) (s0 m : S), as[k]? = some (AM.m j) ∧ E[j]? = some s0 ∧ s0.big = true ∧ Em[k]? = some m ∧ S.bk s0 m = some s) ∨
          (∃ (l : Nat), j = (E ++ Ep).length + l ∧ pe[l]? = some s ∧ s.isNew = true) ∨ (E.length ≤ j ∧ j < (E ++ Ep).length ∧ (E ++ Ep)[j]? = some s) := by
        intro j s e
        by_cases h1 : j < E.length
        · rw [List.getElem?_append_left (by rw [backL_length]; exact h1), backL_get, Nat.zero_add, List.getElem?_eq_getElem h1, Option.map_some] at e
          have e0 : E[j]? = some E[j] := List.getElem?_eq_getElem h1
          generalize E[j] = s0 at e e0
          have e := Option.some.inj e
          cases hu : s0.big with
          | false =>
            cases s0 with
            | un =>
              have e : backAt as Em j .un = s := e
              unfold backAt at e
              split at e <;> exact .inl e.symm
            | fr d =>
              have e : backAt as Em j (.fr d) = s := e
              unfold backAt at e
              split at e <;> exact .inr (.inr (.inl ⟨_, e0, rfl, e.symm⟩))
            | rf a =>
              have e : backAt as Em j (.rf a) = s := e
              unfold backAt at e
              split at e <;> exact .inr (.inr (.inl ⟨_, e0, rfl, e.symm⟩))
            | ow t => cases hu
            | mu t => cases hu
            | nw a n => cases hu
            | nm a n => cases hu
          | true =>
            rcases backAt_big hu e with ⟨wa, e⟩ | ⟨k, m, ek, em, e⟩ | e
            · subst e
              exact .inr (.inl ⟨up_get e0, whoAt_none wa, by rw [lE]; omega⟩)
            · exact .inr (.inr (.inr (.inl ⟨k, s0, m, ek, e0, hu, em, e⟩)))
            · exact .inl e
        · rw [List.getElem?_append_right (by rw [backL_length]; omega), backL_length] at e
          by_cases h2 : j < (E ++ Ep).length
          · rw [List.getElem?_append_left (by omega)] at e
            refine .inr (.inr (.inr (.inr (.inr ⟨by omega, h2, ?_⟩))))
            rw [List.getElem?_append_right (by omega)]
            exact e
          · rw [List.getElem?_append_right (by omega)] at e
            rcases hpe _ _ e with q | q
            · exact .inl q
            · exact .inr (.inr (.inr (.inr (.inl ⟨j - E.length - Ep.length, by omega, e, q⟩))))
      -- the new footprints
      let G : Foot := fun j => match (backL as Em 0 E ++ (Ep ++ pe))[j]? with
        | none => []
        | some .un => []
        | some (.fr _) => []
        | some (.rf _) => []
        | some _ => if j < (E ++ Ep).length then (if j < E.length then (match whoAt as j with | none => F j | some k => F' k) else F j) else F' (vs.length + (j - (E ++ Ep).length))
      have hlσ : (σ ++ (ps ++ pv)).length = (backL as Em 0 E ++ (Ep ++ pe)).length := by
        have := w.sl.len
        simp only [List.length_append, backL_length] at this ⊢
        omega
      have lps : ps.length = Ep.length := by
        have := w.sl.len
        simp only [List.length_append] at this
        omega
      -- what G is
      have Gold : ∀ {j : Nat} {s : S}, (backL as Em 0 E ++ (Ep ++ pe))[j]? = some s → (E ++ Ep)[j]? = some s → (∀ k : Nat, as[k]? ≠ some (AM.m j)) ∨ E.length ≤ j → j < (E ++ Ep).length → G j = F j ∨ (G j = [] ∧ F j = []) := fun {j s} e e0 hn hj => by
        have z := w.sl.rep j s e0
        show (match (backL as Em 0 E ++ (Ep ++ pe))[j]? with | none => [] | some .un => [] | some (.fr _) => [] | some (.rf _) => [] | some _ => if j < (E ++ Ep).length then (if j < E.length then (match whoAt as j with | none => F j | some k => F' k) else F j) else F' (vs.length + (j - (E ++ Ep).length))) = F j ∨ _
        have inner : (if j < (E ++ Ep).length then (if j < E.length then (match whoAt as j with | none => F j | some k => F' k) else F j) else F' (vs.length + (j - (E ++ Ep).length))) = F j := by
          rw [if_pos hj]
          split
          · rcases hn with hn | hn
            · cases wa : whoAt as j with
              | none => rfl
              | some k => exact absurd (whoAt_some wa) (hn k)
            · omega
          · rfl
        cases s with
        | un => rw [e]; exact .inl (show [] = F j from (show F j = [] from z).symm)
        | fr d => rw [e]; exact .inl (show [] = F j from z.1.symm)
        | ow t => rw [e]; exact .inl inner
        | mu t => rw [e]; exact .inl inner
        | rf a => rw [e]; exact .inl (show [] = F j from z.1.symm)
        | nw a n => rw [e]; exact .inl inner
        | nm a n => rw [e]; exact .inl inner
      have Gbig : ∀ {j : Nat} {s : S}, (backL as Em 0 E ++ (Ep ++ pe))[j]? = some s → s.big = true → G j = if j < (E ++ Ep).length then (if j < E.length then (match whoAt as j with | none => F j | some k => F' k) else F j) else F' (vs.length + (j - (E ++ Ep).length)) := fun {j s} e hb => by
        show (match (backL as Em 0 E ++ (Ep ++ pe))[j]? with | none => [] | some .un => [] | some (.fr _) => [] | some (.rf _) => [] | some _ => if j < (E ++ Ep).length then (if j < E.length then (match whoAt as j with | none => F j | some k => F' k) else F j) else F' (vs.length + (j - (E ++ Ep).length))) = _
        rw [e]
        cases s <;> first | rfl | cases hb
      have Glent : ∀ {j k : Nat} {s0 s : S}, (backL as Em 0 E ++ (Ep ++ pe))[j]? = some s → s.big = true → as[k]? = some (.m j) → E[j]? = some s0 → G j = F' k := fun {j k s0 s} e hb ek e0 => by
        have hj := (List.getElem?_eq_some_iff.mp e0).1
        have wk : whoAt as j = some k := by
          cases wa : whoAt as j with
          | none => exact absurd ek (whoAt_none wa k)
          | some k' => rw [apart_inj ap (whoAt_some wa) ek]
        rw [Gbig e hb, if_pos (by rw [lE]; omega), if_pos hj, wk]
      have Gnew : ∀ {j l : Nat} {s : S}, (backL as Em 0 E ++ (Ep ++ pe))[j]? = some s → s.big = true → j = (E ++ Ep).length + l → G j = F' (vs.length + l) := fun {j l s} e hb ej => by
        rw [Gbig e hb, if_neg (by omega), ej, Nat.add_sub_cancel_left]
      have newbig : ∀ {s : S}, s.isNew = true → s.big = true := fun {s} h => by cases s <;> first | rfl | cases h
      have Gun : ∀ {j : Nat}, (backL as Em 0 E ++ (Ep ++ pe))[j]? = some .un → G j = [] := fun {j} e => by
        show (match (backL as Em 0 E ++ (Ep ++ pe))[j]? with | none => [] | some .un => [] | some (.fr _) => [] | some (.rf _) => [] | some _ => if j < (E ++ Ep).length then (if j < E.length then (match whoAt as j with | none => F j | some k => F' k) else F j) else F' (vs.length + (j - (E ++ Ep).length))) = _
        rw [e]
      have Gfr : ∀ {j : Nat} {u : S}, (backL as Em 0 E ++ (Ep ++ pe))[j]? = some u → u.flt = true → G j = [] := fun {j u} e hu => by
        show (match (backL as Em 0 E ++ (Ep ++ pe))[j]? with | none => [] | some .un => [] | some (.fr _) => [] | some (.rf _) => [] | some _ => if j < (E ++ Ep).length then (if j < E.length then (match whoAt as j with | none => F j | some k => F' k) else F j) else F' (vs.length + (j - (E ++ Ep).length))) = _
        rw [e]
        cases u <;> first | rfl | cases hu
      have Gout : ∀ {j : Nat}, (backL as Em 0 E ++ (Ep ++ pe)).length ≤ j → G j = [] := fun {j} hj => by
        show (match (backL as Em 0 E ++ (Ep ++ pe))[j]? with | none => [] | some .un => [] | some (.fr _) => [] | some (.rf _) => [] | some _ => if j < (E ++ Ep).length then (if j < E.length then (match whoAt as j with | none => F j | some k => F' k) else F j) else F' (vs.length + (j - (E ++ Ep).length))) = _
        rw [List.getElem?_eq_none hj]
      -- where an address of G j comes from
      have src : ∀ (j : Nat) a, a ∈ G j → (a ∈ F j ∧ ((∀ k : Nat, as[k]? ≠ some (AM.m j)) ∨ E.length ≤ j)) ∨ (∃ (k : Nat) (m : S), as[k]? = some (AM.m j) ∧ Em[k]? = some m ∧ m.isMu = true ∧ a ∈ F' k) ∨ (∃ (l : Nat) (t : S), j = (E ++ Ep).length + l ∧ pe[l]? = some t ∧ t.isNew = true ∧ a ∈ F' (vs.length + l)) := fun j a ha => by
        by_cases hj : j < (backL as Em 0 E ++ (Ep ++ pe)).length
        · have e := List.getElem?_eq_getElem hj
          generalize (backL as Em 0 E ++ (Ep ++ pe))[j] = s at e
          rcases pos j s e with q | ⟨q1, q2, q3⟩ | ⟨u3, q1, q0, q2⟩ | ⟨k, s0, m, q1, q2, q3, q4, q5⟩ | ⟨l, q1, q2, q6⟩ | ⟨q1, q2, q3⟩
          · subst q; rw [Gun e] at ha; cases ha
          · rcases Gold e q1 (.inl q2) q3 with z | z
            · rw [z] at ha; exact .inl ⟨ha, .inl q2⟩
            · rw [z.1] at ha; cases ha
          · subst q2; rw [Gfr e q0] at ha; cases ha
          · obtain ⟨_, _, hm, hb⟩ := bk_kind q5
            rw [Glent e hb q1 q2] at ha; exact .inr (.inl ⟨k, m, q1, q4, hm, ha⟩)
          · rw [Gnew e (newbig q6) q1] at ha; exact .inr (.inr ⟨l, s, q1, q2, q6, ha⟩)
          · rcases Gold e q3 (.inr q1) q2 with z | z
            · rw [z] at ha; exact .inl ⟨ha, .inr q1⟩
            · rw [z.1] at ha; cases ha
        · rw [Gout (by omega)] at ha; cases ha
      have pend : ∀ {l : Nat} {t : S}, pe[l]? = some t → (Em ++ pe)[vs.length + l]? = some t := fun {l t} e => by
        rw [List.getElem?_append_right (by omega), show vs.length + l - Em.length = l by omega]
        exact e
      refine ⟨st, G, ⟨⟨hlσ, fun j s e => ?_, fun j hj => Gout hj, fun j => ?_, fun j l a h1 h2 => ?_⟩, fun j a ha => ?_, fun j t a e nu ha => ?_, fun j t a e nu ha => ?_, fun j t e => ?_, fun b o e0 n => ?_, fun a h => st.zz a (w.z0 a h), fun a h => ?_, f.zt, fun b h => f.kt b (w.kt b h), w.fl.trans st, fun j b n e => ?_⟩⟩
      · -- rep
        rcases pos j s e with q | ⟨q1, q2, q3⟩ | ⟨u3, q1, q0, q2⟩ | ⟨k, s0, m, q1, q2, q3, q4, q5⟩ | ⟨l, q1, q2, q6⟩ | ⟨q1, q2, q3⟩
        · subst q; exact Gun e
        · have z := (w.sl.rep j s q1).mono st fun a ha => keepF j a ha q2
          rw [show (σ ++ (ps ++ pv)).getD j none = (σ ++ ps).getD j none by rw [← List.append_assoc, getD_left (by rw [List.length_append]; omega)]]
          rcases Gold e q1 (.inl q2) q3 with y | y
          · rw [y]; exact z
          · rw [y.1]; rw [y.2] at z; exact z
        · subst q2
          have hj := (List.getElem?_eq_some_iff.mp q1).1
          rw [show (σ ++ (ps ++ pv)).getD j none = (σ ++ ps).getD j none by rw [← List.append_assoc, getD_left (by rw [List.length_append]; omega)]]
          rw [Gfr e q0]
          have y := w.sl.rep j _ (up_get (Ep := Ep) q1)
          cases s with
          | fr d =>
            have z := y.mono st fun a ha => by rw [y.1] at ha; cases ha
            exact ⟨rfl, z.2⟩
          | rf a => exact ⟨rfl, y.2⟩
          | un => cases q0
          | ow t => cases q0
          | mu t => cases q0
          | nw a n => cases q0
          | nm a n => cases q0
        · obtain ⟨_, _, _, hb⟩ := bk_kind q5
          rw [Glent e hb q1 q2]
          have z := f.sl.rep k _ (up_get q4)
          obtain ⟨v', y1, y2⟩ := ok.atM q1
          rw [getD_left (by rw [lV]; exact (List.getElem?_eq_some_iff.mp y1).1), gv y1] at z
          have hj := (List.getElem?_eq_some_iff.mp q2).1
          rw [getD_left (by omega), of_getD y2]
          exact z.bk q5
        · rw [Gnew e (newbig q6) q1]
          have z := f.sl.rep _ _ (pend q2)
          rw [getD_right (by rw [lV]; omega), lV, Nat.add_sub_cancel_left] at z
          rw [← List.append_assoc, getD_right (by rw [List.length_append]; omega), show j - (σ ++ ps).length = l by rw [List.length_append]; omega]
          exact z
        · have hn : ∀ k : Nat, as[k]? ≠ some (AM.m j) := fun k ek => by
            obtain ⟨v', _, y2⟩ := ok.atM ek
            have := (List.getElem?_eq_some_iff.mp y2).1
            omega
          have z := (w.sl.rep j s q3).mono st fun a ha => keepF j a ha hn
          rw [show (σ ++ (ps ++ pv)).getD j none = (σ ++ ps).getD j none by rw [← List.append_assoc, getD_left (by rw [List.length_append]; omega)]]
          rcases Gold e q3 (.inr q1) q2 with y | y
          · rw [y]; exact z
          · rw [y.1]; rw [y.2] at z; exact z
      · -- nodup
        by_cases hj : j < (backL as Em 0 E ++ (Ep ++ pe)).length
        · have e := List.getElem?_eq_getElem hj
          generalize (backL as Em 0 E ++ (Ep ++ pe))[j] = s at e
          by_cases hb : s.big = true
          · rw [Gbig e hb]
            split
            · split
              · split
                · exact w.sl.nd _
                · exact f.sl.nd _
              · exact w.sl.nd _
            · exact f.sl.nd _
          · have z : G j = [] := by
              cases s with
              | un => exact Gun e
              | fr d => exact Gfr e rfl
              | rf a => exact Gfr e rfl
              | ow t => exact absurd rfl hb
              | mu t => exact absurd rfl hb
              | nw a n => exact absurd rfl hb
              | nm a n => exact absurd rfl hb
            rw [z]; exact List.nodup_nil
        · rw [Gout (by omega)]; exact List.nodup_nil
      · -- disjoint
        have cross : ∀ {j l : Nat}, a ∈ F j → ((∀ k : Nat, as[k]? ≠ some (AM.m j)) ∨ E.length ≤ j) → ((∃ (k : Nat) (m : S), as[k]? = some (AM.m l) ∧ Em[k]? = some m ∧ m.isMu = true ∧ a ∈ F' k) ∨ (∃ (m : Nat) (t : S), l = (E ++ Ep).length + m ∧ pe[m]? = some t ∧ t.isNew = true ∧ a ∈ F' (vs.length + m))) → False := fun {j l} h1 hn h2 => by
          have hn : ∀ k : Nat, as[k]? ≠ some (AM.m j) := by
            rcases hn with hn | hn
            · exact hn
            · intro k ek
              obtain ⟨v', _, y2⟩ := ok.atM ek
              have := (List.getElem?_eq_some_iff.mp y2).1
              omega
          rcases h2 with ⟨k, t, e1, e2, hm, h2⟩ | ⟨m, t, e1, e2, hm, h2⟩
          · rcases lent_mu e1 e2 hm a h2 with ⟨s, _, _, z⟩ | z
            · have := w.sl.dj _ _ a h1 z
              subst this
              exact hn k e1
            · exact old j a h1 z
          · exact old j a h1 (f.own _ _ a (pend e2) hm h2)
        rcases src j a h1 with ⟨m1, n1⟩ | r1
        · rcases src l a h2 with ⟨m2, n2⟩ | r2
          · exact w.sl.dj j l a m1 m2
          · exact (cross m1 n1 r2).elim
        · rcases src l a h2 with ⟨m2, n2⟩ | r2
          · exact (cross m2 n2 r1).elim
          · rcases r1 with ⟨k, t, e1, e2, _, m1⟩ | ⟨m, t, e1, e2, _, m1⟩
            · rcases r2 with ⟨k', t', e1', e2', _, m1'⟩ | ⟨m', t', e1', e2', _, m1'⟩
              · have := f.sl.dj _ _ a m1 m1'
                subst this
                rw [e1] at e1'
                cases e1'
                rfl
              · have := f.sl.dj _ _ a m1 m1'
                have hk := (List.getElem?_eq_some_iff.mp e2).1
                omega
            · rcases r2 with ⟨k', t', e1', e2', _, m1'⟩ | ⟨m', t', e1', e2', _, m1'⟩
              · have := f.sl.dj _ _ a m1 m1'
                have hk := (List.getElem?_eq_some_iff.mp e2').1
                omega
              · have := f.sl.dj _ _ a m1 m1'
                omega
      · -- not frozen
        rcases src j a ha with ⟨m1, _⟩ | ⟨k, t, _, _, _, m1⟩ | ⟨l, t, _, _, _, m1⟩
        · exact nz1 j a m1
        · exact f.nz _ a m1
        · exact f.nz _ a m1
      · -- own
        have hw : H a = none → C.H0 a = none := fun z => Classical.byContradiction fun n => w.kt a n z
        rcases pos j _ e with q | ⟨q1, q2, q3⟩ | ⟨u3, q1, q0, q2⟩ | ⟨k, s0, m, q1, q2, q3, q4, q5⟩ | ⟨l, q1, q2, q6⟩ | ⟨q1, q2, q3⟩
        · subst q; cases nu
        · rcases Gold e q1 (.inl q2) q3 with z | z
          · rw [z] at ha; exact w.own j t a q1 nu ha
          · rw [z.1] at ha; cases ha
        · subst q2; exfalso; revert q0 nu; cases t <;> simp [S.flt, S.isNew, S.isMu]
        · obtain ⟨k1, _, hm, hb⟩ := bk_kind q5
          rw [Glent e hb q1 q2] at ha
          rcases lent_mu q1 q4 hm a ha with ⟨s, e4, e5, z⟩ | z
          · exact w.own j s0 a (up_get q2) (by rw [← k1]; exact nu) z
          · exact hw z
        · rw [Gnew e (newbig nu) q1] at ha
          exact hw (f.own _ _ a (pend q2) nu ha)
        · rcases Gold e q3 (.inr q1) q2 with z | z
          · rw [z] at ha; exact w.own j t a q3 nu ha
          · rw [z.1] at ha; cases ha
      · -- mum
        have hw : H a = none → C.H0 a = none := fun z => Classical.byContradiction fun n => w.kt a n z
        rcases pos j _ e with q | ⟨q1, q2, q3⟩ | ⟨u3, q1, q0, q2⟩ | ⟨k, s0, m, q1, q2, q3, q4, q5⟩ | ⟨l, q1, q2, q6⟩ | ⟨q1, q2, q3⟩
        · subst q; cases nu
        · rcases Gold e q1 (.inl q2) q3 with z | z
          · rw [z] at ha; exact w.mum j t a q1 nu ha
          · rw [z.1] at ha; cases ha
        · subst q2; exfalso; revert q0 nu; cases t <;> simp [S.flt, S.isNew, S.isMu]
        · obtain ⟨_, k1, hm, hb⟩ := bk_kind q5
          rw [Glent e hb q1 q2] at ha
          rcases lent_mu q1 q4 hm a ha with ⟨s, e4, e5, z⟩ | z
          · exact w.mum j s0 a (up_get q2) (by rw [← k1]; exact nu) z
          · exact .inr (hw z)
        · exfalso; revert q6 nu; cases t <;> simp [S.isNew, S.isMu]
        · rcases Gold e q3 (.inr q1) q2 with z | z
          · rw [z] at ha; exact w.mum j t a q3 nu ha
          · rw [z.1] at ha; cases ha
      · -- mus
        have up2 : ∀ {x : V}, j < (E ++ Ep).length → (σ ++ ps)[j]? = some (some x) → (σ ++ (ps ++ pv))[j]? = some (some x) := fun {x} hj e => by
          rw [← List.append_assoc, List.getElem?_append_left (by rw [List.length_append]; omega)]
          exact e
        rcases pos j _ e with q | ⟨q1, q2, q3⟩ | ⟨u3, q1, q0, q2⟩ | ⟨k, s0, m, q1, q2, q3, q4, q5⟩ | ⟨l, q1, q2, q6⟩ | ⟨q1, q2, q3⟩
        · cases q
        · obtain ⟨x, x1, x2⟩ := w.mus j t q1
          exact ⟨x, x1, up2 q3 x2⟩
        · subst q2; cases q0
        · cases s0 with
          | mu x =>
            obtain ⟨y, y1, y2⟩ := w.mus j x (up_get q2)
            exact ⟨y, y1, up2 (by have := (List.getElem?_eq_some_iff.mp q2).1; omega) y2⟩
          | un => cases q3
          | fr d => cases q3
          | rf a => cases q3
          | ow x => cases m <;> cases q5
          | nw a n => cases m <;> cases q5
          | nm a n => cases m <;> cases q5
        · cases q6
        · obtain ⟨x, x1, x2⟩ := w.mus j t q3
          exact ⟨x, x1, up2 q2 x2⟩
      · -- frame
        refine f.fr b o (w.fr b o e0 n) fun k hk => ?_
        obtain ⟨i, s, _, e4, e5, m⟩ := mem_lent hk
        have cases2 : s.isNew = true ∨ s.isMu = true := by revert e5; cases s <;> simp [S.big, S.isNew, S.isMu]
        rcases cases2 with hs | hs
        · have := w.own i _ b (up_get e4) hs m
          rw [e0] at this; cases this
        · rcases w.mum i _ b (up_get e4) hs m with z | z
          · exact n i z
          · rw [e0] at z; cases z
      · -- zn
        rcases f.zn a h with z | z
        · exact w.zn a z
        · exact .inr (Classical.byContradiction fun n => w.kt a n z)
      · -- identity
        rcases pos j _ e with q | ⟨q1, q2, q3⟩ | ⟨u3, q1, q0, q2⟩ | ⟨k, s0, m, q1, q2, q3, q4, q5⟩ | ⟨l, q1, q2, q6⟩ | ⟨q1, q2, q3⟩
        · cases q
        · exact w.idn j b n q1
        · subst q2; cases q0
        · cases s0 with
          | nm b0 n0 =>
            cases m with
            | nm b1 n1 =>
              cases q5
              have h1 := f.idn k b n (up_get q4)
              have h2 : lent as E F k = F j := lent_of q1 q2 rfl
              have h3 : F j = [b0] := (w.sl.rep j _ (up_get (Ep := Ep) q2)).1
              have h4 : ([b0] : List Addr) = [b] := by rw [← h3, ← h2]; exact h1
              rw [w.idn j b0 n0 (up_get q2), h4]
            | _ => cases q5
          | un => cases q3
          | fr d => cases q3
          | rf a => cases q3
          | ow x => cases m <;> cases q5
          | nw a n => cases m <;> cases q5
          | mu x => cases m <;> cases q5
        · cases q6
        · exact w.idn j b n q3
/-- .. with the result -/
theorem call_go {as : List AM} {vs : List V} (w : WdF C Z (σ ++ ps) (E ++ Ep) H F) (hl : σ.length = E.length) (ok : ArgsOk C.K Z σ H vs as) (ap : apart (msOf as) = true) :
    Slots C.K Z H (vs.map some) (as.map (argS E)) (lent as E F) ∧ (∀ i a, a ∈ lent as E F i → ¬ Z a) ∧
    ∀ (r : S) Em Z' H' v, ResAt0 ⟨C.K, H, lent as E F, Z, vs, Z, H, 0⟩ [] [] Z' (vs.map some) Em H' v r → Stp Z H Z' H' ∧ ResAt0 C ps Ep Z' σ (backL as Em 0 E) H' v r := by
  obtain ⟨g1, g2, main⟩ := callW_go w hl ok ap
  refine ⟨g1, g2, fun r Em Z' H' v R => ?_⟩
  have lb : σ.length = (backL as Em 0 E).length := by rw [backL_length]; exact hl
  cases r with
  | un => cases R
  | mu t => cases R
  | nw a n => cases R
  | nm a n => cases R
  | rf a =>
    obtain ⟨⟨wl, wd⟩, rv⟩ := R
    obtain ⟨st, q⟩ := main 0 Em Z' H' [] [] rfl (fun l s e => by simp at e) wd wl
    rw [List.append_nil, List.append_nil] at q
    exact ⟨st, ⟨lb, q⟩, rv⟩
  | fr d =>
    obtain ⟨⟨wl, wd⟩, rv⟩ := R
    obtain ⟨st, q⟩ := main 0 Em Z' H' [] [] rfl (fun l s e => by simp at e) wd wl
    rw [List.append_nil, List.append_nil] at q
    exact ⟨st, ⟨lb, q⟩, rv⟩
  | ow t =>
    obtain ⟨wl, wd⟩ := R
    obtain ⟨st, q⟩ := main 0 Em Z' H' [some v] [.ow t] rfl (fun l s e => by
      cases l with
      | zero => cases e; exact .inr rfl
      | succ l => simp at e) wd wl
    exact ⟨st, lb, q⟩
end
end DL
set_option Elab.async false
set_option linter.all false
set_option maxRecDepth 100000
set_option maxHeartbeats 4000000
/-! DL, part g: arguments, calls of defs as rules, the rule for a def. -/
namespace DL
open PySem PySem.Spec PyProof.Rows L2

abbrev TAm := List S → (List AM → List S → Prop) → Prop
def tamOf (C : Ctx) (n : Nat) (t : TAm) : TA := fun σ H Q => ∃ ps Ep E Z Qd, At C ps Ep Z σ E H ∧ t E Qd ∧ ∀ as E' Z' H' vs, At C ps Ep Z' σ E' H' → Stp Z H Z' H' → ArgsOk C.K Z' σ H' vs as → as.length = n → Qd as E' → Q vs H'
abbrev DM (C : Ctx) (X : Cx) (es : List Expr) (t : TAm) : Prop := PA X es (tamOf C es.length t)
section
variable {C : Ctx} {X : Cx} {pos : Pos}
theorem ArgsOk.mono {K : Frg} {Z Z' : Addr → Prop} {σ : Sg} {H H' : Hp} (st : Stp Z H Z' H') : ∀ {vs : List V} {as : List AM}, ArgsOk K Z σ H vs as → ArgsOk K Z' σ H' vs as
  | _, _, .nil => .nil
  | _, _, .d r h => .d (r.mono st) (h.mono st)
  | _, _, .m e h => .m e (h.mono st)
  | _, _, .rx h => .rx (h.mono st)
def tmNil : TAm := fun E Q => Q [] E
def tmD (t : TD) (u : TAm) : TAm := fun E Q => t E fun d E1 => u E1 fun as E2 => Q (.d d :: as) E2
def tmM (i : Nat) (u : TAm) : TAm := fun E Q => (match E[i]? with | some s => s.knownB = true | none => False) ∧ u E fun as E1 => Q (.m i :: as) E1
theorem dm_nil : DM C X [] tmNil := pa_nil.imp fun σ H Q ⟨ps, Ep, E, Z, Qd, w, h, post⟩ => post [] E Z H [] w (Stp.refl _ _) .nil rfl h
theorem dm_d {e : Expr} {es : List Expr} {t : TD} {u : TAm} (ha : DE C X e t) (hr : DM C X es u) (hs : starEach (e :: es) X.env = (false, eval e X.env) :: starEach es X.env := by rfl) : DM C X (e :: es) (tmD t u) :=
  (pa_cons ha hr hs).imp fun σ H Q ⟨ps, Ep, E, Z, Qd, w, h, post⟩ => ⟨ps, Ep, E, Z, _, w, h, fun d E1 Z1 H1 v w1 st1 r1 h1 => ⟨ps, Ep, E1, Z1, _, w1, h1, fun as E2 Z2 H2 vs w2 st2 r2 n h2 =>
    post _ E2 Z2 H2 _ w2 (st1.trans st2) (.d (r1.mono st2) r2) (by rw [List.length_cons, List.length_cons, n]) h2⟩⟩
theorem dm_m (i : Nat) {x : Str} {es : List Expr} {u : TAm} {pos' : Pos} (hr : DM C X es u) (hN : X.N[i]? = some x := by rfl) (hlt : i < C.n := by exact Nat.le_of_ble_eq_true rfl) (hv : Vis X.env.scope x := by first | exact Or.inl rfl | exact Or.inr (Or.inl rfl) | exact Or.inr (Or.inr rfl)) (hd : (x == ("__debug__" : Str)) = false := by decide)
    (hcd : (x == ("__classdict__" : Str)) = false := by decide) (hs : starEach (.Name x pos' :: es) X.env = (false, eval (.Name x pos') X.env) :: starEach es X.env := by rfl) : DM C X (.Name x pos' :: es) (tmM i u) :=
  (pa_cons (pe_var hN hv hd hcd) hr hs).imp fun σ H Q ⟨ps, Ep, E, Z, Qd, w, ⟨hk, h⟩, post⟩ => by
    split at hk
    · rename_i s e
      obtain ⟨v, e1⟩ := w.known hlt e hk
      exact ⟨v, e1, ps, Ep, E, Z, _, w, h, fun as E2 Z2 H2 vs w2 st2 r2 n h2 => post _ E2 Z2 H2 _ w2 st2 (.m e1 r2) (by rw [List.length_cons, List.length_cons, n]) h2⟩
    · cases hk

/-- a call whose result is data; what it makes of the lent trees -/
def tCallD (sd : SpD) (ta : TAm) : TD := fun E Q => ta E fun as E1 => apart (msOf as) = true ∧ sd (as.map (argS E1)) fun r Em => match r with
  | .fr d => Q d (backL as Em 0 E1)
  | _ => False
def tCallN (sd : SpD) (ta : TAm) : TN := fun E Q => ta E fun as E1 => apart (msOf as) = true ∧ sd (as.map (argS E1)) fun r Em => match r with
  | .ow t => Q t (backL as Em 0 E1)
  | _ => False
theorem argS_no {E : List S} {as : List AM} : ∀ (i : Nat) s, (as.map (argS E))[i]? = some s → s.isNew = false := fun i t e => by
  rw [List.getElem?_map] at e
  cases q : as[i]? with
  | none => rw [q] at e; cases e
  | some a =>
    rw [q] at e
    have e : argS E a = t := Option.some.inj e
    cases a with
    | d d => subst e; rfl
    | r a => subst e; rfl
    | m j =>
      unfold argS at e
      dsimp only at e
      split at e <;> (subst e; rfl)
theorem ArgsOk.lift {K : Frg} {Z : Addr → Prop} {σ τ : Sg} {H : Hp} : ∀ {vs : List V} {as : List AM}, ArgsOk K Z σ H vs as → ArgsOk K Z (σ ++ τ) H vs as
  | _, _, .nil => .nil
  | _, _, .d h r => .d h r.lift
  | _, _, .rx r => .rx r.lift
  | _, _, .m e r => .m (by rw [List.getElem?_append_left (List.getElem?_eq_some_iff.mp e).1]; exact e) r.lift
theorem call_imp {n : Nat} {sd : SpD} {ta : TAm} {Ex : XK} {σ : Sg} {H : Hp} {Q : VK} {ps : Sg} {Ep : List S} {E : List S} {Z : Addr → Prop} {Qr : S → List S → Prop} (w : At C ps Ep Z σ E H)
    (h : ta E fun as E1 => apart (msOf as) = true ∧ sd (as.map (argS E1)) fun r Em => Qr r (backL as Em 0 E1))
    (post : ∀ r E' Z' H' v, ResAt C ps Ep Z' σ E' H' v r → Stp Z H Z' H' → Qr r E' → Q v H') : tCall (spD C.K n sd) [] Ex (tamOf C n ta) σ H Q :=
  ⟨ps, Ep, E, Z, _, w, h, fun as E1 Z1 H1 vs w1 st1 ok hn ⟨ap, h1⟩ => by
    obtain ⟨hn1, τ, hl1, F, f⟩ := w1.zero
    obtain ⟨g1, g2, g3⟩ := call_go f hl1 ok.lift ap
    rw [List.append_nil]
    refine ⟨Z1, _, _, _, by rw [ok.length]; exact hn, g1, g2, f.zt, argS_no, h1, fun r Em Z' H' v R q => ?_⟩
    obtain ⟨st2, R2⟩ := g3 r Em Z' H' v R
    exact post r _ Z' H' v (R2.to hn1) (st1.trans st2) q⟩
variable {CX : CXT} {k n : Nat} {f : Addr} {fd : FuncData} {prs : List Str} {sd : SpD} {Ex : XK} {x : Str} {p : Pos} {e : Expr} {es : List Expr} {ta : TAm}
theorem de_call (G : FnOk X.prog X.w X.K X.mg X.base CX k f fd prs (spD X.K n sd)) (hr : Room k X.A) (hm : X.mg x = some (.ref f)) (hk : PySem.W.keepIn X.K (.ref f) = true) (hb : Binds X.K fd prs []) (ha : DM C X (e :: es) ta) (hx : Passes CX X Ex := by exact pass0) (hg : Gl X x := by rfl) (hn : n = (e :: es).length := by rfl) (hK : X.K = C.K := by rfl)
    (hdb : (x == ("__debug__" : Str)) = false := by decide) (he : starEach (e :: es) X.env = (false, eval e X.env) :: starEach es X.env := by rfl) (hpl : (backTo pos (starEach es X.env)).any (·.1) = false := by rfl) :
    DE C X (.Call (.Name x p) (e :: es) [] pos) (tCallD sd ta) := (pe_call G hr hg hm hk hb .nil hx ha hdb he hpl).imp fun σ H Q ⟨ps, Ep, E, Z, Qd, w, h, post⟩ => by
  subst hn
  rw [hK]
  refine call_imp (Qr := fun r E' => match r with | .fr d => Qd d E' | _ => False) w h fun r E' Z' H' v R st q => ?_
  cases r with
  | fr d => exact post d E' Z' H' v R.1 st R.2 q
  | un => cases q
  | ow t => cases q
  | mu t => cases q
  | rf a => cases q
  | nw a n => cases q
  | nm a n => cases q
theorem dn_call (G : FnOk X.prog X.w X.K X.mg X.base CX k f fd prs (spD X.K n sd)) (hr : Room k X.A) (hm : X.mg x = some (.ref f)) (hk : PySem.W.keepIn X.K (.ref f) = true) (hb : Binds X.K fd prs []) (ha : DM C X (e :: es) ta) (hx : Passes CX X Ex := by exact pass0) (hg : Gl X x := by rfl) (hn : n = (e :: es).length := by rfl) (hK : X.K = C.K := by rfl)
    (hdb : (x == ("__debug__" : Str)) = false := by decide) (he : starEach (e :: es) X.env = (false, eval e X.env) :: starEach es X.env := by rfl) (hpl : (backTo pos (starEach es X.env)).any (·.1) = false := by rfl) :
    DN C X (.Call (.Name x p) (e :: es) [] pos) (tCallN sd ta) := (pe_call G hr hg hm hk hb .nil hx ha hdb he hpl).imp fun σ H Q ⟨ps, Ep, E, Z, Qd, w, h, post⟩ => by
  subst hn
  rw [hK]
  refine call_imp (Qr := fun r E' => match r with | .ow t => Qd t E' | _ => False) w h fun r E' Z' H' v R st q => ?_
  cases r with
  | ow t => exact post t E' Z' H' v R st q
  | un => cases q
  | fr d => cases q
  | mu t => cases q
  | rf a => cases q
  | nw a n => cases q
  | nm a n => cases q
end

/-! ### the rule for a def -/
def muO : S → S
  | .mu t => .mu t
  | _ => .un
theorem getElem?_takeMap {E : List S} {n j : Nat} {s : S} (h : ((E.take n).map muO)[j]? = some s) : j < n ∧ ∃ u, E[j]? = some u ∧ s = muO u := by
  rw [List.getElem?_map] at h
  cases q : (E.take n)[j]? with
  | none => rw [q] at h; cases h
  | some u =>
    rw [q] at h
    have hj : j < n := by
      have := (List.getElem?_eq_some_iff.mp q).1
      rw [List.length_take] at this
      omega
    rw [List.getElem?_take_of_lt hj] at q
    exact ⟨hj, u, q, (Option.some.inj h).symm⟩
section
variable {P : Program} {w : World} {K : Frg} {mg : Str → Option Value} {base : Heap} {C : Ctx}
/-- at a def's end: what became of the arguments' trees -/
theorem ResAt.ends {n : Nat} {Z : Addr → Prop} {σ : Sg} {E : List S} {H : Hp} {v : V} {r : S} (hn : C.vs.length = n) (hE : n ≤ E.length) (R : ResAt C [] [] Z σ E H v r) : ResAt0 C [] [] Z (C.vs.map some) ((E.take n).map muO) H v r := by
  have main : ∀ (σ : Sg) (pv : Sg) (pe : List S), pv.length = pe.length → (∀ (l : Nat) s, pe[l]? = some s → s.isMu = false) → σ.length = E.length → Wd C Z (σ ++ pv) (E ++ pe) H → Wd C Z (C.vs.map some ++ pv) ((E.take n).map muO ++ pe) H := by
    intro σ pv pe hp hm hl ⟨F, f⟩
    have l1 : ((E.take n).map muO).length = n := by rw [List.length_map, List.length_take]; omega
    have l2 : (C.vs.map some).length = n := by rw [List.length_map]; exact hn
    refine f.re (fun j => if j < n then j else E.length + (j - n)) (by rw [List.length_append, List.length_append, l1, l2, hp]) (fun j s e => ?_) (fun j l s u e1 e2 n1 n2 e => ?_)
    · by_cases hj : j < n
      · rw [List.getElem?_append_left (by omega)] at e
        obtain ⟨_, u, e1, e2⟩ := getElem?_takeMap e
        cases u with
        | mu t =>
          subst e2
          refine .inr ⟨by rw [if_pos hj]; exact up_get e1, ?_, fun _ => if_pos hj⟩
          obtain ⟨x, x1, x2⟩ := f.mus j t (up_get e1)
          rw [if_pos hj, of_getD x2, getD_left (by omega), List.getD_eq_getElem?_getD, List.getElem?_map, x1]
          rfl
        | un => exact .inl e2
        | fr d => exact .inl e2
        | ow t => exact .inl e2
        | rf a => exact .inl e2
        | nw a n => exact .inl e2
        | nm a n => exact .inl e2
      · rw [List.getElem?_append_right (by omega), l1] at e
        refine .inr ⟨?_, ?_, fun h => ?_⟩
        · rw [if_neg hj, List.getElem?_append_right (by omega), Nat.add_sub_cancel_left]
          exact e
        · rw [if_neg hj, getD_right (by omega), getD_right (by omega), l2, hl, Nat.add_sub_cancel_left]
        · rw [hm _ _ e] at h; cases h
    · by_cases h1 : j < n
      · by_cases h2 : l < n
        · rw [if_pos h1, if_pos h2] at e; exact e
        · rw [if_pos h1, if_neg h2] at e
          omega
      · by_cases h2 : l < n
        · rw [if_neg h1, if_pos h2] at e
          omega
        · rw [if_neg h1, if_neg h2] at e
          omega
  have l0 : (C.vs.map some).length = ((E.take n).map muO).length := by rw [List.length_map, List.length_map, List.length_take, hn]; omega
  cases r with
  | un => cases R
  | mu t => cases R
  | nw a n => cases R
  | nm a n => cases R
  | fr d =>
    obtain ⟨a, rv⟩ := R
    obtain ⟨hn, τ, hl, b⟩ := a.zero
    exact ⟨⟨l0, main (σ ++ τ) [] [] rfl (fun l t e => by simp at e) hl b⟩, rv⟩
  | rf x =>
    obtain ⟨a, rv⟩ := R
    obtain ⟨hn, τ, hl, b⟩ := a.zero
    exact ⟨⟨l0, main (σ ++ τ) [] [] rfl (fun l t e => by simp at e) hl b⟩, rv⟩
  | ow t =>
    obtain ⟨hn, τ, hl, b⟩ := At.zero R
    refine ⟨l0, main (σ ++ τ) [some v] [.ow t] rfl (fun l t e => ?_) hl b⟩
    cases l with
    | zero => cases e; rfl
    | succ l => simp at e
/-- what is wanted at a def's end -/
def dEnd (n : Nat) (Qd : S → List S → Prop) : DEnd := { nx := fun E => n ≤ E.length ∧ Qd (.fr .non) ((E.take n).map muO), rt := fun r E => n ≤ E.length ∧ Qd r ((E.take n).map muO) }
/-- the places at a def's entry -/
theorem start_at {N prs : List Str} {vs : List V} {H : Hp} {Z : Addr → Prop} {args : List S} {F' : Foot} (hv : vs.length = prs.length) (la : args.length = prs.length) (sl : Slots K Z H (vs.map some) args F') (nz : ∀ i a, a ∈ F' i → ¬ Z a) (zt : ∀ a, Z a → H a ≠ none) (no : ∀ (i : Nat) s, args[i]? = some s → s.isNew = false) (hN : prs.length ≤ N.length) :
    At ⟨K, H, F', Z, vs, Z, H, N.length⟩ [] [] Z (L2.start N vs) (args ++ List.replicate (N.length - prs.length) .un) H := by
  have e1 : L2.start N vs = vs.map some ++ List.replicate (N.length - prs.length) none := by unfold L2.start; rw [hv]
  have ll : (L2.start N vs).length = (args ++ List.replicate (N.length - prs.length) S.un).length := by
    rw [e1, List.length_append, List.length_append, List.length_map, List.length_replicate, List.length_replicate]; omega
  have low : ∀ (j : Nat) u, (args ++ List.replicate (N.length - prs.length) S.un)[j]? = some u → u = .un ∨ args[j]? = some u := fun j u e => by
    by_cases hj : j < args.length
    · rw [List.getElem?_append_left hj] at e; exact .inr e
    · rw [List.getElem?_append_right (by omega), List.getElem?_replicate] at e
      split at e
      · exact .inl (Option.some.inj e).symm
      · cases e
  refine ⟨by show (L2.start N vs).length = N.length; rw [ll, List.length_append, List.length_replicate]; omega, [], ll, F', ?_⟩
  rw [List.append_nil, List.append_nil, List.append_nil]
  refine ⟨⟨ll, fun j u e => ?_, fun j hj => sl.out j (by rw [List.length_append] at hj; omega), sl.nd, sl.dj⟩, nz, fun j t a e nu ha => ?_, fun j t a e nu ha => .inl ha, fun j t e => ?_, fun b o e _ => e, fun a h => h, fun a h => .inl h, zt, fun b h => h, Stp.refl _ _, fun j b n e => ?_⟩
  · by_cases hj : j < args.length
    · rw [List.getElem?_append_left hj] at e
      rw [e1, getD_left (by rw [List.length_map]; omega)]
      exact sl.rep j u e
    · rcases low j u e with q | q
      · subst q; exact sl.out j (by omega)
      · rw [List.getElem?_eq_none (by omega)] at q; cases q
  · rcases low j _ e with q | q
    · subst q; cases nu
    · rw [no j t q] at nu; cases nu
  · rcases low j _ e with q | q
    · cases q
    · have hj := (List.getElem?_eq_some_iff.mp q).1
      obtain ⟨x, x1, x2⟩ := sl.rep j _ q
      have x1 := getD_some x1
      rw [List.getElem?_map] at x1
      cases q2 : vs[j]? with
      | none => rw [q2] at x1; cases x1
      | some y =>
        rw [q2] at x1
        cases x1
        refine ⟨x, by first | exact q2 | rfl, ?_⟩
        rw [e1, List.getElem?_append_left (by rw [List.length_map]; omega), List.getElem?_map, q2]
        rfl
  · rcases low j _ e with q | q
    · cases q
    · exact (sl.rep j _ q).1
/-- THE RULE for a def, over data -/
theorem fn_D {x qual : Str} {st : Stmt} {f : Addr} {fd : FuncData} {N prs : List Str} {k : Nat} {sd : SpD} (F : Fun K x qual st f fd) (S' : FnScope N prs (defScope st)) {t : TSD}
    (hb : ∀ (H0 : Hp) (Fm : Foot) (Z0 : Addr → Prop) (vs : List V) (cdv : Value) (A : Around) (outer : List Env) (s : Shared) (H : Hp) (Ex : XK), Room k (A.deeper (envOfC qual (defScope st) s.heap.objs.size f cdv)) →
      DSs ⟨K, H0, Fm, Z0, vs, Z0, H0, N.length⟩ (cxOf CX0 P w K mg base N qual (defScope st) f cdv A outer s H Ex).nox (defBody st) t)
    (ht : ∀ args Qd, args.length = prs.length → sd args Qd → t (dEnd prs.length Qd) (args ++ List.replicate (N.length - prs.length) .un)) :
    FnOk P w K mg base CX0 (k + 1) f fd prs (spD K prs.length sd) := by
  refine F.ok S' (fun vs H Q E h => ?_) (fun cdv A outer s H vs Q E hr h => ?_)
  · obtain ⟨_, _, _, _, h, _⟩ := h
    exact h
  · obtain ⟨Z, args, F', Qd, hv, sl, nz, zt, no, h, post⟩ := h
    have la : args.length = prs.length := by
      have := sl.len
      rw [List.length_map] at this
      omega
    have hNp : prs.length ≤ N.length := by have := congrArg List.length S'.pre; rw [List.length_take] at this; omega
    have w0 := start_at (K := K) (N := N) (prs := prs) hv la sl nz zt no hNp
    refine ⟨_, hb H F' Z vs cdv A outer s H E hr, ?_⟩
    refine ⟨[], [], _, Z, _, w0, ht args Qd la h, ⟨fun σ' E' Z' H' w' st' ⟨le, q⟩ => ?_, fun _ _ _ _ _ _ q => q, fun _ _ _ _ _ _ q => q, fun r σ' E' Z' H' v w' st' ⟨le, q⟩ => ?_, rfl, rfl⟩⟩
    · exact post (.fr .non) _ Z' H' .non ((ResAt.ends (C := ⟨K, H, F', Z, vs, Z, H, N.length⟩) (r := .fr .non) hv le ⟨w', .non⟩).reN 0) q
    · exact post r _ Z' H' v ((ResAt.ends (C := ⟨K, H, F', Z, vs, Z, H, N.length⟩) hv le w').reN 0) q
end
end DL
set_option Elab.async false
set_option linter.all false
set_option maxRecDepth 100000
set_option maxHeartbeats 4000000
/-! DL, part h: list operations, built-ins. -/
namespace DL
open PySem PySem.Spec PyProof.Rows L2

section
variable {C : Ctx} {X : Cx} {pos : Pos}
/-! ### an owned list's methods -/
/-- the list at a name, owned -/
def lstAt (E : List S) (i : Nat) (k : List D → (List D → List S) → Prop) : Prop := match E[i]? with
  | some (.ow (.lst ds)) => k ds fun ds' => E.set i (.ow (.lst ds'))
  | some (.mu (.lst ds)) => k ds fun ds' => E.set i (.mu (.lst ds'))
  | _ => False
theorem lstAt_of {E : List S} {i : Nat} {k : List D → (List D → List S) → Prop} (h : lstAt E i k) : ∃ s ds, E[i]? = some s ∧ s.tree? = some (.lst ds) ∧ k ds fun ds' => E.set i (s.put (.lst ds')) := by
  unfold lstAt at h
  split at h
  · rename_i ds e; exact ⟨_, ds, e, rfl, h⟩
  · rename_i ds e; exact ⟨_, ds, e, rfl, h⟩
  · cases h
def tAppend (i : Nat) (t : TD) : TD := fun E Q => lstAt E i fun _ _ => t E fun d E1 => lstAt E1 i fun ds put => ds.length < sizeLine ∧ Q .non (put (ds ++ [d]))
theorem de_append (i : Nat) {x : Str} {e : Expr} {t : TD} {pos' apos cpos : Pos} (he : DE C X e t) (hN : X.N[i]? = some x := by rfl) (hlt : i < C.n := by exact Nat.le_of_ble_eq_true rfl) (hv : Vis X.env.scope x := by first | exact Or.inl rfl | exact Or.inr (Or.inl rfl) | exact Or.inr (Or.inr rfl))
    (hbase : attributeBase (.Name x pos') "append" X.env (eval (.Name x pos') X.env) = eval (.Name x pos') X.env := by rfl)
    (hfew : ((backTo cpos (starEach [e] X.env)).all (fun x => !x.1) && (backToKw cpos (keywordEach [] X.env)).all (fun x => x.1.isSome) && decide ([e].length + ([] : List Keyword).length + (if ([] : List Keyword).isEmpty then 0 else 1) < 30)) = true := by rfl)
    (hline : (apos.endLine == cpos.line) = true := by rfl) (hs : starEach [e] X.env = (false, eval e X.env) :: starEach [] X.env := by rfl) (hd : (x == ("__debug__" : Str)) = false := by decide) (hcd : (x == ("__classdict__" : Str)) = false := by decide) :
    DE C X (.Call (.Attribute (.Name x pos') "append" apos) [e] [] cpos) (tAppend i t) :=
  (pe_bm PySem.F.plainAttrs_list PySem.F.slot_list_append PySem.F.type_list_append mt_append (pe_var hN hv hd hcd) (pa_cons he pa_nil hs) hbase hfew hline hs rfl).imp fun σ H Q ⟨ps, Ep, E, Z, Qd, w, h, post⟩ => by
    obtain ⟨s, ds, e1, e2, h⟩ := lstAt_of h
    obtain ⟨a, vs, e3, ha, _, _⟩ := w.list hlt e1 e2
    refine ⟨_, e3, .inl ⟨rfl, vs, .of ha⟩, ps, Ep, E, Z, _, w, h, fun d E1 Z1 H1 v w1 st1 r1 h1 => ?_⟩
    obtain ⟨s', ds', e4, e5, hz, h1⟩ := lstAt_of h1
    obtain ⟨a', vs', e6, ha', rs', k⟩ := w1.list hlt e4 e5
    rw [e3] at e6; cases e6
    obtain ⟨st2, w2⟩ := k (vs' ++ [v]) (ds' ++ [d]) (rs'.append (.one r1))
    exact ⟨_, _, _, rfl, rfl, ha', by rw [rs'.length]; exact hz, post .non _ Z1 _ _ w2 (st1.trans st2) .non h1⟩
@[irreducible] def tPopL (i : Nat) : TD := fun E Q => lstAt E i fun ds put => match ds.getLast? with
  | some d => Q d (put ds.dropLast)
  | none => False
theorem de_pop (i : Nat) {x : Str} {pos' apos cpos : Pos} (hN : X.N[i]? = some x := by rfl) (hlt : i < C.n := by exact Nat.le_of_ble_eq_true rfl) (hv : Vis X.env.scope x := by first | exact Or.inl rfl | exact Or.inr (Or.inl rfl) | exact Or.inr (Or.inr rfl))
    (hbase : attributeBase (.Name x pos') "pop" X.env (eval (.Name x pos') X.env) = eval (.Name x pos') X.env := by rfl)
    (hline : (apos.endLine == cpos.line) = true := by rfl) (hd : (x == ("__debug__" : Str)) = false := by decide) (hcd : (x == ("__classdict__" : Str)) = false := by decide) :
    DE C X (.Call (.Attribute (.Name x pos') "pop" apos) [] [] cpos) (tPopL i) :=
  (pe_bm0 PySem.F.plainAttrs_list PySem.F.slot_list_pop PySem.F.type_list_pop mt_pop (pe_var hN hv hd hcd) hbase hline).imp fun σ H Q ⟨ps, Ep, E, Z, Qd, w, h, post⟩ => by
    unfold tPopL at h
    obtain ⟨s, ds, e1, e2, h⟩ := lstAt_of h
    obtain ⟨a, vs, e3, ha, rs, k⟩ := w.list hlt e1 e2
    split at h
    · rename_i d ed
      rw [List.getLast?_eq_getElem?] at ed
      obtain ⟨y, ey, ry⟩ := rs.get ed
      obtain ⟨st2, w2⟩ := k vs.dropLast ds.dropLast rs.dropLast
      refine ⟨_, e3, .inl ⟨rfl, vs, .of ha⟩, _, _, y, rfl, rfl, ha, by rw [rs.length]; exact ey, post d _ Z _ _ w2 st2 (ry.mono st2) h⟩
    · cases h
def tRevL (i : Nat) : TD := fun E Q => lstAt E i fun ds put => Q .non (put ds.reverse)
theorem de_reverse (i : Nat) {x : Str} {pos' apos cpos : Pos} (hN : X.N[i]? = some x := by rfl) (hlt : i < C.n := by exact Nat.le_of_ble_eq_true rfl) (hv : Vis X.env.scope x := by first | exact Or.inl rfl | exact Or.inr (Or.inl rfl) | exact Or.inr (Or.inr rfl))
    (hbase : attributeBase (.Name x pos') "reverse" X.env (eval (.Name x pos') X.env) = eval (.Name x pos') X.env := by rfl)
    (hline : (apos.endLine == cpos.line) = true := by rfl) (hd : (x == ("__debug__" : Str)) = false := by decide) (hcd : (x == ("__classdict__" : Str)) = false := by decide) :
    DE C X (.Call (.Attribute (.Name x pos') "reverse" apos) [] [] cpos) (tRevL i) :=
  (pe_bm0 PySem.F.plainAttrs_list PySem.F.slot_list_reverse PySem.F.type_list_reverse mt_reverse (pe_var hN hv hd hcd) hbase hline).imp fun σ H Q ⟨ps, Ep, E, Z, Qd, w, h, post⟩ => by
    obtain ⟨s, ds, e1, e2, h⟩ := lstAt_of h
    obtain ⟨a, vs, e3, ha, rs, k⟩ := w.list hlt e1 e2
    obtain ⟨st2, w2⟩ := k vs.reverse ds.reverse rs.reverse
    exact ⟨_, e3, .inl ⟨rfl, vs, .of ha⟩, _, _, rfl, rfl, ha, post .non _ Z _ _ w2 st2 .non h⟩
/-- xs.insert(k, y), k not below 0 -/
def tInsert (i : Nat) (tk ty : TD) : TD := fun E Q => lstAt E i fun _ _ => tk E fun k E1 => ty E1 fun y E2 => lstAt E2 i fun ds put => match k with
  | .int n => (ds.length < sizeLine ∧ 0 ≤ n ∧ n < 2 ^ 63) ∧ Q .non (put (ds.take n.toNat ++ y :: ds.drop n.toNat))
  | _ => False
theorem de_insert (i : Nat) {x : Str} {e1 e2 : Expr} {tk ty : TD} {pos' apos cpos : Pos} (hk : DE C X e1 tk) (he : DE C X e2 ty) (hN : X.N[i]? = some x := by rfl) (hlt : i < C.n := by exact Nat.le_of_ble_eq_true rfl) (hv : Vis X.env.scope x := by first | exact Or.inl rfl | exact Or.inr (Or.inl rfl) | exact Or.inr (Or.inr rfl))
    (hbase : attributeBase (.Name x pos') "insert" X.env (eval (.Name x pos') X.env) = eval (.Name x pos') X.env := by rfl)
    (hfew : ((backTo cpos (starEach [e1, e2] X.env)).all (fun x => !x.1) && (backToKw cpos (keywordEach [] X.env)).all (fun x => x.1.isSome) && decide ([e1, e2].length + ([] : List Keyword).length + (if ([] : List Keyword).isEmpty then 0 else 1) < 30)) = true := by rfl)
    (hline : (apos.endLine == cpos.line) = true := by rfl) (hs : starEach [e1, e2] X.env = (false, eval e1 X.env) :: starEach [e2] X.env := by rfl) (hs2 : starEach [e2] X.env = (false, eval e2 X.env) :: starEach [] X.env := by rfl) (hpl : (backTo cpos (starEach [e2] X.env)).any (·.1) = false := by rfl)
    (hd : (x == ("__debug__" : Str)) = false := by decide) (hcd : (x == ("__classdict__" : Str)) = false := by decide) :
    DE C X (.Call (.Attribute (.Name x pos') "insert" apos) [e1, e2] [] cpos) (tInsert i tk ty) :=
  (pe_bm PySem.F.plainAttrs_list PySem.F.slot_list_insert PySem.F.type_list_insert mt_insert (pe_var hN hv hd hcd) (pa_cons hk (pa_cons he pa_nil hs2) hs) hbase hfew hline hs hpl).imp fun σ H Q ⟨ps, Ep, E, Z, Qd, w, h, post⟩ => by
    obtain ⟨s, ds, e1, e2, h⟩ := lstAt_of h
    obtain ⟨a, vs, e3, ha, _, _⟩ := w.list hlt e1 e2
    refine ⟨_, e3, .inl ⟨rfl, vs, .of ha⟩, ps, Ep, E, Z, _, w, h, fun k E1 Z1 H1 u w1 st1 r1 h1 => ⟨ps, Ep, E1, Z1, _, w1, h1, fun d E2 Z2 H2 v w2 st2 r2 h2 => ?_⟩⟩
    obtain ⟨s', ds', e4, e5, h2⟩ := lstAt_of h2
    obtain ⟨a', vs', e6, ha', rs', kk⟩ := w2.list hlt e4 e5
    rw [e3] at e6; cases e6
    cases k with
    | int n =>
      obtain ⟨⟨hz, h0, h1'⟩, h2⟩ := h2
      cases r1
      obtain ⟨st3, w3⟩ := kk (vs'.take n.toNat ++ v :: vs'.drop n.toNat) (ds'.take n.toNat ++ d :: ds'.drop n.toNat) (rs'.insertIdx _ r2)
      refine ⟨_, _, n, v, rfl, rfl, ha', by rw [rs'.length]; exact hz, h0, h1', ?_⟩
      rw [List.append_assoc]
      exact post .non _ Z2 _ _ w3 (st1.trans (st2.trans st3)) .non h2
    | _ => cases h2
/-- xs[k] = e -/
def dSetIx (i : Nat) (tk te : TD) : TSD := fun D E => te E fun d E1 => lstAt E1 i fun _ _ => tk E1 fun k E2 => lstAt E2 i fun ds put => match k with
  | .int n => (match ixN ds.length n with | some j => D.nx (put (ds.set j d)) | none => False)
  | _ => False
theorem ds_setix (i : Nat) {x : Str} {e1 e2 : Expr} {tk te : TD} {pos' apos : Pos} (hk : DE C X e1 tk) (he : DE C X e2 te) (hN : X.N[i]? = some x := by rfl) (hlt : i < C.n := by exact Nat.le_of_ble_eq_true rfl) (hv : Vis X.env.scope x := by first | exact Or.inl rfl | exact Or.inr (Or.inl rfl) | exact Or.inr (Or.inr rfl))
    (ha : ∀ v, assign (.Subscript (.Name x pos') e1 apos) X.env v = (do
      let ov ← holding [v] (eval (.Name x pos') X.env)
      let iv ← holding [v, ov] (eval e1 X.env)
      standAt apos
      holding [v, ov, iv] (setItem ov iv v)
      release [v, ov, iv] []) := by intro _; rfl)
    (hs : swapsWithSole [(.Subscript (.Name x pos') e1 apos)] e2 pos.line X.env = pure false := by rfl) (hw : swappedStores [(.Subscript (.Name x pos') e1 apos)] e2 X.env = pure none := by rfl)
    (h1 : (assignEach [(.Subscript (.Name x pos') e1 apos)] X.env).map (·.2) = [assign (.Subscript (.Name x pos') e1 apos) X.env] := by rfl) (hd : (x == ("__debug__" : Str)) = false := by decide) (hcd : (x == ("__classdict__" : Str)) = false := by decide) :
    DS C X (.Assign [.Subscript (.Name x pos') e1 apos] e2 pos) (dSetIx i tk te) :=
  (ps_asg he (pg_sub (pe_var hN hv hd hcd) hk set_list ha) hs hw h1).imp fun Dn σ H ⟨ps, Ep, E, Z, Dd, w, h, f⟩ => ⟨ps, Ep, E, Z, _, w, h, fun d E1 Z1 H1 v w1 st1 r1 h1 => by
    obtain ⟨s, ds, e1, e2, h1⟩ := lstAt_of h1
    obtain ⟨a, vs, e3, ha, _, _⟩ := w1.list hlt e1 e2
    refine ⟨_, e3, ps, Ep, E1, Z1, _, w1, h1, fun k E2 Z2 H2 u w2 st2 r2 h2 => ?_⟩
    obtain ⟨s', ds', e4, e5, h2⟩ := lstAt_of h2
    obtain ⟨a', vs', e6, ha', rs', kk⟩ := w2.list hlt e4 e5
    rw [e3] at e6; cases e6
    cases k with
    | int n =>
      dsimp only at h2
      split at h2
      · rename_i j ej
        cases r2
        obtain ⟨st3, w3⟩ := kk (vs'.set j v) (ds'.set j d) (rs'.set j (r1.mono st2))
        exact ⟨_, _, n, j, rfl, rfl, ha', by rw [rs'.length]; exact ej, f.nx _ _ Z2 _ w3 (st1.trans (st2.trans st3)) h2⟩
      · cases h2
    | _ => cases h2⟩

/-! ### slices -/
abbrev TOD := List S → (Option Int → List S → Prop) → Prop
def toOf (C : Ctx) (t : TOD) : TO := fun σ H Q => ∃ ps Ep E Z Qd, At C ps Ep Z σ E H ∧ t E Qd ∧ ∀ o E' Z' H', At C ps Ep Z' σ E' H' → Stp Z H Z' H' → Qd o E' → Q o H'
def toN : TOD := fun E Q => Q none E
def toS (t : TD) : TOD := fun E Q => t E fun d E1 => match d with
  | .int i => Q (some i) E1
  | _ => False
theorem _root_.L2.PO.imp {X : Cx} {e : Option Expr} {t t' : TO} (h : PO X e t) (k : ∀ σ H Q, t' σ H Q → t σ H Q) : PO X e t' := ⟨fun pins s σ H Q I q => h.run pins s σ H Q I (k σ H Q q)⟩
theorem do_n : PO X none (toOf C toN) := po_none.imp fun σ H Q ⟨ps, Ep, E, Z, Qd, w, h, post⟩ => post none E Z H w (Stp.refl _ _) h
theorem do_s {e : Expr} {t : TD} (h : DE C X e t) : PO X (some e) (toOf C (toS t)) := (po_some h).imp fun σ H Q ⟨ps, Ep, E, Z, Qd, w, h, post⟩ => ⟨ps, Ep, E, Z, _, w, h, fun d E1 Z1 H1 v w1 st1 r1 h1 => by
  cases r1 with
  | int i => exact ⟨i, rfl, post _ E1 Z1 H1 w1 st1 h1⟩
  | _ => cases h1⟩
def cutD (xs : List D) (lo hi : Option Int) : List D := (xs.drop (HT.sIx xs.length 0 lo)).take (HT.sIx xs.length xs.length hi - HT.sIx xs.length 0 lo)
theorem Reps.cut {K : Frg} {Z : Addr → Prop} {H : Hp} {vs : List V} {ds : List D} (r : Reps K Z H vs ds) (lo hi : Option Int) : Reps K Z H (cutV vs lo hi) (cutD ds lo hi) := by
  unfold cutV cutD
  rw [r.length]
  exact (r.drop _).take _
/-- a slice of a list: a new list -/
def tSlL (t : TD) (lo hi : TOD) : TN := fun E Q => t E fun d E1 => lo E1 fun l E2 => hi E2 fun u E3 => match d with
  | .lst ds => Q (.lst (cutD ds l u)) E3
  | .scr ds => Q (.lst (cutD ds l u)) E3
  | _ => False
theorem dn_sl {e : Expr} {lo hi : Option Expr} {t : TD} {tl th : TOD} {p2 pos : Pos} (he : DE C X e t) (hl : PO X lo (toOf C tl)) (hh : PO X hi (toOf C th)) (hK : X.K = C.K := by rfl) : DN C X (.Subscript e (.Slice lo hi none p2) pos) (tSlL t tl th) :=
  (pe_slice sl_list he hl hh).imp fun σ H Q ⟨ps, Ep, E, Z, Qd, w, h, post⟩ => ⟨ps, Ep, E, Z, _, w, h, fun d E1 Z1 H1 v w1 st1 r1 h1 => ⟨ps, Ep, E1, Z1, _, w1, h1, fun l E2 Z2 H2 w2 st2 h2 => ⟨ps, Ep, E2, Z2, _, w2, h2, fun u E3 Z3 H3 w3 st3 h3 => by
    rw [hK]
    split at h3
    · cases r1 with
      | lst hs rs =>
        have st23 := st2.trans st3
        refine ⟨_, _, rfl, (hs.mono st23).sq, fun p hp => ?_⟩
        obtain ⟨st4, w4⟩ := w3.push hp ((rs.mono st23).cut l u)
        exact post _ E3 Z3 _ _ w4 (st1.trans (st23.trans st4)) h3
    · cases r1 with
      | scr hs rs =>
        have st23 := st2.trans st3
        refine ⟨_, _, rfl, (hs.mono st23).sq, fun p hp => ?_⟩
        obtain ⟨st4, w4⟩ := w3.push hp ((rs.mono st23).cut l u)
        exact post _ E3 Z3 _ _ w4 (st1.trans (st23.trans st4)) h3
    · cases h3⟩⟩⟩

/-! ### built-ins of one argument that leave the heap -/
def Meets1 (C : Ctx) (o : D → (D → Prop) → Prop) (r : List V → Hp → VK → Prop) : Prop := ∀ (Z : Addr → Prop) (H : Hp) (v : V) (d : D) (q : D → Prop) (Q : VK), BRep C.K Z H v d → o d q → (∀ z y, Rep C.K Z H z y → q y → Q z H) → r [v] H Q
theorem one_imp {o : D → (D → Prop) → Prop} {r : List V → Hp → VK → Prop} (m : Meets1 C o r) {t : TD} (σ : Sg) (H : Hp) (Q : VK) (h : teOf C (tUn1 o t) σ H Q) : tCB r (tCons (tbOf C t) tNil) σ H Q := by
  obtain ⟨ps, Ep, E, Z, Qd, w, h, post⟩ := h
  exact ⟨ps, Ep, E, Z, _, w, h, fun d E1 Z1 H1 v w1 st1 r1 h1 => m Z1 H1 v d _ _ r1 h1 fun z y rz q => post y E1 Z1 H1 z w1 st1 rz q⟩
theorem de_b1 {id : String} {x : Str} {e : Expr} {t : TD} {o : D → (D → Prop) → Prop} {r : List V → Hp → VK → Prop} {p : Pos} (hc : CallR X (.builtin id) r ∧ Meets1 C o r) (hm : X.mg x = none) (he : DB C X e t) (hv : bootBuiltins x = some (.builtin id) := by first | rfl | decide +kernel) (hg : Gl X x := by rfl) (hn : x ≠ "__name__" := by decide) (hdb : (x == ("__debug__" : Str)) = false := by decide)
    (hs : starEach [e] X.env = (false, eval e X.env) :: starEach [] X.env := by rfl) (hpl : (backTo pos (starEach [] X.env)).any (·.1) = false := by rfl) : DE C X (.Call (.Name x p) [e] [] pos) (tUn1 o t) :=
  (pe_callB hc.1 hg hm hv (pa_cons he pa_nil hs) hn hdb hs hpl).imp (one_imp hc.2)
theorem de_t1 {T : String} {x : Str} {e : Expr} {t : TD} {o : D → (D → Prop) → Prop} {r : List V → Hp → VK → Prop} {p : Pos} (hc : CallR X (.type T) r ∧ Meets1 C o r) (hm : X.mg x = none) (he : DB C X e t) (hv : bootBuiltins x = some (.type T) := by first | rfl | decide +kernel) (hg : Gl X x := by rfl) (hn : x ≠ "__name__" := by decide) (hdb : (x == ("__debug__" : Str)) = false := by decide)
    (hs : starEach [e] X.env = (false, eval e X.env) :: starEach [] X.env := by rfl) (hpl : (backTo pos (starEach [] X.env)).any (·.1) = false := by rfl) : DE C X (.Call (.Name x p) [e] [] pos) (tUn1 o t) :=
  (pe_callTy hc.1 hg hm hv (pa_cons he pa_nil hs) hn hdb hs hpl).imp (one_imp hc.2)
def oLen : D → (D → Prop) → Prop := fun d q => match d with
  | .lst ds => q (.int ds.length)
  | .tup ds => q (.int ds.length)
  | .str z => z.length ≤ sizeLine ∧ q (.int z.length)
  | _ => False
def rLen (K : Frg) : List V → Hp → VK → Prop := fun xs H Q => (∃ p ys, xs = [.ref p] ∧ (SqL K H p ys ∨ SqT K H p ys) ∧ Q (.int ys.length) H) ∨ ∃ z, xs = [.str z] ∧ z.length ≤ sizeLine ∧ Q (.int z.length) H
theorem b_len (hK : X.K = C.K := by rfl) : CallR X (.builtin "len") (rLen X.K) ∧ Meets1 C oLen (rLen X.K) := ⟨call_len_seq.or call_len_str, fun Z H v d q Q r h k => by
  rw [hK]
  unfold oLen at h
  split at h
  · obtain ⟨a, vs, rfl, hs, rs⟩ := r.lst
    refine .inl ⟨a, vs, rfl, .inl hs, k _ _ ?_ h⟩
    rw [rs.length]; exact .int _
  · obtain ⟨a, vs, rfl, hs, rs⟩ := r.tup
    refine .inl ⟨a, vs, rfl, .inr hs, k _ _ ?_ h⟩
    rw [rs.length]; exact .int _
  · cases r.str
    exact .inr ⟨_, rfl, h.1, k _ _ (.int _) h.2⟩
  · cases h⟩
theorem BRep.int {K : Frg} {Z : Addr → Prop} {H : Hp} {v : V} {i : Int} (h : BRep K Z H v (.int i)) : v = .int i := by
  rcases h with h | ⟨t, F, h, e⟩
  · cases h; rfl
  · cases h with
    | fr h =>
      rw [show (T.fr _).fz = _ from rfl] at e
      subst e
      cases h; rfl
    | lst h hs => cases e
    | dic h e1 hs => cases e
    | obj h e1 hs => cases e
theorem BRep.bl {K : Frg} {Z : Addr → Prop} {H : Hp} {v : V} {i : Bool} (h : BRep K Z H v (.bl i)) : v = .bl i := by
  rcases h with h | ⟨t, F, h, e⟩
  · cases h; rfl
  · cases h with
    | fr h =>
      rw [show (T.fr _).fz = _ from rfl] at e
      subst e
      cases h; rfl
    | lst h hs => cases e
    | dic h e1 hs => cases e
    | obj h e1 hs => cases e
def oInt : D → (D → Prop) → Prop := fun d q => match d with
  | .int i => q (.int i)
  | .bl b => q (.int (if b then 1 else 0))
  | _ => False
theorem b_int : CallR X (.type "int") (fun xs H Q => (∃ i, xs = [.int i] ∧ Q (.int i) H) ∨ ∃ k, xs = [.bl k] ∧ Q (.int (if k then 1 else 0)) H) ∧ Meets1 C oInt (fun xs H Q => (∃ i, xs = [.int i] ∧ Q (.int i) H) ∨ ∃ k, xs = [.bl k] ∧ Q (.int (if k then 1 else 0)) H) := ⟨call_int1, fun Z H v d q Q r h k => by
  unfold oInt at h
  split at h
  · cases r.int; exact .inl ⟨_, rfl, k _ _ (.int _) h⟩
  · cases r.bl; exact .inr ⟨_, rfl, k _ _ (.int _) h⟩
  · cases h⟩
def oAbs : D → (D → Prop) → Prop := fun d q => match d with
  | .int i => q (.int (if i < 0 then -i else i))
  | _ => False
theorem b_abs : CallR X (.builtin "abs") (fun xs H Q => ∃ i, xs = [.int i] ∧ Q (.int (if i < 0 then -i else i)) H) ∧ Meets1 C oAbs (fun xs H Q => ∃ i, xs = [.int i] ∧ Q (.int (if i < 0 then -i else i)) H) := ⟨call_abs, fun Z H v d q Q r h k => by
  unfold oAbs at h
  split at h
  · cases r.int; exact ⟨_, rfl, k _ _ (.int _) h⟩
  · cases h⟩
theorem Reps.ints {K : Frg} {Z : Addr → Prop} {H : Hp} : ∀ {vs : List V} {ns : List Int}, Reps K Z H vs (ns.map D.int) → vs = ns.map V.int
  | _, [], h => by cases h; rfl
  | _, n :: ns, h => by
    cases h with
    | cons h hs => cases h; rw [List.map_cons, Reps.ints hs]
theorem Reps.bls {K : Frg} {Z : Addr → Prop} {H : Hp} : ∀ {vs : List V} {ns : List Bool}, Reps K Z H vs (ns.map D.bl) → vs = ns.map V.bl
  | _, [], h => by cases h; rfl
  | _, n :: ns, h => by
    cases h with
    | cons h hs => cases h; rw [List.map_cons, Reps.bls hs]
def oSum : D → (D → Prop) → Prop := fun d q => match d with
  | .lst ds => ∃ ns : List Int, ds = ns.map D.int ∧ q (.int ns.sum)
  | _ => False
theorem b_sum (hc : X.calm = true := by rfl) (hK : X.K = C.K := by rfl) : CallR X (.builtin "sum") (rSum X.K) ∧ Meets1 C oSum (rSum X.K) := ⟨cr_sum hc, fun Z H v d q Q r h k => by
  rw [hK]
  unfold oSum at h
  split at h
  · obtain ⟨ns, rfl, h⟩ := h
    obtain ⟨a, vs, rfl, hs, rs⟩ := r.lst
    rw [rs.ints] at hs
    exact ⟨a, ns, rfl, hs, k _ _ (.int _) h⟩
  · cases h⟩
def oMax : D → (D → Prop) → Prop := fun d q => match d with
  | .lst ds => ∃ ns : List Int, ds = ns.map D.int ∧ 0 < ns.length ∧ ∀ m, m ∈ ns → (∀ y, y ∈ ns → y ≤ m) → q (.int m)
  | _ => False
def oMin : D → (D → Prop) → Prop := fun d q => match d with
  | .lst ds => ∃ ns : List Int, ds = ns.map D.int ∧ 0 < ns.length ∧ ∀ m, m ∈ ns → (∀ y, y ∈ ns → m ≤ y) → q (.int m)
  | _ => False
theorem b_max (hc : X.calm = true := by rfl) (hK : X.K = C.K := by rfl) : CallR X (.builtin "max") (rMax X.K) ∧ Meets1 C oMax (rMax X.K) := ⟨cr_max hc, fun Z H v d q Q r h k => by
  rw [hK]
  unfold oMax at h
  split at h
  · obtain ⟨ns, rfl, hn, h⟩ := h
    obtain ⟨a, vs, rfl, hs, rs⟩ := r.lst
    rw [rs.ints] at hs
    exact ⟨a, ns, rfl, hs, hn, fun m h1 h2 => k _ _ (.int _) (h m h1 h2)⟩
  · cases h⟩
theorem b_min (hc : X.calm = true := by rfl) (hK : X.K = C.K := by rfl) : CallR X (.builtin "min") (rMin X.K) ∧ Meets1 C oMin (rMin X.K) := ⟨cr_min hc, fun Z H v d q Q r h k => by
  rw [hK]
  unfold oMin at h
  split at h
  · obtain ⟨ns, rfl, hn, h⟩ := h
    obtain ⟨a, vs, rfl, hs, rs⟩ := r.lst
    rw [rs.ints] at hs
    exact ⟨a, ns, rfl, hs, hn, fun m h1 h2 => k _ _ (.int _) (h m h1 h2)⟩
  · cases h⟩
def oAll : D → (D → Prop) → Prop := fun d q => match d with
  | .lst ds => ∃ bs : List Bool, ds = bs.map D.bl ∧ q (.bl (bs.all id))
  | _ => False
def oAny : D → (D → Prop) → Prop := fun d q => match d with
  | .lst ds => ∃ bs : List Bool, ds = bs.map D.bl ∧ q (.bl (bs.any id))
  | _ => False
theorem b_all (hc : X.calm = true := by rfl) (hK : X.K = C.K := by rfl) : CallR X (.builtin "all") (rAll X.K) ∧ Meets1 C oAll (rAll X.K) := ⟨cr_all hc, fun Z H v d q Q r h k => by
  rw [hK]
  unfold oAll at h
  split at h
  · obtain ⟨ns, rfl, h⟩ := h
    obtain ⟨a, vs, rfl, hs, rs⟩ := r.lst
    rw [rs.bls] at hs
    exact ⟨a, ns, rfl, hs, k _ _ (.bl _) h⟩
  · cases h⟩
theorem b_any (hc : X.calm = true := by rfl) (hK : X.K = C.K := by rfl) : CallR X (.builtin "any") (rAny X.K) ∧ Meets1 C oAny (rAny X.K) := ⟨cr_any hc, fun Z H v d q Q r h k => by
  rw [hK]
  unfold oAny at h
  split at h
  · obtain ⟨ns, rfl, h⟩ := h
    obtain ⟨a, vs, rfl, hs, rs⟩ := r.lst
    rw [rs.bls] at hs
    exact ⟨a, ns, rfl, hs, k _ _ (.bl _) h⟩
  · cases h⟩
/-- list(x) of a list or tuple: a new list -/
def tListOf (t : TD) : TN := fun E Q => t E fun d E1 => match d with
  | .lst ds => Q (.lst ds) E1
  | .tup ds => Q (.lst ds) E1
  | .scr ds => Q (.lst ds) E1
  | _ => False
theorem BRep.scr {K : Frg} {Z : Addr → Prop} {H : Hp} {v : V} {ds : List D} (h : BRep K Z H v (.scr ds)) : ∃ a vs, v = .ref a ∧ SqL K H a vs ∧ Reps K Z H vs ds := by
  rcases h with h | ⟨t, F, h, e⟩
  · cases h with
    | scr h hs => exact ⟨_, _, rfl, h.sq, hs⟩
  · cases h with
    | fr h =>
      rw [show (T.fr _).fz = _ from rfl] at e
      subst e
      cases h with
      | scr h hs => exact ⟨_, _, rfl, h.sq, hs⟩
    | lst h hs => cases e
    | dic h e1 hs => cases e
    | obj h e1 hs => cases e
theorem dn_list {x : Str} {e : Expr} {t : TD} {p : Pos} (hm : X.mg x = none) (he : DB C X e t) (hv : bootBuiltins x = some (.type "list") := by first | rfl | decide +kernel) (hg : Gl X x := by rfl) (hn : x ≠ "__name__" := by decide) (hdb : (x == ("__debug__" : Str)) = false := by decide)
    (hs : starEach [e] X.env = (false, eval e X.env) :: starEach [] X.env := by rfl) (hpl : (backTo pos (starEach [] X.env)).any (·.1) = false := by rfl) (hK : X.K = C.K := by rfl) : DN C X (.Call (.Name x p) [e] [] pos) (tListOf t) :=
  (pe_callTy call_list_of hg hm hv (pa_cons he pa_nil hs) hn hdb hs hpl).imp fun σ H Q ⟨ps, Ep, E, Z, Qd, w, h, post⟩ => ⟨ps, Ep, E, Z, _, w, h, fun d E1 Z1 H1 v w1 st1 r1 h1 => by
    rw [hK]
    split at h1
    · obtain ⟨a, vs, rfl, hs, rs⟩ := r1.lst
      refine ⟨a, vs, rfl, .inl hs, fun p hp => ?_⟩
      obtain ⟨st2, w2⟩ := w1.push hp rs
      exact post _ E1 Z1 _ _ w2 (st1.trans st2) h1
    · obtain ⟨a, vs, rfl, hs, rs⟩ := r1.tup
      refine ⟨a, vs, rfl, .inr hs, fun p hp => ?_⟩
      obtain ⟨st2, w2⟩ := w1.push hp rs
      exact post _ E1 Z1 _ _ w2 (st1.trans st2) h1
    · obtain ⟨a, vs, rfl, hs, rs⟩ := r1.scr
      refine ⟨a, vs, rfl, .inl hs, fun p hp => ?_⟩
      obtain ⟨st2, w2⟩ := w1.push hp rs
      exact post _ E1 Z1 _ _ w2 (st1.trans st2) h1
    · cases h1⟩
/-- tuple(x) of a list (a new tuple), of a tuple (itself) -/
def oTupOf : D → (D → Prop) → Prop := fun d q => match d with
  | .lst ds => q (.tup ds)
  | .tup ds => q (.tup ds)
  | _ => False
theorem de_tuple {x : Str} {e : Expr} {t : TD} {p : Pos} (hm : X.mg x = none) (he : DB C X e t) (hv : bootBuiltins x = some (.type "tuple") := by first | rfl | decide +kernel) (hg : Gl X x := by rfl) (hn : x ≠ "__name__" := by decide) (hdb : (x == ("__debug__" : Str)) = false := by decide)
    (hs : starEach [e] X.env = (false, eval e X.env) :: starEach [] X.env := by rfl) (hpl : (backTo pos (starEach [] X.env)).any (·.1) = false := by rfl) (hK : X.K = C.K := by rfl) : DE C X (.Call (.Name x p) [e] [] pos) (tUn1 oTupOf t) :=
  (pe_callTy call_tuple_of hg hm hv (pa_cons he pa_nil hs) hn hdb hs hpl).imp fun σ H Q ⟨ps, Ep, E, Z, Qd, w, h, post⟩ => ⟨ps, Ep, E, Z, _, w, h, fun d E1 Z1 H1 v w1 st1 r1 h1 => by
    rw [hK]
    unfold oTupOf at h1
    split at h1
    · obtain ⟨a, vs, rfl, hs, rs⟩ := r1.lst
      refine ⟨a, vs, rfl, .inl ⟨hs, fun p hp => ?_⟩⟩
      have st2 := Stp.new (o := .tup vs) w1.zt hp
      exact post _ E1 Z1 _ _ (w1.new hp) (st1.trans st2) (.tup (.of upd_same) (rs.mono st2)) h1
    · obtain ⟨a, vs, rfl, hs, rs⟩ := r1.tup
      exact ⟨a, vs, rfl, .inr ⟨hs, post _ E1 Z1 _ _ w1 st1 (.tup hs rs) h1⟩⟩
    · cases h1⟩
/-- min, max of two ints -/
def oMx2 : O2 := oI (iInt fun i j => if j > i then j else i)
def oMn2 : O2 := oI (iInt fun i j => if j < i then j else i)
theorem de_b2 {id : String} {x : Str} {a b : Expr} {ta tb : TD} {o : O2} {r : R2} {p : Pos} (hc : CallR X (.builtin id) (fun xs H Q => ∃ v w, xs = [v, w] ∧ r v w H Q)) (m : Meets C o r) (hm : X.mg x = none) (ha : DE C X a ta) (hb : DE C X b tb) (hv : bootBuiltins x = some (.builtin id) := by first | rfl | decide +kernel) (hg : Gl X x := by rfl) (hn : x ≠ "__name__" := by decide)
    (hdb : (x == ("__debug__" : Str)) = false := by decide) (hs : starEach [a, b] X.env = (false, eval a X.env) :: starEach [b] X.env := by rfl) (hs2 : starEach [b] X.env = (false, eval b X.env) :: starEach [] X.env := by rfl) (hpl : (backTo pos (starEach [b] X.env)).any (·.1) = false := by rfl) :
    DE C X (.Call (.Name x p) [a, b] [] pos) (tOp2 o ta tb) :=
  (pe_callB hc hg hm hv (pa_cons ha (pa_cons hb pa_nil hs2) hs) hn hdb hs hpl).imp fun σ H Q h => by
    have q := op2_imp m σ H Q h
    obtain ⟨ps, Ep, E, Z, Qd, w, h, post⟩ := q
    refine ⟨ps, Ep, E, Z, Qd, w, h, fun d E1 Z1 H1 v w1 st1 r1 h1 => ?_⟩
    obtain ⟨ps, Ep, E, Z, Qd, w, h, post⟩ := post d E1 Z1 H1 v w1 st1 r1 h1
    exact ⟨ps, Ep, E, Z, Qd, w, h, fun d E1 Z1 H1 v w1 st1 r1 h1 => ⟨_, _, rfl, post d E1 Z1 H1 v w1 st1 r1 h1⟩⟩
theorem b_max2 (hc : X.calm = true := by rfl) : CallR X (.builtin "max") (fun xs H Q => ∃ v w, xs = [v, w] ∧ rI0 (fun i j => .int (if j > i then j else i)) v w H Q) := fun pins s σ H xs us Q I r ⟨v, w, e, i, j, e1, e2, q⟩ => by
  subst e e1 e2
  exact call_max2 hc pins s σ H _ us Q I r ⟨i, j, rfl, q⟩
theorem b_min2 (hc : X.calm = true := by rfl) : CallR X (.builtin "min") (fun xs H Q => ∃ v w, xs = [v, w] ∧ rI0 (fun i j => .int (if j < i then j else i)) v w H Q) := fun pins s σ H xs us Q I r ⟨v, w, e, i, j, e1, e2, q⟩ => by
  subst e e1 e2
  exact call_min2 hc pins s σ H _ us Q I r ⟨i, j, rfl, q⟩
/-- list(range(..)) -/
def tRgL1 (t : TD) : TN := fun E Q => t E fun d E1 => match d with
  | .int j => RgOk 0 j ∧ Q (.lst (rng 0 j)) E1
  | _ => False
def tRgL2 (t u : TD) : TN := fun E Q => t E fun d E1 => u E1 fun e E2 => match d, e with
  | .int i, .int j => RgOk i j ∧ Q (.lst (rng i j)) E2
  | _, _ => False
theorem reps_rng {K : Frg} {Z : Addr → Prop} {H : Hp} (i j : Int) : Reps K Z H (rgV i j) (rng i j) := by
  have main : ∀ l : List Nat, Reps K Z H (l.map fun k : Nat => V.int (i + (k : Int))) (l.map fun k : Nat => D.int (i + (k : Int))) := fun l => by
    induction l with
    | nil => exact .nil
    | cons a l ih => exact .cons (.int _) ih
  exact main _
theorem dn_rg1 {a : Expr} {t : TD} {p p1 p2 : Pos} (hml : X.mg "list" = none) (hm : X.mg "range" = none) (ha : DE C X a t) (hgl : Gl X "list" := by rfl) (hg : Gl X "range" := by rfl) (hc : X.calm = true := by rfl) (na : starEach [a] X.env = (false, eval a X.env) :: starEach [] X.env := by rfl)
    (nb : starEach [.Call (.Name "range" p1) [a] [] p2] X.env = (false, eval (.Call (.Name "range" p1) [a] [] p2) X.env) :: starEach [] X.env := by rfl) : DN C X (.Call (.Name "list" p) [.Call (.Name "range" p1) [a] [] p2] [] pos) (tRgL1 t) :=
  (pe_listRg hc hgl hml (prg_1 hg hm ha na) nb).imp fun σ H Q ⟨ps, Ep, E, Z, Qd, w, h, post⟩ => ⟨ps, Ep, E, Z, _, w, h, fun d E1 Z1 H1 v w1 st1 r1 h1 => by
    split at h1
    · obtain ⟨ok, h1⟩ := h1
      cases r1
      refine ⟨_, rfl, ok, fun p hp => ?_⟩
      obtain ⟨st2, w2⟩ := w1.push hp (reps_rng 0 _)
      exact post _ E1 Z1 _ _ w2 (st1.trans st2) h1
    · cases h1⟩
theorem dn_rg2 {a b : Expr} {t u : TD} {p p1 p2 : Pos} (hml : X.mg "list" = none) (hm : X.mg "range" = none) (ha : DE C X a t) (hb : DE C X b u) (hgl : Gl X "list" := by rfl) (hg : Gl X "range" := by rfl) (hc : X.calm = true := by rfl) (na : starEach [a, b] X.env = (false, eval a X.env) :: starEach [b] X.env := by rfl) (nb' : starEach [b] X.env = (false, eval b X.env) :: starEach [] X.env := by rfl)
    (hpl : (backTo p2 (starEach [b] X.env)).any (·.1) = false := by rfl)
    (nb : starEach [.Call (.Name "range" p1) [a, b] [] p2] X.env = (false, eval (.Call (.Name "range" p1) [a, b] [] p2) X.env) :: starEach [] X.env := by rfl) : DN C X (.Call (.Name "list" p) [.Call (.Name "range" p1) [a, b] [] p2] [] pos) (tRgL2 t u) :=
  (pe_listRg hc hgl hml (prg_2 hg hm ha hb na nb' hpl) nb).imp fun σ H Q ⟨ps, Ep, E, Z, Qd, w, h, post⟩ => ⟨ps, Ep, E, Z, _, w, h, fun d E1 Z1 H1 v w1 st1 r1 h1 => ⟨ps, Ep, E1, Z1, _, w1, h1, fun e E2 Z2 H2 v2 w2 st2 r2 h2 => by
    split at h2
    · obtain ⟨ok, h2⟩ := h2
      cases r1; cases r2
      refine ⟨_, _, rfl, rfl, ok, fun p hp => ?_⟩
      obtain ⟨st3, w3⟩ := w2.push hp (reps_rng _ _)
      exact post _ E2 Z2 _ _ w3 (st1.trans (st2.trans st3)) h2
    · cases h2⟩⟩
/-- xs + ys: a new list -/
def tCatL (t u : TD) : TN := fun E Q => t E fun x E1 => u E1 fun y E2 => match x, y with
  | .lst ds, .lst es => ds.length + es.length ≤ sizeLine ∧ Q (.lst (ds ++ es)) E2
  | _, _ => False
def rCatR : R2 := fun x y H Q => ∃ l b xs zs, x = .ref l ∧ y = .ref b ∧ Rd H l (.lst xs) ∧ Rd H b (.lst zs) ∧ xs.length + zs.length ≤ sizeLine ∧ ∀ p, H p = none → Q (.ref p) (upd H p (.lst (xs ++ zs)))
theorem op_catR : OpR X (binaryOp .Add) rCatR := by
  intro pins s σ H x y v u Q I rx ry h
  obtain ⟨l, b, xs, zs, rfl, rfl, hH, hB, hz, q⟩ := h
  cases rx
  cases ry
  obtain ⟨z, its, n, r, e⟩ := hH.ok I.hok
  obtain ⟨z2, its2, n2, r2, e2⟩ := hB.ok I.hok
  have l1 := r.length
  have l2 := r2.length
  refine PySem.P.add_list e e2 ?_ (by rw [List.size_toArray, List.size_toArray]; omega)
  have ea : its.toArray ++ its2.toArray = (its ++ its2).toArray := by simp
  rw [ea]
  exact ⟨.ref _, _, I.lnew (t' := s.toks) (r.append r2) (by rw [List.length_append]; omega), rfl, q _ I.fresh⟩
theorem dn_cat {a b : Expr} {ta tb : TD} (ha : DE C X a ta) (hb : DB C X b tb) : DN C X (.BinOp a .Add b pos) (tCatL ta tb) :=
  (pe_op op_catR ha hb).imp fun σ H Q ⟨ps, Ep, E, Z, Qd, w, h, post⟩ => ⟨ps, Ep, E, Z, _, w, h, fun x E1 Z1 H1 v w1 st1 r1 h1 => ⟨ps, Ep, E1, Z1, _, w1, h1, fun y E2 Z2 H2 u w2 st2 r2 h2 => by
    split at h2
    · obtain ⟨hz, h2⟩ := h2
      cases r1 with
      | lst hs rs =>
        obtain ⟨b, zs, rfl, hs2, rs2⟩ : ∃ b zs, u = .ref b ∧ Rd H2 b (.lst zs) ∧ Reps C.K Z2 H2 zs _ := by
          rcases r2 with r2 | ⟨t, F, r2, e⟩
          · cases r2 with
            | lst h hs => exact ⟨_, _, rfl, h.rd, hs⟩
          · cases r2 with
            | fr h =>
              rw [show (T.fr _).fz = _ from rfl] at e
              subst e
              cases h with
              | lst h hs => exact ⟨_, _, rfl, h.rd, hs⟩
            | lst h hs => cases e; exact ⟨_, _, rfl, .inl h, hs⟩
            | dic h e1 hs => cases e
            | obj h e1 hs => cases e
        have rs1 := rs.mono st2
        refine ⟨_, _, _, _, rfl, rfl, (hs.mono st2).rd, hs2, by rw [rs1.length, rs2.length]; exact hz, fun p hp => ?_⟩
        obtain ⟨st3, w3⟩ := w2.push hp (rs1.append rs2)
        exact post _ E2 Z2 _ _ w3 (st1.trans (st2.trans st3)) h2
    · cases h2⟩⟩
/-! ### sorted -/
def sortD (ds : List D) : List D := ds.mergeSort (PySem.W.dataLe false D.py)
/-- a list that sorted takes -/
structure SortOk (ds : List D) : Prop where
  al : PySem.W.AllAlike (ds.map D.py)
  so : PySem.W.Sortable (ds.map D.py)
  ln : ds.length ≤ sizeLine
  sh : ∀ d ∈ ds, d.shp = true
def tSortD (t : TD) : TN := fun E Q => t E fun d E1 => match d with
  | .lst ds => SortOk ds ∧ Q (.lst (sortD ds)) E1
  | _ => False
def rSortD (K : Frg) : List V → Hp → VK → Prop := fun vs H Q => ∃ (a : Addr) (ys : List V) (ds : List D), vs = [V.ref a] ∧ SqL K H a ys ∧ SortOk ds ∧ EachIs' K H ys ds ∧ ∀ zs p, (∀ (Z : Addr → Prop), Reps K Z H ys ds → Reps K Z H zs (sortD ds)) → zs.length ≤ sizeLine → H p = none → Q (.ref p) (upd H p (.lst zs))
where EachIs' (K : Frg) (H : Hp) (ys : List V) (ds : List D) : Prop := DpAll K H ys (D.pys ds)
theorem each_of {R : Value → V × D → Prop} : ∀ {ys : List V} {us : List Value} {ds : List D}, Vals ys us → ys.length = ds.length → (∀ (i : Nat) y u d, ys[i]? = some y → us[i]? = some u → ds[i]? = some d → R u (y, d)) → PySem.W.EachIs R us (ys.zip ds)
  | _, _, [], .nil, _, _ => .nil
  | _, _, _ :: _, .nil, h, _ => by cases h
  | _, _, [], .cons _ _, h, _ => by cases h
  | y :: ys, u :: us, d :: ds, .cons r t, h, k => .cons (k 0 y u d rfl rfl rfl) (each_of t (by simpa using h) fun i y u d e1 e2 e3 => k (i + 1) y u d e1 e2 e3)
theorem vals_fst {R : Value → V × D → Prop} (hR : ∀ u p, R u p → RelV p.1 u) : ∀ {us : List Value} {ps : List (V × D)}, PySem.W.EachIs R us ps → Vals (ps.map (·.1)) us
  | _, _, .nil => .nil
  | _, _, .cons r t => .cons (hR _ _ r) (vals_fst hR t)
theorem reps_of_mem {K : Frg} {Z : Addr → Prop} {H : Hp} : ∀ {ps : List (V × D)}, (∀ p ∈ ps, Rep K Z H p.1 p.2) → Reps K Z H (ps.map (·.1)) (ps.map (·.2))
  | [], _ => .nil
  | p :: ps, h => .cons (h p (List.mem_cons_self)) (reps_of_mem fun q hq => h q (List.mem_cons_of_mem _ hq))
theorem zip_mem {K : Frg} {Z : Addr → Prop} {H : Hp} : ∀ {vs : List V} {ds : List D}, Reps K Z H vs ds → ∀ p ∈ vs.zip ds, Rep K Z H p.1 p.2
  | _, _, .nil, p, h => by cases h
  | _, _, .cons r t, p, h => by
    rcases List.mem_cons.mp h with e | h
    · subst e; exact r
    · exact zip_mem t p h
theorem zip_snd : ∀ {vs : List V} {ds : List D}, vs.length = ds.length → (vs.zip ds).map (·.2) = ds
  | [], [], _ => rfl
  | [], _ :: _, h => by cases h
  | _ :: _, [], h => by cases h
  | v :: vs, d :: ds, h => by rw [List.zip_cons_cons, List.map_cons, zip_snd (vs := vs) (by simpa using h)]
theorem cr_sortD (hu : X.A.units + 70 < cLine) : CallR X (.builtin "sorted") (rSortD X.K) := by
  intro pins s σ H vs us Q I r h
  obtain ⟨a, ys, ds, rfl, hs, ok, dp, q⟩ := h
  obtain ⟨its, rv, hl, hz⟩ := I.list hs
  rw [Vals.ref1 r]
  obtain ⟨as, rd⟩ := Dp.readsAll I (D.pys ds) ys its dp rv
  have hlen : ys.length = ds.length := by
    have := SeqAt.ReadsAll.length _ _ _ rd
    rw [pys_map, List.length_map] at this
    have := rv.length
    omega
  have er : PySem.W.EachIs (fun u (p : V × D) => RelV p.1 u ∧ ∃ as, Reads s.heap u p.2.py as) its (ys.zip ds) := each_of rv hlen fun i y u d e1 e2 e3 => by
    refine ⟨?_, ?_⟩
    · obtain ⟨u', e4, r4⟩ := rv.get e1
      rw [e2] at e4; cases e4
      exact r4
    · have main : ∀ {us : List Value} {es : List PyData} {as : List Addr} (i : Nat) {u : Value} {e : PyData}, ReadsAll s.heap us es as → us[i]? = some u → es[i]? = some e → ∃ as, Reads s.heap u e as := by
        intro us es as i u e h
        induction i generalizing us es as with
        | zero =>
          cases h with
          | nil => intro q; cases q
          | cons h1 h2 => intro q1 q2; cases q1; cases q2; exact ⟨_, h1⟩
        | succ i ih =>
          cases h with
          | nil => intro q; cases q
          | cons h1 h2 => intro q1 q2; exact ih h2 (by simpa using q1) (by simpa using q2)
      refine main i rd e2 ?_
      rw [pys_map, List.getElem?_map, e3]
      rfl
  have es : (ys.zip ds).map (fun p : V × D => p.2.py) = ds.map D.py := by
    rw [show (fun p : V × D => p.2.py) = D.py ∘ (·.2) from rfl, ← List.map_map, zip_snd hlen]
  refine PySem.W.sorted_data (enc := fun p : V × D => p.2.py) hl.isList er (er.mono fun _ _ h => h.2) (by rw [es]; exact ok.al) (by rw [es]; exact ok.so) (by rw [List.length_zip]; have := ok.ln; omega) (fun p hp => ?_) fun out ho eo => ?_
  · have : p.2 ∈ ds := by
      have : p.2 ∈ (ys.zip ds).map (·.2) := List.mem_map.mpr ⟨p, hp, rfl⟩
      rw [zip_snd hlen] at this
      exact this
    have hd := SeqAt.depth_of_shaped (ok.sh _ this)
    show X.A.units + 2 + p.2.py.depth < cLine
    omega
  · obtain ⟨ep, he'⟩ := PyProof.Rows.sortedAll_at s.heap its (List.toArray out)
    have hv := vals_fst (fun u p h => h.1) eo
    have hz2 : (((ys.zip ds).mergeSort (PySem.W.dataLe false fun p : V × D => p.2.py)).map (·.1)).length ≤ sizeLine := by
      rw [List.length_map, List.length_mergeSort, List.length_zip]
      have := ok.ln
      omega
    refine ⟨.ref _, upd H (s.heap.objs.size + 1) (.lst (((ys.zip ds).mergeSort (PySem.W.dataLe false fun p : V × D => p.2.py)).map (·.1))), I.laid (t' := s.toks) (fun _ _ => PyProof.Rows.sortedAll_old) (Nat.le_succ _) ⟨hz2, out, ep, hv, he'⟩, rfl, q _ _ (fun Z rz => ?_) hz2 (I.hok.fresh (Nat.le_succ _))⟩
    have e2 : ((ys.zip ds).mergeSort (PySem.W.dataLe false fun p : V × D => p.2.py)).map (·.2) = sortD ds := by
      unfold sortD
      have := PySem.W.sort_maps (r := PySem.W.dataLe false fun p : V × D => p.2.py) (s := PySem.W.dataLe false D.py) (fun p : V × D => p.2) (l := ys.zip ds) fun a _ b _ => rfl
      rw [zip_snd hlen] at this
      exact this
    rw [← e2]
    exact reps_of_mem fun p hp => zip_mem rz p (List.mem_mergeSort.mp hp)
theorem dn_sorted {x : Str} {e : Expr} {t : TD} {p : Pos} (hu : X.A.units + 70 < cLine) (hm : X.mg x = none) (he : DB C X e t) (hv : bootBuiltins x = some (.builtin "sorted") := by first | rfl | decide +kernel) (hg : Gl X x := by rfl) (hn : x ≠ "__name__" := by decide) (hdb : (x == ("__debug__" : Str)) = false := by decide)
    (hs : starEach [e] X.env = (false, eval e X.env) :: starEach [] X.env := by rfl) (hpl : (backTo pos (starEach [] X.env)).any (·.1) = false := by rfl) (hK : X.K = C.K := by rfl) : DN C X (.Call (.Name x p) [e] [] pos) (tSortD t) :=
  (pe_callB (cr_sortD hu) hg hm hv (pa_cons he pa_nil hs) hn hdb hs hpl).imp fun σ H Q ⟨ps, Ep, E, Z, Qd, w, h, post⟩ => ⟨ps, Ep, E, Z, _, w, h, fun d E1 Z1 H1 v w1 st1 r1 h1 => by
    rw [hK]
    split at h1
    · obtain ⟨ok, h1⟩ := h1
      obtain ⟨a, vs, rfl, hs, rs⟩ := r1.lst
      refine ⟨a, vs, _, rfl, hs, ok, rs.dp ?_, fun zs p hz _ hp => ?_⟩
      · have main : ∀ l : List D, (∀ d ∈ l, d.shp = true) → PyData.canLayAll0 (D.pys l) = true := by
          intro l
          induction l with
          | nil => intro _; rfl
          | cons d l ih => intro hd; exact Bool.and_eq_true_iff.mpr ⟨shp_lay (hd d List.mem_cons_self), ih fun e he => hd e (List.mem_cons_of_mem _ he)⟩
        exact main _ ok.sh
      · obtain ⟨st2, w2⟩ := w1.push hp (hz Z1 rs)
        exact post _ E1 Z1 _ _ w2 (st1.trans st2) h1
    · cases h1⟩

/-! ### x in xs -/
def oIn : O2 := fun x c q => match c with
  | .lst ds => (x.shp = true ∧ (D.lst ds).shp = true) ∧ q (.bl (ds.any fun z => z.eqv x))
  | .tup ds => (x.shp = true ∧ (D.tup ds).shp = true) ∧ q (.bl (ds.any fun z => z.eqv x))
  | .str y => (match x with | .str z => q (.bl (!(Builtin.Str.occurrences y z 0 y.length 1).isEmpty)) | _ => False)
  | _ => False
def oNin : O2 := fun x c q => match c with
  | .lst ds => (x.shp = true ∧ (D.lst ds).shp = true) ∧ q (.bl (!ds.any fun z => z.eqv x))
  | .tup ds => (x.shp = true ∧ (D.tup ds).shp = true) ∧ q (.bl (!ds.any fun z => z.eqv x))
  | .str y => (match x with | .str z => q (.bl (!(!(Builtin.Str.occurrences y z 0 y.length 1).isEmpty))) | _ => False)
  | _ => False
def rInTD (K : Frg) : R2 := fun x y H Q => ∃ d ds, Dp K H x d ∧ Dp K H y (.tuple ds) ∧ SeqAt.shaped d = true ∧ SeqAt.shaped (.tuple ds) = true ∧ Q (.bl (ds.any fun z => PyData.eqv z d)) H
def rNotInTD (K : Frg) : R2 := fun x y H Q => ∃ d ds, Dp K H x d ∧ Dp K H y (.tuple ds) ∧ SeqAt.shaped d = true ∧ SeqAt.shaped (.tuple ds) = true ∧ Q (.bl (!ds.any fun z => PyData.eqv z d)) H
theorem op_inTD (hu : X.A.units + 65 < cLine) : OpR X (compareOp .In) (rInTD X.K) := by
  intro pins s σ H x y v u Q I rx ry h
  obtain ⟨d, ds, hd, he, sd, se, q⟩ := h
  obtain ⟨as, r1⟩ := Dp.reads I d x v hd rx
  obtain ⟨bs, r2⟩ := Dp.reads I (.tuple ds) y u he ry
  exact SeqAt.in_tuple_reads r2 r1 (SeqAt.canLay_of_shaped se) (SeqAt.canLay_of_shaped sd) (room_in_shaped sd hu) ⟨.bl _, H, I, rfl, q⟩
theorem op_notInTD (hu : X.A.units + 65 < cLine) : OpR X (compareOp .NotIn) (rNotInTD X.K) := by
  intro pins s σ H x y v u Q I rx ry h
  obtain ⟨d, ds, hd, he, sd, se, q⟩ := h
  obtain ⟨as, r1⟩ := Dp.reads I d x v hd rx
  obtain ⟨bs, r2⟩ := Dp.reads I (.tuple ds) y u he ry
  exact SeqAt.notIn_tuple_reads r2 r1 (SeqAt.canLay_of_shaped se) (SeqAt.canLay_of_shaped sd) (room_in_shaped sd hu) ⟨.bl _, H, I, rfl, q⟩
def rInA (K : Frg) : R2 := fun x y H Q => rInD K x y H Q ∨ rInTD K x y H Q ∨ ∃ i j, x = .str i ∧ y = .str j ∧ Q (.bl (!(Builtin.Str.occurrences j i 0 j.length 1).isEmpty)) H
def rNinA (K : Frg) : R2 := fun x y H Q => rNotInD K x y H Q ∨ rNotInTD K x y H Q ∨ ∃ i j, x = .str i ∧ y = .str j ∧ Q (.bl (!(!(Builtin.Str.occurrences j i 0 j.length 1).isEmpty))) H
theorem any_eqv (ds : List D) (x : D) : (D.pys ds).any (fun z => PyData.eqv z x.py) = ds.any fun z => z.eqv x := by
  rw [pys_map, List.any_map]
  rfl
/-- the right operand may be an owned list, only looked at -/
theorem inB_imp {o : O2} {r : R2} (m : ∀ (Z : Addr → Prop) (H : Hp) (v w : V) (x y : D) (q : D → Prop) (Q : VK), Rep C.K Z H v x → BRep C.K Z H w y → o x y q → (∀ z d, Rep C.K Z H z d → q d → Q z H) → r v w H Q) {ta tb : TD} (σ : Sg) (H : Hp) (Q : VK) (h : teOf C (tOp2 o ta tb) σ H Q) :
    tOp r (teOf C ta) (tbOf C tb) σ H Q := by
  obtain ⟨ps, Ep, E, Z, Qd, w, h, post⟩ := h
  exact ⟨ps, Ep, E, Z, _, w, h, fun x E1 Z1 H1 v w1 st1 r1 h1 => ⟨ps, Ep, E1, Z1, _, w1, h1, fun y E2 Z2 H2 u w2 st2 r2 h2 => m Z2 H2 v u x y _ Q (r1.mono st2) r2 h2 fun z d rz q => post d E2 Z2 H2 z w2 (st1.trans st2) rz q⟩⟩
theorem m_in {Z : Addr → Prop} {H : Hp} {v w : V} {x y : D} {q : D → Prop} {Q : VK} (rx : Rep C.K Z H v x) (ry : BRep C.K Z H w y) (h : oIn x y q) (k : ∀ z d, Rep C.K Z H z d → q d → Q z H) : rInA C.K v w H Q := by
  unfold oIn at h
  split at h
  · obtain ⟨⟨h1, h2⟩, h⟩ := h
    refine .inl ⟨_, _, rx.dp (shp_lay h1), ry.dp (shp_lay h2), h1, h2, k _ _ ?_ h⟩
    rw [any_eqv]; exact .bl _
  · obtain ⟨⟨h1, h2⟩, h⟩ := h
    refine .inr (.inl ⟨_, _, rx.dp (shp_lay h1), ry.dp (shp_lay h2), h1, h2, k _ _ ?_ h⟩)
    rw [any_eqv]; exact .bl _
  · split at h
    · cases rx
      cases ry.str
      exact .inr (.inr ⟨_, _, rfl, rfl, k _ _ (.bl _) h⟩)
    · cases h
  · cases h
theorem m_nin {Z : Addr → Prop} {H : Hp} {v w : V} {x y : D} {q : D → Prop} {Q : VK} (rx : Rep C.K Z H v x) (ry : BRep C.K Z H w y) (h : oNin x y q) (k : ∀ z d, Rep C.K Z H z d → q d → Q z H) : rNinA C.K v w H Q := by
  unfold oNin at h
  split at h
  · obtain ⟨⟨h1, h2⟩, h⟩ := h
    refine .inl ⟨_, _, rx.dp (shp_lay h1), ry.dp (shp_lay h2), h1, h2, k _ _ ?_ h⟩
    rw [any_eqv]; exact .bl _
  · obtain ⟨⟨h1, h2⟩, h⟩ := h
    refine .inr (.inl ⟨_, _, rx.dp (shp_lay h1), ry.dp (shp_lay h2), h1, h2, k _ _ ?_ h⟩)
    rw [any_eqv]; exact .bl _
  · split at h
    · cases rx
      cases ry.str
      exact .inr (.inr ⟨_, _, rfl, rfl, k _ _ (.bl _) h⟩)
    · cases h
  · cases h
theorem de_in {a b : Expr} {ta tb : TD} (hu : X.A.units + 65 < cLine) (ha : DE C X a ta) (hb : DB C X b tb) (hm : behindInMarks .In b = false := by rfl) (hK : X.K = C.K := by rfl) : DE C X (.Compare a [.In] [b] pos) (tOp2 oIn ta tb) :=
  (pe_cmpR ((op_inD hu).or ((op_inTD hu).or op_in_str)) ha hb hm).imp fun σ H Q h => by
    rw [hK]
    exact inB_imp (r := rInA C.K) (fun Z H v w x y q Q rx ry h k => m_in rx ry h k) σ H Q h
theorem de_nin {a b : Expr} {ta tb : TD} (hu : X.A.units + 65 < cLine) (ha : DE C X a ta) (hb : DB C X b tb) (hm : behindInMarks .NotIn b = false := by rfl) (hK : X.K = C.K := by rfl) : DE C X (.Compare a [.NotIn] [b] pos) (tOp2 oNin ta tb) :=
  (pe_cmpR ((op_notInD hu).or ((op_notInTD hu).or op_notIn_str)) ha hb hm).imp fun σ H Q h => by
    rw [hK]
    exact inB_imp (r := rNinA C.K) (fun Z H v w x y q Q rx ry h k => m_nin rx ry h k) σ H Q h
theorem testB {o : O2} {r : R2} (m : ∀ (Z : Addr → Prop) (H : Hp) (v w : V) (x y : D) (q : D → Prop) (Q : VK), Rep C.K Z H v x → BRep C.K Z H w y → o x y q → (∀ z d, Rep C.K Z H z d → q d → Q z H) → r v w H Q) {ta tb : TD} (σ : Sg) (H : Hp) (Q : Bool → Hp → Prop) (h : ttOf C (tOp2B o ta tb) σ H Q) :
    tTest (tOp r (teOf C ta) (tbOf C tb)) σ H Q := by
  obtain ⟨ps, Ep, E, Z, Qd, w, h, post⟩ := h
  exact ⟨ps, Ep, E, Z, _, w, h, fun x E1 Z1 H1 v w1 st1 r1 h1 => ⟨ps, Ep, E1, Z1, _, w1, h1, fun y E2 Z2 H2 u w2 st2 r2 h2 => m Z2 H2 v u x y _ _ (r1.mono st2) r2 h2 fun z d rz q => by
    cases rz with
    | bl k => exact ⟨k, rfl, post k E2 Z2 H2 w2 (st1.trans st2) q⟩
    | _ => cases q⟩⟩
theorem dt_in {a b : Expr} {ta tb : TD} (hu : X.A.units + 65 < cLine) (ha : DE C X a ta) (hb : DB C X b tb) (hm : behindInMarks .In b = false := by rfl) (hK : X.K = C.K := by rfl) : DT C X (.Compare a [.In] [b] pos) (tOp2B oIn ta tb) :=
  (pt_cmpR ((op_inD hu).or ((op_inTD hu).or op_in_str)) ha hb hm).imp fun σ H Q h => by
    rw [hK]
    exact testB (r := rInA C.K) (fun Z H v w x y q Q rx ry h k => m_in rx ry h k) σ H Q h
theorem dt_nin {a b : Expr} {ta tb : TD} (hu : X.A.units + 65 < cLine) (ha : DE C X a ta) (hb : DB C X b tb) (hm : behindInMarks .NotIn b = false := by rfl) (hK : X.K = C.K := by rfl) : DT C X (.Compare a [.NotIn] [b] pos) (tOp2B oNin ta tb) :=
  (pt_cmpR ((op_notInD hu).or ((op_notInTD hu).or op_notIn_str)) ha hb hm).imp fun σ H Q h => by
    rw [hK]
    exact testB (r := rNinA C.K) (fun Z H v w x y q Q rx ry h k => m_nin rx ry h k) σ H Q h
end
end DL
set_option Elab.async false
set_option linter.all false
set_option maxRecDepth 100000
set_option maxHeartbeats 4000000
/-! DL, part i: defs of the text, a law's end. -/
namespace DL
open PySem PySem.Spec PyProof.Rows L2

/-- a def of the text as it stands behind the top -/
structure Dn (K : Frg) (mg : Str → Option Value) (x : Str) (st : Stmt) (prs : List Str) (f : Addr) (fd : FuncData) : Prop where
  F : Fun K x x st f fd
  m : mg x = some (.ref f)
  b : Binds K fd prs []
section
variable {C : Ctx} {X : Cx} {pos : Pos} {CX : CXT} {k n : Nat} {f : Addr} {fd : FuncData} {prs : List Str} {sd : SpD} {Ex : XK} {x : Str} {st : Stmt} {p : Pos} {e : Expr} {es : List Expr} {ta : TAm}
theorem dcall (G : FnOk X.prog X.w X.K X.mg X.base CX k f fd prs (spD X.K n sd)) (Dn' : Dn X.K X.mg x st prs f fd) (hr : Room k X.A) (ha : DM C X (e :: es) ta) (hx : Passes CX X Ex := by exact pass0) (hg : Gl X x := by rfl) (hn : n = (e :: es).length := by rfl) (hK : X.K = C.K := by rfl)
    (hdb : (x == ("__debug__" : Str)) = false := by decide) (he : starEach (e :: es) X.env = (false, eval e X.env) :: starEach es X.env := by rfl) (hpl : (backTo pos (starEach es X.env)).any (·.1) = false := by rfl) :
    DE C X (.Call (.Name x p) (e :: es) [] pos) (tCallD sd ta) := de_call G hr Dn'.m Dn'.F.kp Dn'.b ha hx hg hn hK hdb he hpl
theorem dcalln (G : FnOk X.prog X.w X.K X.mg X.base CX k f fd prs (spD X.K n sd)) (Dn' : Dn X.K X.mg x st prs f fd) (hr : Room k X.A) (ha : DM C X (e :: es) ta) (hx : Passes CX X Ex := by exact pass0) (hg : Gl X x := by rfl) (hn : n = (e :: es).length := by rfl) (hK : X.K = C.K := by rfl)
    (hdb : (x == ("__debug__" : Str)) = false := by decide) (he : starEach (e :: es) X.env = (false, eval e X.env) :: starEach es X.env := by rfl) (hpl : (backTo pos (starEach es X.env)).any (·.1) = false := by rfl) :
    DN C X (.Call (.Name x p) (e :: es) [] pos) (tCallN sd ta) := dn_call G hr Dn'.m Dn'.F.kp Dn'.b ha hx hg hn hK hdb he hpl
end
/-- the law's own promise -/
def sdLaw : SpD := fun args Q => ∃ ns : List Int, args = [.fr (.scr (ns.map D.int))] ∧ ns.length ≤ 63 ∧ Q (.fr (.bl true)) [.un]
theorem law_sp {K : Frg} {H : Hp} {a : Addr} {ns : List Int} {Ex : XK} (hl : ns.length ≤ 63) (h : SqL K H a (ns.map V.int)) : spD K 1 sdLaw [.ref a] H (fun v _ => v = .bl true) Ex := by
  have reps : ∀ (Z : Addr → Prop) (l : List Int), Reps K Z H (l.map V.int) (l.map D.int) := fun Z l => by
    induction l with
    | nil => exact .nil
    | cons a l ih => exact .cons (.int _) ih
  refine ⟨fun b => b = a ∧ H a = some (.lst (ns.map V.int)), [.fr (.scr (ns.map D.int))], fun _ => [], fun r _ => r = .fr (.bl true), rfl, ⟨rfl, fun i s e => ?_, fun _ _ => rfl, fun _ => List.nodup_nil, fun i j b h => (by cases h)⟩, fun i b h => (by cases h), fun b h => ?_, fun i t e => ?_, ⟨ns, rfl, hl, rfl⟩, fun r Em Z' H' v R e => ?_⟩
  · cases i with
    | zero =>
      cases e
      refine ⟨rfl, .ref a, rfl, .scr ?_ (reps _ _)⟩
      rcases h with (h | ⟨o, h⟩) | h
      · exact .inl (.inl ⟨⟨rfl, h⟩, h⟩)
      · exact .inl (.inr ⟨o, h⟩)
      · exact .inr h
    | succ i => simp at e
  · rw [h.1, h.2]; intro q; cases q
  · cases i with
    | zero => cases e; rfl
    | succ i => simp at e
  · subst e
    obtain ⟨_, r⟩ := R
    cases r
    rfl
theorem u65_of {k : Nat} {A : Around} (r : Room k A) : A.units + 65 < cLine := by have := r.un; omega
theorem u70_of {k : Nat} {A : Around} (r : Room k A) : A.units + 70 < cLine := by have := r.un; omega
/-! ### helpers for readings -/
theorem popMu {i : Nat} {E : List S} {Q : D → List S → Prop} {init : List D} {d : D} (e : E[i]? = some (.mu (.lst (init ++ [d])))) (q : Q d (E.set i (.mu (.lst init)))) : tPopL i E Q := by
  unfold tPopL lstAt
  rw [e]
  simp only [List.getLast?_concat, List.dropLast_concat]
  exact q
theorem popOw {i : Nat} {E : List S} {Q : D → List S → Prop} {init : List D} {d : D} (e : E[i]? = some (.ow (.lst (init ++ [d])))) (q : Q d (E.set i (.ow (.lst init)))) : tPopL i E Q := by
  unfold tPopL lstAt
  rw [e]
  simp only [List.getLast?_concat, List.dropLast_concat]
  exact q
theorem popMuI {i : Nat} {E : List S} {Q : D → List S → Prop} {init : List Int} {x : Int} (e : E[i]? = some (.mu (.lst ((init ++ [x]).map D.int)))) (q : Q (.int x) (E.set i (.mu (.lst (init.map D.int))))) : tPopL i E Q :=
  popMu (init := init.map D.int) (d := .int x) (by rw [e, List.map_append]; rfl) q
theorem popOwI {i : Nat} {E : List S} {Q : D → List S → Prop} {init : List Int} {x : Int} (e : E[i]? = some (.ow (.lst ((init ++ [x]).map D.int)))) (q : Q (.int x) (E.set i (.ow (.lst (init.map D.int))))) : tPopL i E Q :=
  popOw (init := init.map D.int) (d := .int x) (by rw [e, List.map_append]; rfl) q
theorem snoc_of_ne {α : Type} {l : List α} (h : l ≠ []) : ∃ init x, l = init ++ [x] := ⟨l.dropLast, l.getLast h, (List.dropLast_concat_getLast h).symm⟩
theorem cut_ints (ns : List Int) (lo hi : Option Int) : ∃ ms : List Int, cutD (ns.map D.int) lo hi = ms.map D.int ∧ ms.length ≤ ns.length := by
  refine ⟨(ns.drop (HT.sIx (ns.map D.int).length 0 lo)).take (HT.sIx (ns.map D.int).length (ns.map D.int).length hi - HT.sIx (ns.map D.int).length 0 lo), ?_, ?_⟩
  · unfold cutD
    rw [List.map_take, List.map_drop]
  · rw [List.length_take, List.length_drop]
    omega
end DL
set_option Elab.async false
set_option linter.all false
set_option maxRecDepth 100000
set_option maxHeartbeats 4000000
/-! DL, part j: wide quotients, isinstance, least and greatest of a tuple, list(reversed(..)). -/
namespace DL
open PySem PySem.Spec PyProof.Rows L2

section
variable {C : Ctx} {X : Cx} {pos : Pos}
theorem o_fdivW : OpR X (binaryOp .FloorDiv) (rI CDivW fun i j => .int (i / j)) ∧ Meets C (oIc CDivW (iInt fun i j => i / j)) (rI CDivW fun i j => .int (i / j)) := ⟨op_fdivW, meets_Ic (fun _ _ _ _ _ => .int _) fun _ _ h => h⟩
theorem o_mulW : OpR X (binaryOp .Mult) (rI CMulW fun i j => .int (i * j)) ∧ Meets C (oIc CMulW (iInt fun i j => i * j)) (rI CMulW fun i j => .int (i * j)) := ⟨op_mulW, meets_Ic (fun _ _ _ _ _ => .int _) fun _ _ h => h⟩

/-! ### isinstance(x, T), T a built-in type -/
/-- the name of data's type -/
def D.ty : D → String
  | .non => "NoneType"
  | .bl _ => "bool"
  | .int _ => "int"
  | .str _ => "str"
  | .tup _ => "tuple"
  | .lst _ => "list"
  | .scr _ => "list"
  | .dic _ _ => "dict"
  | .dit _ _ => "dict"
  | .obj _ _ _ => "object"
  | .kon _ => "object"
def D.isObj : D → Bool
  | .obj _ _ _ => true
  | .kon _ => true
  | _ => false
theorem LsR.tyx {K : Frg} {Z : Addr → Prop} {H : Hp} {a : Addr} {vs : List V} (h : LsR Z H a vs) : TyX K H (.ref a) (.type "list") := by
  rcases h with ⟨_, h⟩ | ⟨o, h⟩
  · exact .base (.lst h)
  · exact .base (.frz h)
theorem Rep.tyx {K : Frg} {Z : Addr → Prop} {H : Hp} {v : V} {d : D} (r : Rep K Z H v d) (h : d.isObj = false) : TyX K H v (.type d.ty) := by
  cases r with
  | non => exact .base .non
  | bl b => exact .base (.bl b)
  | int i => exact .base (.int i)
  | str x => exact .base (.str x)
  | tup hs _ =>
    rcases hs with (h | ⟨o, h⟩) | ⟨o, _, _, h, c, _⟩
    · exact .base (.tup h)
    · exact .fTuple h
    · exact .kTuple h c
  | lst hs _ => exact hs.tyx
  | scr hs _ =>
    rcases hs with h | ⟨o, _, _, h, c, _⟩
    · exact h.tyx
    · exact .kList h c
  | dic _ q _ _ => exact .base (.dK q)
  | dit _ q _ _ => exact .base (.dT q)
  | obj _ _ _ _ => cases h
  | kon _ => cases h
theorem BRep.tyx {K : Frg} {Z : Addr → Prop} {H : Hp} {v : V} {d : D} (r : BRep K Z H v d) (h : d.isObj = false) : TyX K H v (.type d.ty) := by
  rcases r with r | ⟨t, F, r, e⟩
  · exact r.tyx h
  · cases r with
    | fr r => subst e; exact r.tyx h
    | lst hs _ => subst e; exact .base (.lst hs)
    | dic hs _ _ => subst e; exact .base (.dK hs)
    | obj _ _ _ => subst e; cases h
/-- data with its answer -/
def oIsi (T : String) : D → (D → Prop) → Prop := fun d q => d.isObj = false ∧ ∃ b, kitB d.ty T = some b ∧ q (.bl b)
theorem de_isi {x y : Str} {T : String} {e : Expr} {t : TD} {p p' : Pos} (hm : X.mg x = none) (hm' : X.mg y = none) (he : DB C X e t) (hy : bootBuiltins y = some (.type T) := by first | rfl | decide +kernel) (hv : bootBuiltins x = some (.builtin "isinstance") := by first | rfl | decide +kernel) (hg : Gl X x := by rfl) (hg' : Gl X y := by rfl) (hn : x ≠ "__name__" := by decide) (hn' : y ≠ "__name__" := by decide)
    (hdb : (x == ("__debug__" : Str)) = false := by decide) (hdb' : (y == ("__debug__" : Str)) = false := by decide) (hs : starEach [e, .Name y p'] X.env = (false, eval e X.env) :: starEach [.Name y p'] X.env := by rfl) (hs2 : starEach [.Name y p'] X.env = (false, eval (.Name y p') X.env) :: starEach [] X.env := by rfl)
    (hpl : (backTo pos (starEach [.Name y p'] X.env)).any (·.1) = false := by rfl) (hK : X.K = C.K := by rfl) : DE C X (.Call (.Name x p) [e, .Name y p'] [] pos) (tUn1 (oIsi T) t) :=
  (pe_callB call_isi hg hm hv (pa_cons he (pa_cons (pe_bltn (v := .ty T) (u := .type T) hg' hm' hy rfl hn' hdb') pa_nil hs2) hs) hn hdb hs hpl).imp fun σ H Q ⟨ps, Ep, E, Z, Qd, w, h, post⟩ => ⟨ps, Ep, E, Z, _, w, h, fun d E1 Z1 H1 v w1 st1 r1 ⟨ho, b, hb, h1⟩ => by
    rw [hK]
    exact ⟨v, .ty T, .type d.ty, .type T, b, rfl, .ty T, r1.tyx ho, kit_ty hb, post _ E1 Z1 H1 _ w1 st1 (.bl b) h1⟩⟩

/-! ### the greatest, the least of a tuple of ints -/
section
variable {prog : Program} {w : World} {A : Around} {Er : Value → Shared → Prop} {s : Shared} {l : Addr} {its : List Value} {ns : List Int} {Q : Value → Shared → Prop}
theorem mx_tup (hh : A.handled = none) (hl : s.heap.IsTuple l its.toArray) (hi : IntsAre its ns) (hne : 0 < ns.length) (gr : Bool)
    (h : ∀ h' tk M t', (∀ b o, s.heap.get? b = some o → h'.get? b = some o) → M ∈ ns → (∀ a, a ∈ ns → if gr then a ≤ M else M ≤ a) → Q (.int M t') { s with heap := h', toks := tk }) : wpAny (model prog w) A (call (.builtin (if gr then "max" else "min")) [.ref l]) Q Er s := by
  obtain ⟨xs, e⟩ := hi.allInts.items
  have hn : numsOf (intItems xs).toList = ns := by rw [← e]; exact hi.numsOf
  rw [nums_intItems] at hn
  subst hn
  rw [e] at hl
  have hz : 0 < xs.size := by simpa using hne
  have hlt : l < s.heap.objs.size := by obtain ⟨_, q, _⟩ := hl; exact Heap.lt_size q
  have fp : ∀ (o : Obj) (b : Addr), b ∈ [s.heap.objs.size, l] → b < (s.heap.push o).objs.size := fun o b hb => by
    rw [Heap.size_push]
    rcases List.mem_cons.mp hb with rfl | hb
    · exact Nat.lt_succ_self _
    · rw [List.mem_singleton.mp hb]; exact Nat.lt_succ_of_lt hlt
  have old : ∀ (o : Obj) (h' : Heap), (∀ b u, b ∉ [s.heap.objs.size] → (s.heap.push o).get? b = some u → h'.get? b = some u) → ∀ b u, s.heap.get? b = some u → h'.get? b = some u := fun o h' hk b u q => by
    refine hk b u (fun hm => ?_) (Heap.get?_push_of_some _ q)
    have := Heap.lt_size q
    rw [List.mem_singleton.mp hm] at this
    exact Nat.lt_irrefl _ this
  cases gr with
  | true =>
    refine call_max_walk (wpAny_pyIter_tuple hl ?_)
    refine ⟨_, [_, l], [_], _, _, _, _, rfl, Walks.tuple (A := A.in1) hh _ l (Nat.ne_of_lt hlt) (intItems xs), ⟨⟨_, Heap.get?_push_size _ rfl, rfl, rfl⟩, hl.push _⟩, fun c hc => fp _ c hc, by simpa [intItems] using hz, CmpOf.ints_gt (numAt xs) (fun _ _ => intItems_at), fun v h' tk hP hk => ?_⟩
    obtain ⟨t, rfl⟩ := intItems_at hP
    have ez : (intItems xs).size = xs.size := by simp [intItems]
    rw [ez]
    obtain ⟨h1, h2⟩ := argBest_gt (numAt xs) (xs.size - 1)
    refine h h' tk _ t (old _ h' hk) ?_ fun a ha => ?_
    · rw [numAt_eq]; exact PySem.getD_mem (by rw [List.length_map, Array.length_toList]; omega)
    · obtain ⟨j, hj, rfl⟩ := mem_getD ha
      rw [List.length_map, Array.length_toList] at hj
      rw [if_pos rfl, ← numAt_eq]; exact h2 j (by omega)
  | false =>
    refine call_min_walk (wpAny_pyIter_tuple hl ?_)
    refine ⟨_, [_, l], [_], _, _, _, _, rfl, Walks.tuple (A := A.in1) hh _ l (Nat.ne_of_lt hlt) (intItems xs), ⟨⟨_, Heap.get?_push_size _ rfl, rfl, rfl⟩, hl.push _⟩, fun c hc => fp _ c hc, by simpa [intItems] using hz, CmpOf.ints_lt (numAt xs) (fun _ _ => intItems_at), fun v h' tk hP hk => ?_⟩
    obtain ⟨t, rfl⟩ := intItems_at hP
    have ez : (intItems xs).size = xs.size := by simp [intItems]
    rw [ez]
    obtain ⟨h1, h2⟩ := argBest_lt (numAt xs) (xs.size - 1)
    refine h h' tk _ t (old _ h' hk) ?_ fun a ha => ?_
    · rw [numAt_eq]; exact PySem.getD_mem (by rw [List.length_map, Array.length_toList]; omega)
    · obtain ⟨j, hj, rfl⟩ := mem_getD ha
      rw [List.length_map, Array.length_toList] at hj
      rw [if_neg Bool.false_ne_true, ← numAt_eq]; exact h2 j (by omega)
end
def oMxT (gr : Bool) : D → (D → Prop) → Prop := fun d q => match d with
  | .tup ds => ∃ ns : List Int, ds = ns.map D.int ∧ 0 < ns.length ∧ ∀ m, m ∈ ns → (∀ y, y ∈ ns → if gr then y ≤ m else m ≤ y) → q (.int m)
  | _ => False
def rMxT (K : Frg) (gr : Bool) : List V → Hp → VK → Prop := fun vs H Q => ∃ (a : Addr) (ns : List Int), vs = [V.ref a] ∧ SqT K H a (ns.map V.int) ∧ 0 < ns.length ∧ ∀ m, m ∈ ns → (∀ y, y ∈ ns → if gr then y ≤ m else m ≤ y) → Q (.int m) H
theorem cr_mxT (gr : Bool) (hc : X.calm = true) : CallR X (.builtin (if gr then "max" else "min")) (rMxT X.K gr) := by
  intro pins s σ H vs us Q I r ⟨a, ns, e, hs, hne, q⟩
  subst e
  obtain ⟨its, rv, hl, _⟩ := I.tuple hs
  rw [Vals.ref1 r]
  exact mx_tup (I.ok.hd hc) (show s.heap.IsTuple a its.toArray from hl) rv.ints hne gr fun h' tk m t' hk h1 h2 => ⟨.int _, H, I.kept hk, ⟨_, rfl⟩, q m h1 h2⟩
theorem m_mxT (gr : Bool) (hK : X.K = C.K) : Meets1 C (oMxT gr) (rMxT X.K gr) := fun Z H v d q Q r h k => by
  rw [hK]
  unfold oMxT at h
  split at h
  · obtain ⟨ns, rfl, hn, h⟩ := h
    obtain ⟨a, vs, rfl, hs, rs⟩ := r.tup
    rw [rs.ints] at hs
    exact ⟨a, ns, rfl, hs, hn, fun m h1 h2 => k _ _ (.int _) (h m h1 h2)⟩
  · cases h
theorem b_maxT (hc : X.calm = true := by rfl) (hK : X.K = C.K := by rfl) : CallR X (.builtin "max") (rMxT X.K true) ∧ Meets1 C (oMxT true) (rMxT X.K true) := ⟨cr_mxT true hc, m_mxT true hK⟩
theorem b_minT (hc : X.calm = true := by rfl) (hK : X.K = C.K := by rfl) : CallR X (.builtin "min") (rMxT X.K false) ∧ Meets1 C (oMxT false) (rMxT X.K false) := ⟨cr_mxT false hc, m_mxT false hK⟩

/-! ### list(reversed(xs)) -/
section
variable {prog : Program} {w : World} {A : Around} {Er : Value → Shared → Prop} {s : Shared} {Q : Value → Shared → Prop}
theorem list_of_rev {it l : Addr} {its : Array Value} (hh : A.handled = none) (hit : s.heap.IsRevIter it l ((its.size : Int) - 1)) (hl : s.heap.IsList l its) (hne : l ≠ it) (hn : its.size ≤ sizeLine)
    (hQ : ∀ (h' : Heap) (tk : Nat) (acc : Array Value) (c : Nat), (∀ b o, b ≠ it → s.heap.get? b = some o → h'.get? b = some o) → h'.get? s.heap.objs.size = some { cls := .type "list", dict := none, data := .seq acc c, slots := #[] } →
      ItemsOf (fun i v => its[its.size - 1 - i]? = some v) acc its.size → Q (.ref s.heap.objs.size) { s with heap := h', toks := tk }) : wpAny (model prog w) A (call (.type "list") [.ref it]) Q Er s := by
  obtain ⟨oi, hoi, _⟩ := id hit
  obtain ⟨ol, hol, _⟩ := id hl
  have ni : s.heap.objs.size ≠ it := Nat.ne_of_gt (Heap.lt_size hoi)
  have nl : s.heap.objs.size ≠ l := Nat.ne_of_gt (Heap.lt_size hol)
  refine callType_codes (Q₁ := fun ob s1 => ob = .ref s.heap.objs.size ∧ s1 = { s with heap := s.heap.push { cls := .type "list", data := .seq #[] } }) F.called_list (F.typeCall_list_1 _) F.entry_list_init (code_list_new _ ⟨rfl, rfl⟩) fun ob s1 h1 => ?_
  obtain ⟨rfl, rfl⟩ := h1
  have h0 : (s.heap.push { cls := .type "list", data := .seq #[] }).get? s.heap.objs.size = some { cls := .type "list", data := .seq #[] } := Heap.get?_push_size _ rfl
  refine ⟨⟨_, h0, rfl⟩, F.args_list_init_2 _ _, ?_⟩
  unfold Builtin.«list.__init__»
  refine wpAny_bind ?_
  unfold Builtin.List.listItems
  refine wpAny_bind (wpAny_seqItems h0 rfl (wpAny_pure ?_))
  refine wpAny_bind ?_
  show wpAny _ _ (updateSeq s.heap.objs.size (fun _ => #[])) _ _ _
  refine wpAny_updateSeq h0 rfl ?_
  have h2 := Heap.get?_update_self (Obj.mapSeq (fun _ => (#[] : Array Value))) h0 rfl
  have up : ∀ b o, b ≠ s.heap.objs.size → (s.heap.push { cls := .type "list", data := .seq #[] }).get? b = some o → ((s.heap.push { cls := .type "list", data := .seq #[] }).update s.heap.objs.size (Obj.mapSeq (fun _ => (#[] : Array Value)))).get? b = some o :=
    fun b o hb e => (Heap.get?_update_other _ _ (Ne.symm hb)).trans e
  have hit2 : ((s.heap.push { cls := .type "list", data := .seq #[] }).update s.heap.objs.size (Obj.mapSeq (fun _ => (#[] : Array Value)))).IsRevIter it l ((its.size : Int) - 1) := (hit.at fun o e => Heap.get?_push_of_some _ e).at fun o e => up it o (Ne.symm ni) e
  have hl2 : ((s.heap.push { cls := .type "list", data := .seq #[] }).update s.heap.objs.size (Obj.mapSeq (fun _ => (#[] : Array Value)))).IsList l its := ⟨ol, up l ol (Ne.symm nl) (Heap.get?_push_of_some _ hol), by assumption⟩
  refine wpAny_bind (wpAny_letGo ?_)
  have tyr := Heap.IsRevIter.typeIs (s := { s with heap := (s.heap.push { cls := .type "list", data := .seq #[] }).update s.heap.objs.size (Obj.mapSeq (fun _ => (#[] : Array Value))) }) hit2
  show wpAny _ _ (Builtin.List.listExtendWith (.ref s.heap.objs.size) (.ref it) .none) _ _ _
  unfold Builtin.List.listExtendWith
  refine wpAny_bind (wpAny_typeOf tyr ?_)
  rw [if_neg (by simp [Builtin.List.listSameRef, ni])]
  refine wpAny_bind (wpAny_pyIter_revIter (s := { s with heap := (s.heap.push { cls := .type "list", data := .seq #[] }).update s.heap.objs.size (Obj.mapSeq (fun _ => (#[] : Array Value))) }) hit2 ?_)
  refine wpAny_bind (wpAny_holding ?_)
  unfold Builtin.List.listLengthHint
  refine wpAny_bind (wpAny_specialOf tyr RT.nolen_lri ?_)
  show wpAny _ _ (specialOf (Value.ref it) (Str.ofString "__length_hint__") >>= _) _ _ _
  refine wpAny_bind (wpAny_specialOf tyr RT.hint_lri ?_)
  generalize hid : ("list_reverseiterator.__length_hint__" : String) = id0
  wp_delta
  rw [show splitId id0 = some ("list_reverseiterator", "__length_hint__") from by subst hid; decide +kernel]
  subst hid
  refine wpAny_bind (wpAny_isInstance (b := true) tyr (by rw [isSubtype_type]; kernel_rfl) ?_)
  refine wpAny_pure ?_
  rw [if_neg (by decide)]
  have W := (Walks.listRev (prog := prog) (w := w) (A := A.in1.in1) hh it l hne its).toS
  have nf : s.heap.objs.size ∉ [it, l] := by simp only [List.mem_cons, List.not_mem_nil, or_false, not_or]; exact ⟨ni, nl⟩
  have e0 : ((its.size : Nat) : Int) - 1 - ((0 : Nat) : Int) = (its.size : Int) - 1 := by omega
  refine wpAny_pure ⟨plainId_quiet F.plain_extend_loop _, codeAny_extend_loopS W hn _ nf _ its.size 0 _ _ _ rfl (Nat.zero_le _) ⟨Nat.zero_le _, by rw [e0]; exact hit2, hl2⟩ h2 (ItemsOf.nil _) fun s' acc c hm hS hacc => ?_⟩
  have em := Moved.eq_with hm
  refine ⟨rfl, ?_⟩
  rw [em]
  refine hQ s'.heap s'.toks acc c (fun b o hb e => hm.heap b o (fun hmem => ?_) (up b o (Nat.ne_of_lt (Heap.lt_size e)) (Heap.get?_push_of_some _ e))) hS hacc
  rcases List.mem_cons.mp hmem with e' | hmem
  · exact absurd (Heap.lt_size e) (by rw [e']; exact Nat.lt_irrefl _)
  · exact hb (List.mem_singleton.mp hmem)
end

theorem valsRev : ∀ {vs : List V} {us : List Value}, Vals vs us → Vals vs.reverse us.reverse := fun {vs us} h => by
  have app : ∀ {a b : List V} {c d : List Value}, Vals a c → Vals b d → Vals (a ++ b) (c ++ d) := fun {a b c d} h k => by
    induction h with
    | nil => exact k
    | cons r _ ih => exact .cons r ih
  induction h with
  | nil => exact .nil
  | cons r _ ih => rw [List.reverse_cons, List.reverse_cons]; exact app ih (.cons r .nil)
theorem items_rev {its : List Value} {acc : Array Value} (h : ItemsOf (fun i v => its.toArray[its.toArray.size - 1 - i]? = some v) acc its.toArray.size) : acc.toList = its.reverse := by
  have hs : acc.size = its.length := by have := h.1; simpa using this
  refine List.ext_getElem? fun i => ?_
  by_cases hi : i < its.length
  · have e : acc[i]? = some acc[i] := Array.getElem?_eq_getElem (by omega)
    have q := h.2 i _ e
    rw [Array.getElem?_toList, e]
    rw [List.getElem?_reverse hi]
    simp only [List.size_toArray, List.getElem?_toArray] at q
    exact q.symm
  · rw [List.getElem?_eq_none (by rw [Array.length_toList]; omega), List.getElem?_eq_none (by rw [List.length_reverse]; omega)]
def tRevOf (t : TD) : TN := fun E Q => t E fun d E1 => match d with
  | .lst ds => Q (.lst ds.reverse) E1
  | _ => False
theorem dn_listRev {e : Expr} {t : TD} {p p1 p2 : Pos} (hml : X.mg "list" = none) (hm : X.mg "reversed" = none) (he : DB C X e t) (hgl : Gl X "list" := by rfl) (hg : Gl X "reversed" := by rfl) (hc : X.calm = true := by rfl) (na : starEach [e] X.env = (false, eval e X.env) :: starEach [] X.env := by rfl)
    (nb : starEach [.Call (.Name "reversed" p1) [e] [] p2] X.env = (false, eval (.Call (.Name "reversed" p1) [e] [] p2) X.env) :: starEach [] X.env := by rfl) (hK : X.K = C.K := by rfl) : DN C X (.Call (.Name "list" p) [.Call (.Name "reversed" p1) [e] [] p2] [] pos) (tRevOf t) := by
  refine ⟨fun pins s σ H Q I h => ?_⟩
  obtain ⟨ps, Ep, E, Z, Qd, w, h, post⟩ := h
  refine Call_ (ld_blt I hgl hml boot_list (PyProof.Rows.callWith_type1 (args_cons (thn (Q := fun x s' => ∃ (s0 : Shared) (l : Addr) (its : List Value) (vs : List V) (ds : List D) (E1 : List S) (Z1 : Addr → Prop) (H1 : Hp), x = .ref s0.heap.objs.size ∧ s' = { s0 with heap := s0.heap.push (revObj l ((its.toArray.size : Int) - 1)) } ∧
    Inv X pins σ H1 s0 ∧ s0.heap.IsList l its.toArray ∧ Vals vs its ∧ vs.length ≤ sizeLine ∧ At C ps Ep Z1 σ E1 H1 ∧ Stp Z H Z1 H1 ∧ Reps C.K Z1 H1 vs ds ∧ Qd (.lst ds.reverse) E1) ?_ fun x s1 ⟨s0, l, its, vs, ds, E1, Z1, H1, ex, es, I0, hl, rv, hz, w1, st1, rs, q⟩ => args_nil ?_) nb) nb))
  · refine Call_ (ld_blt I hg hm (u := .type "reversed") (by first | rfl | decide +kernel) (PyProof.Rows.callWith_type1 (one_arg he I ⟨ps, Ep, E, Z, _, w, h, fun d E1 Z1 H1 v w1 st1 r1 h1 => ?_⟩ (fun u s2 y H2 I2 r2 (q : ∃ (l : Addr) (vs : List V) (ds : List D) (E1 : List S) (Z1 : Addr → Prop), y = .ref l ∧ SqL X.K H2 l vs ∧ At C ps Ep Z1 σ E1 H2 ∧ Stp Z H Z1 H2 ∧ Reps C.K Z1 H2 vs ds ∧ Qd (.lst ds.reverse) E1) => ?_) na) na))
    · split at h1
      · obtain ⟨a, vs, rfl, hs, rs⟩ := r1.lst
        exact ⟨a, vs, _, E1, Z1, rfl, hK ▸ hs, w1, st1, rs, h1⟩
      · cases h1
    · obtain ⟨l, vs, ds, E1, Z1, rfl, hs, w1, st1, rs, q⟩ := q
      cases (show u = Value.ref l from r2)
      obtain ⟨its, rv, pl, hz⟩ := I2.list hs
      refine call_reversed_list pl.isList ?_
      exact ⟨s2, l, its, vs, ds, E1, Z1, H2, rfl, rfl, I2, pl.isList, rv, hz, w1, st1, rs, q⟩
  · subst ex es
    have hne : l ≠ s0.heap.objs.size := by obtain ⟨_, e, _⟩ := hl; exact Nat.ne_of_lt (Heap.lt_size e)
    refine list_of_rev (I0.ok.hd hc) ⟨_, Heap.get?_push_size _ rfl, rfl, rfl⟩ (hl.push _) hne (by rw [List.size_toArray, ← rv.length]; exact hz) fun h' tk acc c hk hS hacc => ?_
    have hsz : (s0.heap.push (revObj l ((its.toArray.size : Int) - 1))).objs.size = s0.heap.objs.size + 1 := Heap.size_push ..
    have hold : ∀ b o, s0.heap.get? b = some o → h'.get? b = some o := fun b o e => hk b o (Nat.ne_of_lt (Heap.lt_size e)) (Heap.get?_push_of_some _ e)
    have ea := items_rev hacc
    have hf := I0.hok.fresh (a := (s0.heap.push (revObj l ((its.toArray.size : Int) - 1))).objs.size) (by rw [hsz]; exact Nat.le_succ _)
    obtain ⟨st2, w2⟩ := w1.push hf rs.reverse
    refine ⟨.ref _, upd H1 _ (.lst vs.reverse), I0.laid (t' := tk) hold (by rw [hsz]; exact Nat.le_succ _) (show ObjOk X.prog X.w _ _ _ (.lst vs.reverse) from ⟨by rw [List.length_reverse]; exact hz, acc.toList, c, by rw [ea]; exact valsRev rv, by rw [Array.toArray_toList]; exact hS⟩), rfl, post _ E1 Z1 _ _ w2 (st1.trans st2) q⟩
end
end DL
namespace DL
open PySem PySem.Spec PyProof.Rows L2
section
variable {C : Ctx} {X : Cx} {pos : Pos}
/-! ### == and != that only look -/
def MeetsB (C : Ctx) (o : O2) (r : R2) : Prop := ∀ (Z : Addr → Prop) (H : Hp) (v w : V) (x y : D) (q : D → Prop) (Q : VK), BRep C.K Z H v x → BRep C.K Z H w y → o x y q → (∀ z d, Rep C.K Z H z d → q d → Q z H) → r v w H Q
theorem ob_eq (hu : X.A.units + 64 < cLine) (hK : X.K = C.K := by rfl) : OpR X (compareOp .Eq) (rEqD X.K) ∧ MeetsB C oEq (rEqD X.K) := ⟨op_eqD hu, fun Z H v w x y q Q rx ry h k => by
  rw [hK]
  exact ⟨_, _, rx.dp (shp_lay h.1.1), ry.dp (shp_lay h.1.2), h.1.1, h.1.2, k _ _ (.bl _) h.2⟩⟩
theorem ob_ne (hu : X.A.units + 64 < cLine) (hK : X.K = C.K := by rfl) : OpR X (compareOp .NotEq) (rNeD X.K) ∧ MeetsB C oNe (rNeD X.K) := ⟨op_neD hu, fun Z H v w x y q Q rx ry h k => by
  rw [hK]
  exact ⟨_, _, rx.dp (shp_lay h.1.1), ry.dp (shp_lay h.1.2), h.1.1, h.1.2, k _ _ (.bl _) h.2⟩⟩
/-- first a name that is only looked at, then a plain second operand whose world goes on without touching it -/
def nameAt (E : List S) (i : Nat) (q : D → Prop) : Prop := match E[i]? with
  | some (.fr d) => q d
  | some (.ow t) => q t.fz
  | some (.mu t) => q t.fz
  | _ => False
def tCmpB (o : O2) (i : Nat) (tb : TD) : TB := fun E Q => (match E[i]? with | some s => s.knownB = true | none => False) ∧ tb E fun y E1 => nameAt E1 i fun x => o x y fun z => match z with
  | .bl k => Q k E1
  | _ => False
theorem dt_cmpB (i : Nat) {x : Str} {op : CmpOp} {o : O2} {r : R2} {b : Expr} {tb : TD} {pos' : Pos} (ho : OpR X (compareOp op) r ∧ MeetsB C o r) (hb : DE C X b tb) (hm : behindInMarks op b = false := by first | exact nomark _ | rfl) (hN : X.N[i]? = some x := by rfl) (hlt : i < C.n := by exact Nat.le_of_ble_eq_true rfl)
    (hv : Vis X.env.scope x := by first | exact Or.inl rfl | exact Or.inr (Or.inl rfl) | exact Or.inr (Or.inr rfl)) (hd : (x == ("__debug__" : Str)) = false := by decide) (hcd : (x == ("__classdict__" : Str)) = false := by decide) : DT C X (.Compare (.Name x pos') [op] [b] pos) (tCmpB o i tb) :=
  (pt_cmpR ho.1 (pe_var hN hv hd hcd) hb hm).imp fun σ H Q ⟨ps, Ep, E, Z, Qd, w, ⟨hk, h⟩, post⟩ => by
    split at hk
    · rename_i s e
      obtain ⟨v, e1⟩ := w.known hlt e hk
      refine ⟨v, e1, ps, Ep, E, Z, _, w, h, fun y E1 Z1 H1 u w1 st1 r1 h1 => ?_⟩
      have fin : ∀ x, BRep C.K Z1 H1 v x → (o x y fun z => match z with | .bl k => Qd k E1 | _ => False) → r v u H1 fun z H' => ∃ k, z = .bl k ∧ Q k H' := fun x rx hx => ho.2 Z1 H1 v u x y _ _ rx (.inl r1) hx fun z d rz q => by
        cases rz with
        | bl k => exact ⟨k, rfl, post k E1 Z1 H1 w1 st1 q⟩
        | _ => cases q
      unfold nameAt at h1
      split at h1
      · rename_i d e2
        obtain ⟨v', e3, r3⟩ := w1.get hlt e2
        rw [e1] at e3; cases e3
        exact fin d (.inl r3) h1
      · rename_i t e2
        exact fin _ (w1.brep hlt e2 rfl e1) h1
      · rename_i t e2
        exact fin _ (w1.brep hlt e2 rfl e1) h1
      · cases h1
    · cases hk
end
end DL
namespace DL
open PySem PySem.Spec PyProof.Rows L2
/-- a promise of nothing -/
theorem fn_never {P : Program} {w : World} {K : Frg} {mg : Str → Option Value} {base : Heap} {CX : CXT} {k n : Nat} {f : Addr} {fd : FuncData} {ps : List Str} {sd : SpD} (h : ∀ a q, ¬ sd a q) : FnOk P w K mg base CX k f fd ps (spD K n sd) :=
  ⟨fun vs H Q E ⟨_, _, _, _, _, _, _, _, _, q, _⟩ => (h _ _ q).elim, fun A outer s H args us vs Q E _ _ _ _ ⟨_, _, _, _, _, _, _, _, _, q, _⟩ => (h _ _ q).elim⟩
end DL
set_option Elab.async false
set_option linter.all false
set_option maxRecDepth 100000
set_option maxHeartbeats 4000000
/-! DL, part k: plain facts on data. -/
namespace DL
open PySem PySem.Spec PyProof.Rows L2
theorem shpD {d : D} (h1 : d.py.canLay0 = true) (h2 : d.py.depth ≤ 64) : d.shp = true := Bool.and_eq_true_iff.mpr ⟨h1, decide_eq_true h2⟩
theorem layL {α : Type} (f : α → D) (h : ∀ a, (f a).py.canLay0 = true) : ∀ l : List α, PyData.canLayAll0 (D.pys (l.map f)) = true
  | [] => rfl
  | a :: l => Bool.and_eq_true_iff.mpr ⟨h a, layL f h l⟩
theorem depL {α : Type} (f : α → D) {n : Nat} (h : ∀ a, (f a).py.depth ≤ n) : ∀ l : List α, PyData.depthAll (D.pys (l.map f)) ≤ n
  | [] => Nat.zero_le _
  | a :: l => Nat.max_le.mpr ⟨h a, depL f h l⟩
theorem shpL {α : Type} (f : α → D) (h1 : ∀ a, (f a).py.canLay0 = true) (h2 : ∀ a, (f a).py.depth ≤ 60) (l : List α) : (D.lst (l.map f)).shp = true :=
  shpD (layL f h1 l) (Nat.le_trans (Nat.succ_le_succ (depL f h2 l)) (by decide))
theorem shp_ints (l : List Int) : (D.lst (l.map D.int)).shp = true := shpL D.int (fun _ => rfl) (fun _ => Nat.le_trans (Nat.le_of_eq rfl) (by decide : 0 ≤ 60)) l
/-- the place of a number in a list -/
theorem at_pos {ds : List D} {k : Int} {i : Nat} {d : D} (hk : k = i) (h : ds[i]? = some d) : atI ds k = some d := by
  have hi := (List.getElem?_eq_some_iff.mp h).1
  subst hk
  unfold atI ixN
  rw [if_pos (by omega), if_pos (by omega)]
  exact h
def pick3 (k x y z : Int) : Int := if k = 0 then x else if k = 1 then y else z
theorem at_3 (x y z : Int) {k : Int} (h0 : 0 ≤ k) (h : k < 3) : atI [D.int x, .int y, .int z] k = some (.int (pick3 k x y z)) := by
  have : k = 0 ∨ k = 1 ∨ k = 2 := by omega
  rcases this with rfl | rfl | rfl <;> rfl
theorem cut_tail (xs : List D) : cutD xs (some 1) none = xs.drop 1 := by
  have e0 : HT.sIx xs.length 0 (some 1) = min 1 xs.length := HT.sIx_nat _ _ 1
  have e1 : HT.sIx xs.length xs.length none = xs.length := rfl
  unfold cutD
  rw [e0, e1]
  by_cases h : xs = []
  · subst h; rfl
  · have : 1 ≤ xs.length := List.length_pos_iff.mpr h
    rw [show min 1 xs.length = 1 by omega]
    rw [List.take_of_length_le (by rw [List.length_drop]; exact Nat.le_refl _)]
theorem cut_init (xs : List D) (x : D) : cutD (xs ++ [x]) none (some (((xs ++ [x]).length : Int) - 1)) = xs := by
  have e0 : HT.sIx (xs ++ [x]).length 0 none = 0 := rfl
  have e1 : HT.sIx (xs ++ [x]).length (xs ++ [x]).length (some (((xs ++ [x]).length : Int) - 1)) = xs.length := by
    have e : (((xs ++ [x]).length : Int) - 1) = (xs.length : Int) := by rw [List.length_append, List.length_singleton]; omega
    rw [e, HT.sIx_nat, List.length_append, List.length_singleton]
    omega
  unfold cutD
  rw [e0, e1, List.drop_zero, Nat.sub_zero, List.take_left']
  rfl
theorem at_len (xs : List D) (x : D) : atI (xs ++ [x]) (((xs ++ [x]).length : Int) - 1) = some x := by
  refine at_pos (i := xs.length) (by rw [List.length_append, List.length_singleton]; omega) ?_
  rw [List.getElem?_append_right (Nat.le_refl _), Nat.sub_self]
  rfl
end DL
set_option Elab.async false
set_option linter.all false
set_option maxRecDepth 100000
set_option maxHeartbeats 4000000
/-! DL, part x: exceptions of one's own classes, over data. -/
namespace DL
open PySem PySem.Spec PyProof.Rows L2

/-- an exception: its class, its fields -/
structure EX where
  C : Addr
  ns : List Str
  ds : List D
abbrev WdX := EX → List S → Prop
def XRep (K : Frg) (Z : Addr → Prop) (H : Hp) (cls : Value) (d : Option Addr) (x : EX) : Prop := cls = .ref x.C ∧ ∃ dd fs, d = some dd ∧ Z dd ∧ H dd = some (.xd fs) ∧ fs.map (·.1) = x.ns ∧ Reps K Z H (fs.map (·.2)) x.ds
theorem XRep.mono {K : Frg} {Z Z' : Addr → Prop} {H H' : Hp} {cls : Value} {d : Option Addr} {x : EX} (st : Stp Z H Z' H') (h : XRep K Z H cls d x) : XRep K Z' H' cls d x :=
  let ⟨a, dd, fs, b, z, e, n, r⟩ := h
  ⟨a, dd, fs, b, st.zz _ z, (st.ke _ z).trans e, n, r.mono st⟩
def wxOf (C : Ctx) (Wd : WdX) : WX := fun cls d σ H => ∃ ps Ep Z E x, At C ps Ep Z σ E H ∧ XRep C.K Z H cls d x ∧ Wd x E
abbrev SpX := List S → (S → List S → Prop) → WdX → Prop
def spX (K : Frg) (n : Nat) (sx : SpX) : Sp := fun vs H Q E => ∃ (Z : Addr → Prop) (args : List S) (F : Foot) (Qd : S → List S → Prop) (Wd : WdX), vs.length = n ∧ Slots K Z H (vs.map some) args F ∧ (∀ i a, a ∈ F i → ¬ Z a) ∧ (∀ a, Z a → H a ≠ none) ∧ (∀ (i : Nat) s, args[i]? = some s → s.isNew = false) ∧ sx args Qd Wd ∧
  (∀ r Em Z' H' v, ResAt0 ⟨K, H, F, Z, vs, Z, H, 0⟩ [] [] Z' (vs.map some) Em H' v r → Qd r Em → Q v H') ∧ (∀ x Em Z' H' cls d, At0 ⟨K, H, F, Z, vs, Z, H, 0⟩ [] [] Z' (vs.map some) Em H' → XRep K Z' H' cls d x → Wd x Em → E cls d H')

section
variable {C : Ctx} {ps : Sg} {Ep : List S} {Z Z' : Addr → Prop} {σ : Sg} {E : List S} {H H' : Hp}
/-- what is pending is let go -/
theorem At.drops (w : At C ps Ep Z σ E H) : At C [] [] Z σ E H := by
  obtain ⟨hn, τ, hl, F, f⟩ := w
  have hl2 : (σ ++ τ).length = E.length := by rw [List.length_append]; exact hl
  refine ⟨hn, τ, hl, ?_⟩
  rw [List.append_nil, List.append_nil]
  refine f.re (fun j => j) hl2 (fun j s e => .inr ⟨up_get e, ?_, fun _ => rfl⟩) fun _ _ _ _ _ _ _ _ e => e
  exact (getD_left (a := σ ++ τ) (b := ps) (by have := (List.getElem?_eq_some_iff.mp e).1; omega)).symm
/-- an object that nobody owns is frozen -/
theorem At.keep (w : At C ps Ep Z σ E H) {a : Addr} {o : HO} (ha : H a = some o) (hn : ¬ MutK o) (h0 : C.H0 a = none) : Stp Z H (fun b => Z b ∨ b = a) H ∧ At C ps Ep (fun b => Z b ∨ b = a) σ E H := by
  obtain ⟨h1, τ, hl, F, f⟩ := w
  have st : Stp Z H (fun b => Z b ∨ b = a) H := Stp.grow fun b h => .inl h
  refine ⟨st, h1, τ, hl, F, f.go st (fun _ _ _ => rfl) (fun i b hb h => ?_) (fun b o _ _ e => e) (fun b h => ?_) (fun b h => ?_) fun b h => h⟩
  · rcases h with h | h
    · exact f.nz i b hb h
    · subst h
      obtain ⟨u, e, k⟩ := f.kind hb
      rw [ha] at e; cases e
      exact hn k
  · rcases h with h | h
    · exact .inl h
    · subst h; exact .inr h0
  · rcases h with h | h
    · exact f.zt b h
    · subst h; rw [ha]; intro q; cases q
theorem At.h0 (w : At C ps Ep Z σ E H) {a : Addr} (h : H a = none) : C.H0 a = none := by
  obtain ⟨_, τ, _, F, f⟩ := w
  exact Classical.byContradiction fun n => f.kt a n h
end

section
variable {C : Ctx} {X : Cx} {pos : Pos} {k n : Nat} {f : Addr} {fd : FuncData} {prs : List Str} {sx : SpX} {x : Str} {p : Pos} {e : Expr} {es : List Expr} {ta : TAm} {Wd : WdX}
/-! ### a call that may raise -/
def tCallXD (sx : SpX) (Wd : WdX) (ta : TAm) : TD := fun E Q => ta E fun as E1 => apart (msOf as) = true ∧ sx (as.map (argS E1)) (fun r Em => match r with
  | .fr d => Q d (backL as Em 0 E1)
  | _ => False) fun x Em => Wd x (backL as Em 0 E1)
def tCallXN (sx : SpX) (Wd : WdX) (ta : TAm) : TN := fun E Q => ta E fun as E1 => apart (msOf as) = true ∧ sx (as.map (argS E1)) (fun r Em => match r with
  | .ow t => Q t (backL as Em 0 E1)
  | _ => False) fun x Em => Wd x (backL as Em 0 E1)
theorem callX_imp {σ : Sg} {H : Hp} {Q : VK} {ps : Sg} {Ep : List S} {E : List S} {Z : Addr → Prop} {Qr : S → List S → Prop} (w : At C ps Ep Z σ E H)
    (h : ta E fun as E1 => apart (msOf as) = true ∧ sx (as.map (argS E1)) (fun r Em => Qr r (backL as Em 0 E1)) fun x Em => Wd x (backL as Em 0 E1))
    (post : ∀ r E' Z' H' v, ResAt C ps Ep Z' σ E' H' v r → Stp Z H Z' H' → Qr r E' → Q v H') : tCallSD (spX C.K n sx) [] (WE (wxOf C Wd)) (tamOf C n ta) σ H Q :=
  ⟨ps, Ep, E, Z, _, w, h, fun as E1 Z1 H1 vs w1 st1 ok hn ⟨ap, h1⟩ => by
    obtain ⟨hn1, τ, hl1, F, f⟩ := w1.zero
    obtain ⟨g1, g2, g3⟩ := call_go f hl1 ok.lift ap
    rw [List.append_nil]
    refine ⟨Z1, _, _, _, _, by rw [ok.length]; exact hn, g1, g2, f.zt, argS_no, h1, fun r Em Z' H' v R q => ?_, fun x Em Z' H' cls d wA xr hw => ?_⟩
    · obtain ⟨st2, R2⟩ := g3 r Em Z' H' v R
      exact post r _ Z' H' v (R2.to hn1) (st1.trans st2) q
    · obtain ⟨st2, R2⟩ := g3 (.fr .non) Em Z' H' .non ⟨wA, .non⟩
      exact ⟨ps, Ep, Z', _, x, R2.1.to hn1, xr, hw⟩⟩
variable {st : Stmt}
theorem dcallx (G : FnOk X.prog X.w X.K X.mg X.base (L2.CX X.prog X.w) k f fd prs (spX X.K n sx)) (Dn' : Dn X.K X.mg x st prs f fd) (tk : Takes X (wxOf C Wd)) (hr : Room k X.A) (ha : DM C X (e :: es) ta) (hg : Gl X x := by rfl) (hn : n = (e :: es).length := by rfl) (hK : X.K = C.K := by rfl)
    (hdb : (x == ("__debug__" : Str)) = false := by decide) (he : starEach (e :: es) X.env = (false, eval e X.env) :: starEach es X.env := by rfl) (hpl : (backTo pos (starEach es X.env)).any (·.1) = false := by rfl) :
    DE C X (.Call (.Name x p) (e :: es) [] pos) (tCallXD sx Wd ta) := (pe_callSD G hr hg Dn'.m Dn'.F.kp Dn'.b .nil (fun σ => passAt tk σ) ha hdb he hpl).imp fun σ H Q ⟨ps, Ep, E, Z, Qd, w, h, post⟩ => by
  subst hn
  rw [hK]
  refine callX_imp (Qr := fun r E' => match r with | .fr d => Qd d E' | _ => False) w h fun r E' Z' H' v R st q => ?_
  cases r with
  | fr d => exact post d E' Z' H' v R.1 st R.2 q
  | un => cases q
  | ow t => cases q
  | mu t => cases q
  | rf a => cases q
  | nw a n => cases q
  | nm a n => cases q
theorem dcallnx (G : FnOk X.prog X.w X.K X.mg X.base (L2.CX X.prog X.w) k f fd prs (spX X.K n sx)) (Dn' : Dn X.K X.mg x st prs f fd) (tk : Takes X (wxOf C Wd)) (hr : Room k X.A) (ha : DM C X (e :: es) ta) (hg : Gl X x := by rfl) (hn : n = (e :: es).length := by rfl) (hK : X.K = C.K := by rfl)
    (hdb : (x == ("__debug__" : Str)) = false := by decide) (he : starEach (e :: es) X.env = (false, eval e X.env) :: starEach es X.env := by rfl) (hpl : (backTo pos (starEach es X.env)).any (·.1) = false := by rfl) :
    DN C X (.Call (.Name x p) (e :: es) [] pos) (tCallXN sx Wd ta) := (pe_callSD G hr hg Dn'.m Dn'.F.kp Dn'.b .nil (fun σ => passAt tk σ) ha hdb he hpl).imp fun σ H Q ⟨ps, Ep, E, Z, Qd, w, h, post⟩ => by
  subst hn
  rw [hK]
  refine callX_imp (Qr := fun r E' => match r with | .ow t => Qd t E' | _ => False) w h fun r E' Z' H' v R st q => ?_
  cases r with
  | ow t => exact post t E' Z' H' v R st q
  | un => cases q
  | fr d => cases q
  | mu t => cases q
  | rf a => cases q
  | nw a n => cases q
  | nm a n => cases q
end

/-! ### the rule for a def that may raise -/
section
variable {P : Program} {w : World} {K : Frg} {mg : Str → Option Value} {base : Heap}
def xEnd (n : Nat) (Wd : WdX) : WdX := fun x E => n ≤ E.length ∧ Wd x ((E.take n).map muO)
theorem fn_DX {x qual : Str} {st : Stmt} {f : Addr} {fd : FuncData} {N prs : List Str} {k : Nat} {sx : SpX} (F : Fun K x qual st f fd) (S' : FnScope N prs (defScope st)) {t : WdX → TSD}
    (hb : ∀ (H0 : Hp) (Fm : Foot) (Z0 : Addr → Prop) (vs : List V) (cdv : Value) (A : Around) (outer : List Env) (s : Shared) (H : Hp) (Ex : XK) (Wd : WdX), Room k (A.deeper (envOfC qual (defScope st) s.heap.objs.size f cdv)) →
      Takes (cxOf (L2.CX P w) P w K mg base N qual (defScope st) f cdv A outer s H Ex) (wxOf ⟨K, H0, Fm, Z0, vs, Z0, H0, N.length⟩ Wd) →
      PassesOwn (model P w) (A.deeper (envOfC qual (defScope st) s.heap.objs.size f cdv)) (envOfC qual (defScope st) s.heap.objs.size f cdv) (cxOf (L2.CX P w) P w K mg base N qual (defScope st) f cdv A outer s H Ex).xe →
      DSs ⟨K, H0, Fm, Z0, vs, Z0, H0, N.length⟩ (cxOf (L2.CX P w) P w K mg base N qual (defScope st) f cdv A outer s H Ex) (defBody st) (t Wd))
    (ht : ∀ args Qd Wd, args.length = prs.length → sx args Qd Wd → t (xEnd prs.length Wd) (dEnd prs.length Qd) (args ++ List.replicate (N.length - prs.length) .un)) :
    FnOk P w K mg base (L2.CX P w) (k + 1) f fd prs (spX K prs.length sx) := by
  refine F.okX S' (fun vs H Q E h => ?_) (fun cdv A outer s H vs Q E hr h => ?_)
  · obtain ⟨_, _, _, _, _, h, _⟩ := h
    exact h
  · obtain ⟨Z, args, F', Qd, Wd, hv, sl, nz, zt, no, h, post, postx⟩ := h
    have la : args.length = prs.length := by
      have := sl.len
      rw [List.length_map] at this
      omega
    have hNp : prs.length ≤ N.length := by have := congrArg List.length S'.pre; rw [List.length_take] at this; omega
    have w0 := start_at (K := K) (N := N) (prs := prs) hv la sl nz zt no hNp
    refine ⟨_, hb H F' Z vs cdv A outer s H E (xEnd prs.length Wd) hr ((takes_of (X := cxOf (L2.CX P w) P w K mg base N qual (defScope st) f cdv A outer s H E) (E := E) rfl rfl rfl rfl).imp fun cls d σ H' hx => ?_) (passes_of rfl), ?_⟩
    · obtain ⟨ps, Ep, Z', E', x, wA, xr, le, hw⟩ := hx
      obtain ⟨q, _⟩ := (ResAt.ends (C := ⟨K, H, F', Z, vs, Z, H, N.length⟩) (r := .fr .non) (v := .non) hv le ⟨wA.drops, .non⟩).reN 0
      exact postx x _ Z' H' cls d q xr hw
    · refine ⟨[], [], _, Z, _, w0, ht args Qd Wd la h, ⟨fun σ' E' Z' H' w' st' ⟨le, q⟩ => ?_, fun _ _ _ _ _ _ q => q, fun _ _ _ _ _ _ q => q, fun r σ' E' Z' H' v w' st' ⟨le, q⟩ => ?_, rfl, rfl⟩⟩
      · exact post (.fr .non) _ Z' H' .non ((ResAt.ends (C := ⟨K, H, F', Z, vs, Z, H, N.length⟩) (r := .fr .non) hv le ⟨w', .non⟩).reN 0) q
      · exact post r _ Z' H' v ((ResAt.ends (C := ⟨K, H, F', Z, vs, Z, H, N.length⟩) hv le w').reN 0) q
end
end DL
set_option Elab.async false
set_option linter.all false
set_option maxRecDepth 100000
set_option maxHeartbeats 4000000
/-! DL, part y: raise and try, over data. -/
namespace DL
open PySem PySem.Spec PyProof.Rows L2

/-! ### an own class of one field -/
def spE1 (C : Addr) (f : Str) : Sp := fun vs H Q _ => ∃ (a : Addr) (y : V), vs = [.ref a, y] ∧ H a = some (exo a C none) ∧ ∀ dx, H dx = none → dx ≠ a → Q .non (upd (upd H dx (exd dx [(f, y)])) a (exo a C (some dx)))
/-- what the text's end says of such a class -/
structure E1 (K : Frg) (mg : Str → Option Value) (x f : Str) (C fI : Addr) (fd : FuncData) (y : Str) : Prop where
  T : OexC K C
  m : mg x = some (.ref C)
  iC : PySem.W.findIn K (.ref C) "__init__" = some (some (.ref fI))
  tI : PySem.W.typeIn K (.ref fI) = some (.type "function")
  b : Binds K fd ["self", y] []
  no : PySem.W.findIn K (.ref C) f = some none
  xf : XfC K C
  G : ∀ (P : Program) (w : World) (base : Heap), FnOk P w K mg base CX0 1 fI fd ["self", y] (spE1 C f)
section
variable {C : Ctx} {X : Cx} {pos p1 p : Pos} {x f y : Str} {Cc fI : Addr} {fd : FuncData} {e : Expr} {t : TD} {Wd : WdX}
/-- raise C(e) -/
def dRaise1 (Wd : WdX) (Cc : Addr) (f : Str) (t : TD) : TSD := fun _ E => t E fun d E1 => Wd ⟨Cc, [f], [d]⟩ E1
theorem ds_raise1 (M : E1 X.K X.mg x f Cc fI fd y) (tk : Takes X (wxOf C Wd)) (hr : Room 2 X.A) (he : DE C X e t) (hc : X.calm = true := by rfl) (hg : Gl X x := by rfl) (hK : X.K = C.K := by rfl) (hdb : (x == ("__debug__" : Str)) = false := by decide) (hs : starEach [e] X.env = (false, eval e X.env) :: starEach [] X.env := by rfl)
    (hpl : (backTo p1 (starEach [] X.env)).any (·.1) = false := by rfl) : DS C X (.Raise (some (.Call (.Name x p) [e] [] p1)) none pos) (dRaise1 Wd Cc f t) :=
  (ps_raise hc tk (pmk_oex M.T M.iC M.tI (M.G X.prog X.w X.base) hr M.b .nil pass0 hg M.m (pa_cons he pa_nil hs) hdb hs hpl)).imp fun Dn σ H ⟨ps, Ep, E, Z, Dd, w, h, ft⟩ =>
    ⟨ps, Ep, E, Z, _, w, h, fun d E1 Z1 H1 v w1 st1 r1 h1 => ⟨by show 1 ≤ 1000; decide, fun a ha => ⟨a, v, rfl, upd_same, fun dx hdx hne => by
      have hd1 : H1 dx = none := by rw [upd_ne hne] at hdx; exact hdx
      refine ⟨rfl, dx, [(f, v)], upd_same, by rw [upd_ne hne, upd_same], hd1, ?_⟩
      have eH : upd (del (upd (upd (upd H1 a (exo a Cc none)) dx (exd dx [(f, v)])) a (exo a Cc (some dx))) a) dx (.xd [(f, v)]) = upd H1 dx (.xd [(f, v)]) := by
        funext b
        by_cases h1 : b = dx
        · subst h1; rw [upd_same, upd_same]
        · rw [upd_ne h1, upd_ne h1]
          by_cases h2 : b = a
          · subst h2; rw [del_same, ha]
          · rw [del_ne h2, upd_ne h2, upd_ne h1, upd_ne h2]
      rw [eH]
      have w2 := w1.new (o := .xd [(f, v)]) hd1
      obtain ⟨st3, w3⟩ := w2.keep upd_same (fun k => k) (w1.h0 hd1)
      have st2 : Stp Z1 H1 Z1 (upd H1 dx (.xd [(f, v)])) := Stp.new w1.zt hd1
      exact ⟨ps, Ep, _, E1, ⟨Cc, [f], [d]⟩, w3, ⟨rfl, dx, [(f, v)], rfl, .inr rfl, upd_same, rfl, .one (r1.mono (st2.trans st3))⟩, h1⟩⟩⟩⟩
end
/-- its __init__: self.f = y -/
theorem init1 {P : Program} {w : World} {K : Frg} {mg : Str → Option Value} {base : Heap} {qual : Str} {st : Stmt} {fI C : Addr} {fd : FuncData} {f y : Str} {p1 p2 p3 p4 : Pos} (F : Fun K "__init__" qual st fI fd) (hb : defBody st = [.Assign [.Attribute (.Name "self" p1) f p2] (.Name y p3) p4])
    (S' : FnScope ["self", y] ["self", y] (defScope st)) (T : OexC K C) (no : PySem.W.findIn K (.ref C) f = some none) (hv : Vis (defScope st) y) (hv0 : Vis (defScope st) "self") (hd : (y == ("__debug__" : Str)) = false) (hcd : (y == ("__classdict__" : Str)) = false) : FnOk P w K mg base CX0 1 fI fd ["self", y] (spE1 C f) := by
  refine F.ok S' (fun vs H Q E h => ?_) (fun cdv A outer s H vs Q E hr h => ?_)
  · obtain ⟨a, v, rfl, _⟩ := h
    rfl
  · obtain ⟨a, v, rfl, ha, k⟩ := h
    rw [hb]
    refine ⟨_, pss_one (ps_ost (pe_var (i := 0) rfl hv0 (by decide) (by decide)) (pe_var (i := 1) rfl hv hd hcd) rfl), ?_⟩
    exact ⟨v, rfl, .ref a, rfl, a, C, rfl, T, no, .inl ⟨ha, fun dx h1 h2 => k dx h1 h2⟩⟩
end DL
set_option Elab.async false
set_option linter.all false
set_option maxRecDepth 100000
set_option maxHeartbeats 4000000
/-! DL, part z: try with clauses that name what they caught, or not. -/
namespace DL
open PySem PySem.Spec PyProof.Rows L2

abbrev HSpec := Value × Option Nat × (Addr → Value → Option Addr → TS)
/-- the ends of a suite whose name goes -/
def goneE (o : Option Nat) (D : Ends) : Ends := match o with
  | none => D
  | some i => { nx := fun σ' H' => D.nx (σ'.set i none) H', rt := D.rt, bk := fun σ' H' => D.bk (σ'.set i none) H', ct := fun σ' H' => D.ct (σ'.set i none) H' }
def goneS (o : Option Nat) (a : Addr) (σ : Sg) : Sg := match o with
  | none => σ
  | some i => σ.set i (some (.ref a))
def wHs (K : Frg) (Wout : WX) (D : Ends) : List HSpec → WX
  | [] => Wout
  | (c, o, ts) :: r => fun cls d σ H => ∃ b, PySem.W.exmOne K cls c = some b ∧ (b = true → ∀ a, H a = none → ts a cls d (goneE o D) (goneS o a σ) H) ∧ (b = false → wHs K Wout D r cls d σ H)
/-- the clauses' suites, each by its reading -/
inductive Hds (X : Cx) : List ExceptHandler → List HSpec → Prop
  | nil : Hds X [] []
  | bare {x : Str} {c : Value} {ts : Addr → Value → Option Addr → TS} {b0 : Stmt} {su : List Stmt} {np hp : Pos} {hds : List ExceptHandler} {l : List HSpec} (hc : Names X x c)
      (hs : ∀ (a : Addr) (oe : Obj) (cls : Value) (d : Option Addr) (pn : List (Addr × Obj)), Zc cls d oe → (∃ vs, oe.data = .fields vs) → PSs (X.suite a ((a, oe) :: pn)) (b0 :: su) (ts a cls d)) (r : Hds X hds l) :
      Hds X (.ExceptHandler (some (.Name x np)) none (b0 :: su) hp :: hds) ((c, none, ts) :: l)
  | named {x n : Str} {i : Nat} {c : Value} {ts : Addr → Value → Option Addr → TS} {b0 : Stmt} {su : List Stmt} {np hp : Pos} {hds : List ExceptHandler} {l : List HSpec} (hc : Names X x c) (hi : X.N[i]? = some n) (hl : X.env.kindOf n = some .local)
      (hs : ∀ (a : Addr) (oe : Obj) (cls : Value) (d : Option Addr) (pn : List (Addr × Obj)), Zc cls d oe → (∃ vs, oe.data = .fields vs) → PSs (X.suite a ((a, oe) :: pn)) (b0 :: su) (ts a cls d)) (r : Hds X hds l) :
      Hds X (.ExceptHandler (some (.Name x np)) (some n) (b0 :: su) hp :: hds) ((c, some i, ts) :: l)
section
variable {X : Cx} {body : List Stmt} {h0 : ExceptHandler} {hds : List ExceptHandler} {l : List HSpec} {pos : Pos} {tb : WX → TS} {Wout : WX}
/-- what the clauses do with an exception that has landed -/
theorem hds_go {a : Addr} {B : Heap} {sI s' : Shared} {h3 : Heap} {pins : List (Addr × Obj)} {σ' : Sg} {H' : Hp} {cls : Value} {d : Option Addr} {D : Ends} (ok : X.Ok) (hs : X.stack = X.env :: X.outer) (hf : X.env.frame = some X.env.locals) (hN : X.N.Nodup) (tk : Takes X Wout)
    (J : Inv X pins σ' H' sI) (nb : ∀ b o, sI.heap.get? b = some o → b ∉ frs X.stack → B.get? b = some o) (up : sI.heap.UpToSlots h3) (fl : HandSPX.FlyingZ B (X.env :: X.outer) a (Zc cls d) h3) (na : H' a = none) (os : s'.os = sI.os) (ag : AllBare s'.gens) :
    ∀ {hds : List ExceptHandler} {l : List HSpec}, Hds X hds l → wHs X.K Wout D l cls d σ' H' → wpAny (model X.prog X.w) X.A (handleBy (.ref a) X.env hds) (SP X pins D) X.xe { s' with heap := h3 } := by
  have land : ∀ {h4 : Heap}, HandSPX.FlyingZ B (X.env :: X.outer) a (Zc cls d) h4 → sI.heap.UpToSlots h4 → ∃ oe, Zc cls d oe ∧ (∃ vs, oe.data = .fields vs) ∧ Inv X pins σ' H' { s' with heap := h4 } ∧ Inv (X.suite a ((a, oe) :: (X.pn ++ pins))) [] σ' H' { s' with heap := h4 } ∧ h4.get? a = some oe := fun {h4} f u => by
    have J4 : Inv X pins σ' H' { s' with heap := h4 } := J.landed nb f.1 u os ag
    obtain ⟨oe, vs, he, hz, hd⟩ := f.there
    have nfr : a ∉ frs (X.env :: X.outer) := fun hm => by
      obtain ⟨_, o', e', hnf⟩ := f.2.2.1.mem hm
      rw [he] at e'; cases e'
      exact hnf _ hd
    refine ⟨oe, hz, ⟨vs, hd⟩, J4, J4.suite he hd na (fun z => nfr (List.mem_filterMap.mpr ⟨X.env, List.mem_cons_self, by rw [hf, z]⟩)) (fun hm => ?_), he⟩
    obtain ⟨e, hm, q⟩ := List.mem_filterMap.mp hm
    exact nfr (List.mem_filterMap.mpr ⟨e, List.mem_cons_of_mem _ hm, q⟩)
  obtain ⟨oe3, hz3, hd3, J3, S3, he3⟩ := land fl up
  have test : ∀ {x : Str} {c : Value} {np : Pos} {Q : Value → Shared → Prop} {E : Value → Shared → Prop}, Names X x c → Q c { s' with heap := h3 } → wpAny (model X.prog X.w) (X.A.mark (some (.ref a))) (eval (.Name x np) X.env) Q E { s' with heap := h3 } := fun {x c np Q E} hc q => by
    obtain ⟨hg, hdbg, hm | ⟨hm, hv, hnn⟩⟩ := hc
    · exact ld_glob (X := X.suite a _) S3 hg hm q hdbg
    · exact ld_blt (X := X.suite a _) S3 hg hm hv q hnn hdbg
  have LT : PySem.W.Looks (model X.prog X.w) h3 (typeOf (.ref a)) cls := fun A Q E s k q => wpAny_typeOf_ref (k _ _ he3) (by rw [hz3.1]; exact q)
  have look : ∀ {c : Value} {b : Bool}, PySem.W.exmOne X.K cls c = some b → PySem.W.Looks (model X.prog X.w) h3 (excMatches (.ref a) c) b := fun {c b} hb => PySem.W.exm_one J3.kIn LT hb
  intro hds l hh
  induction hh with
  | nil =>
    intro w
    refine wpAny_handleBy_nil ?_
    obtain ⟨k1, k2, k3, oe, vs, T, oT, ts', he, hz, hd, h1, hr⟩ := id fl
    unfold PySem.passOn
    refine wpAny_bind (wpAny_field he hd h1 ?_)
    rw [if_neg (show ¬ ((Value.ref T == Value.none) = true) by simp)]
    have fin : wpAny (model X.prog X.w) X.A (setFlight (.ref a) X.env.frame) (fun _ s4 => wpAny (model X.prog X.w) X.A (throw (.ref a) : Sem Flow) (SP X pins D) X.xe s4) X.xe { s' with heap := h3 } := by
      rw [hf]
      refine HandSPX.setFlight_upZ fl fun h4 hh4 up4 => wpAny_throw (tk _ _ ⟨a, B, sI, pins, σ', H', cls, d, rfl, J, nb, up.trans up4, .inr (.inr (by rw [hs]; exact hh4)), na, os, ag, w⟩)
    first
    | exact wpAny_bind (wpAny_pure (wpAny_bind fin))
    | exact wpAny_bind fin
  | bare hc hsu r ih =>
    intro w
    obtain ⟨b, hb, yes, no⟩ := w
    refine wpAny_handleBy_cons (codeAny_handlers_test (test hc ((look hb).here ?_))) (by intro q; cases q)
    cases b with
    | true =>
      refine codeAny_handlers_suite (HandSPX.lands_againZ fl fun h4 fl4 up4 => ?_)
      obtain ⟨oe4, hz4, hd4, J4, S4, he4⟩ := land fl4 (up.trans up4)
      refine wpAny_mono ((hsu a oe4 cls d (X.pn ++ pins) hz4 hd4).run [] _ _ H' _ S4 (yes rfl a na)) (fun g s6 hsp => ?_) fun _ _ z => z.elim
      cases g with
      | next => obtain ⟨σ6, H6, S6, q6⟩ := hsp; exact ⟨_, _, S6.unsuite ok, q6⟩
      | brk => obtain ⟨σ6, H6, S6, q6⟩ := hsp; exact ⟨_, _, S6.unsuite ok, q6⟩
      | cont => obtain ⟨σ6, H6, S6, q6⟩ := hsp; exact ⟨_, _, S6.unsuite ok, q6⟩
      | ret u => obtain ⟨v6, σ6, H6, S6, r6, q6⟩ := hsp; exact ⟨_, _, _, S6.unsuite ok, r6, q6⟩
    | false => exact ih (no rfl)
  | named hc hi hl hsu r ih =>
    intro w
    obtain ⟨b, hb, yes, no⟩ := w
    refine wpAny_handleBy_cons (codeAny_handlers_test (test hc ((look hb).here ?_))) (by intro q; cases q)
    cases b with
    | true =>
      refine codeAny_handlers_suite_as (HandSPX.lands_againZ fl fun h4 fl4 up4 => ?_)
      obtain ⟨oe4, hz4, hd4, J4, S4, he4⟩ := land fl4 (up.trans up4)
      refine store_ok (X := X.suite a ((a, oe4) :: (X.pn ++ pins))) (v := .ref a) S4 hN hi (.inl hl) rfl (fun s5 S5 => ?_) (.inr hl)
      refine wpAny_mono ((hsu a oe4 cls d (X.pn ++ pins) hz4 hd4).run [] s5 _ H' _ S5 (yes rfl a na)) (fun g s6 hsp => ?_) fun _ _ z => z.elim
      cases g with
      | next => obtain ⟨σ6, H6, S6, q6⟩ := hsp; exact gone_ok (S6.unsuite ok) hN hi hl fun s7 J7 => ⟨_, _, J7, q6⟩
      | brk => obtain ⟨σ6, H6, S6, q6⟩ := hsp; exact gone_ok (S6.unsuite ok) hN hi hl fun s7 J7 => ⟨_, _, J7, q6⟩
      | cont => obtain ⟨σ6, H6, S6, q6⟩ := hsp; exact gone_ok (S6.unsuite ok) hN hi hl fun s7 J7 => ⟨_, _, J7, q6⟩
      | ret u => obtain ⟨v6, σ6, H6, S6, r6, q6⟩ := hsp; exact gone_ok (S6.unsuite ok) hN hi hl fun s7 J7 => ⟨_, _, _, J7, r6, q6⟩
    | false => exact ih (no rfl)
theorem ps_try (hs : X.stack = X.env :: X.outer) (hf : X.env.frame = some X.env.locals) (hN : X.N.Nodup) (tk : Takes X Wout)
    (hb : ∀ (W : WX) (pn : List (Addr × Obj)) (xe : Value → Shared → Prop), Takes (X.tr pn xe) W → PassesOwn (model X.prog X.w) X.A X.env xe → PSs (X.tr pn xe) body (tb W)) (hh : Hds X (h0 :: hds) l) :
    PS X (.Try body (h0 :: hds) [] [] pos) (fun D σ H => tb (wHs X.K Wout D l) D σ H) := by
  refine ⟨fun pins s σ H D I h => ?_⟩
  have ok := I.ok
  have hfr : X.A.frames = some (X.env :: X.outer) := by rw [ok.frames, hs]
  refine wpAny_Try_except ?_
  refine wpAny_mono ((hb (wHs X.K Wout D l) (X.pn ++ pins) _ (fun u s' xx => ?_) PassesOwn.looking).run [] s σ H D (I.toTry _) h) (fun g s1 hsp => ?_) fun e s1 he => he
  · obtain ⟨a, B, sI, pins', σ', H', cls, d, rfl, J', nb, up, sky, na, os, ag, w⟩ := xx
    have J : Inv X pins σ' H' sI := J'.ofTry ok
    have sky' : Sky B (X.env :: X.outer) a (Zc cls d) X.env.locals s'.heap := by rw [← hs]; exact sky
    exact Sky.land Zc.steady hfr hf sky' fun h3 fl3 up3 => hds_go ok hs hf hN tk J nb (up.trans up3) fl3 na os ag hh w
  · cases g with
    | next => obtain ⟨σ', H', J', q⟩ := hsp; exact wpAny_execs_nil ⟨σ', H', J'.ofTry ok, q⟩
    | brk => obtain ⟨σ', H', J', q⟩ := hsp; exact ⟨σ', H', J'.ofTry ok, q⟩
    | cont => obtain ⟨σ', H', J', q⟩ := hsp; exact ⟨σ', H', J'.ofTry ok, q⟩
    | ret u => obtain ⟨v, σ', H', J', r, q⟩ := hsp; exact ⟨v, σ', H', J'.ofTry ok, r, q⟩
end
end DL
set_option Elab.async false
set_option linter.all false
set_option maxRecDepth 100000
set_option maxHeartbeats 4000000
/-! DL, part za: try over data; a caught exception's fields. -/
namespace DL
open PySem PySem.Spec PyProof.Rows L2

abbrev Ctx.on (C : Ctx) (fZ : Addr → Prop) (fH : Hp) : Ctx := ⟨C.K, C.H0, C.Fm, C.Z0, C.vs, fZ, fH, C.n⟩
section
variable {C : Ctx} {ps : Sg} {Ep : List S} {Z Z' : Addr → Prop} {σ : Sg} {E : List S} {H H' : Hp}
/-- another floor -/
theorem At.floor {fZ gZ : Addr → Prop} {fH gH : Hp} (w : At (C.on fZ fH) ps Ep Z σ E H) (st : Stp gZ gH Z H) : At (C.on gZ gH) ps Ep Z σ E H := by
  obtain ⟨hn, τ, hl, F, f⟩ := w
  exact ⟨hn, τ, hl, F, f.sl, f.nz, f.own, f.mum, f.mus, f.fr, f.z0, f.zn, f.zt, f.kt, st, f.idn⟩
theorem At.fl (w : At C ps Ep Z σ E H) : Stp C.fZ C.fH Z H := by
  obtain ⟨_, _, _, F, f⟩ := w
  exact f.fl
theorem ResAt.floor {fZ gZ : Addr → Prop} {fH gH : Hp} {v : V} {r : S} (w : ResAt (C.on fZ fH) ps Ep Z σ E H v r) (st : Stp gZ gH Z H) : ResAt (C.on gZ gH) ps Ep Z σ E H v r := by
  cases r with
  | un => exact w
  | mu t => exact w
  | fr d => exact ⟨w.1.floor st, w.2⟩
  | rf a => exact ⟨w.1.floor st, w.2⟩
  | nw a n => exact w
  | nm a n => exact w
  | ow t => exact At.floor w st
theorem ResAt.fl {fZ : Addr → Prop} {fH : Hp} {v : V} {r : S} (w : ResAt (C.on fZ fH) ps Ep Z σ E H v r) : Stp fZ fH Z H := by
  cases r with
  | un => cases w
  | mu t => cases w
  | fr d => exact w.1.fl
  | rf a => exact w.1.fl
  | nw a n => cases w
  | nm a n => cases w
  | ow t => exact At.fl w
end
/-- a clause: its class, the slot of its name, its suite's reading (of the exception, of the object at a) -/
abbrev HD := Value × Option Nat × (EX → Addr → TSD)
def goneD (o : Option Nat) (D : DEnd) : DEnd := match o with
  | none => D
  | some i => { nx := fun E => D.nx (E.set i .un), rt := D.rt, bk := fun E => D.bk (E.set i .un), ct := fun E => D.ct (E.set i .un) }
def goneL (o : Option Nat) (a : Addr) (E : List S) : List S := match o with
  | none => E
  | some i => E.set i (.fr (.kon a))
def freeL (o : Option Nat) (E : List S) : Prop := match o with
  | none => True
  | some i => S.free E[i]? = true
def xHs (K : Frg) (Wd : WdX) (D : DEnd) : List HD → WdX
  | [] => Wd
  | (c, o, t) :: r => fun x E => ∃ b, PySem.W.exmOne K (.ref x.C) c = some b ∧ (b = true → freeL o E ∧ ∀ a, t x a (goneD o D) (goneL o a E)) ∧ (b = false → xHs K Wd D r x E)
def dTry (K : Frg) (tb : WdX → TSD) (l : List HD) (Wd : WdX) : TSD := fun D E => tb (xHs K Wd D l) D E
def tsSu (C : Ctx) (t : EX → Addr → TSD) : Addr → Value → Option Addr → TS := fun a cls d Dn σ H => ∃ fZ fH x, XRep C.K fZ fH cls d x ∧ tsOf (C.on fZ fH) (t x a) Dn σ H
inductive HdD (C : Ctx) (X : Cx) : List ExceptHandler → List HD → Prop
  | nil : HdD C X [] []
  | bare {x : Str} {c : Value} {t : EX → Addr → TSD} {b0 : Stmt} {su : List Stmt} {np hp : Pos} {hds : List ExceptHandler} {l : List HD} (hc : Names X x c)
      (hs : ∀ (a : Addr) (oe : Obj) (cls : Value) (d : Option Addr) (pn : List (Addr × Obj)) (fZ : Addr → Prop) (fH : Hp) (ex : EX), Zc cls d oe → (∃ vs, oe.data = .fields vs) → XRep C.K fZ fH cls d ex → DSs (C.on fZ fH) (X.suite a ((a, oe) :: pn)) (b0 :: su) (t ex a)) (r : HdD C X hds l) :
      HdD C X (.ExceptHandler (some (.Name x np)) none (b0 :: su) hp :: hds) ((c, none, t) :: l)
  | named {x n : Str} (i : Nat) {c : Value} {t : EX → Addr → TSD} {b0 : Stmt} {su : List Stmt} {np hp : Pos} {hds : List ExceptHandler} {l : List HD} (hc : Names X x c)
      (hs : ∀ (a : Addr) (oe : Obj) (cls : Value) (d : Option Addr) (pn : List (Addr × Obj)) (fZ : Addr → Prop) (fH : Hp) (ex : EX), Zc cls d oe → (∃ vs, oe.data = .fields vs) → XRep C.K fZ fH cls d ex → DSs (C.on fZ fH) (X.suite a ((a, oe) :: pn)) (b0 :: su) (t ex a)) (r : HdD C X hds l)
      (hi : X.N[i]? = some n := by rfl) (hlt : i < C.n := by exact Nat.le_of_ble_eq_true rfl) (hl : X.env.kindOf n = some .local := by rfl) : HdD C X (.ExceptHandler (some (.Name x np)) (some n) (b0 :: su) hp :: hds) ((c, some i, t) :: l)
def specs (C : Ctx) : List HD → List HSpec
  | [] => []
  | (c, o, t) :: r => (c, o, tsSu C t) :: specs C r
section
variable {C : Ctx} {X : Cx} {body : List Stmt} {h0 : ExceptHandler} {hds : List ExceptHandler} {l : List HD} {pos : Pos} {tb : WdX → TSD} {Wd : WdX}
theorem HdD.toHds {hds : List ExceptHandler} {l : List HD} (h : HdD C X hds l) : Hds X hds (specs C l) := by
  induction h with
  | nil => exact .nil
  | bare hc hs r ih => exact .bare hc (fun a oe cls d pn hz hf => ⟨fun pins s σ H D I ⟨fZ, fH, x, xr, q⟩ => (hs a oe cls d pn fZ fH x hz hf xr).run pins s σ H D I q⟩) ih
  | named i hc hs r hi hlt hl ih => exact .named hc hi hl (fun a oe cls d pn hz hf => ⟨fun pins s σ H D I ⟨fZ, fH, x, xr, q⟩ => (hs a oe cls d pn fZ fH x hz hf xr).run pins s σ H D I q⟩) ih
theorem HdD.lt {hds : List ExceptHandler} {l : List HD} (h : HdD C X hds l) : ∀ c ∈ l, ∀ i, c.2.1 = some i → i < C.n := by
  induction h with
  | nil => intro c hc; cases hc
  | bare hc hs r ih =>
    intro c hc i e
    rcases List.mem_cons.mp hc with q | hc
    · subst q; cases e
    · exact ih c hc i e
  | named i hc hs r hi hlt hl ih =>
    intro c hc j e
    rcases List.mem_cons.mp hc with q | hc
    · subst q; cases e; exact hlt
    · exact ih c hc j e
/-- what the clauses wish, over data -/
theorem wish_of {Z : Addr → Prop} {H : Hp} {Dd : DEnd} {Dn : Ends} (f : Fits C [] [] Z H Dd Dn) (w0 : Stp C.fZ C.fH Z H) : ∀ (l : List HD), (∀ c ∈ l, ∀ i, c.2.1 = some i → i < C.n) → ∀ (cls : Value) (d : Option Addr) (σ' : Sg) (H' : Hp), wxOf (C.on Z H) (xHs C.K Wd Dd l) cls d σ' H' → wHs C.K (wxOf C Wd) Dn (specs C l) cls d σ' H'
  | [], _, cls, d, σ', H', ⟨ps, Ep, Z', E', x, w, xr, hx⟩ => ⟨ps, Ep, Z', E', x, w.floor (gZ := C.fZ) (gH := C.fH) (w0.trans w.fl), xr, hx⟩
  | (c, o, t) :: r, hlt, cls, d, σ', H', ⟨ps, Ep, Z', E', x, w, xr, b, hb, yes, no⟩ => by
    refine ⟨b, by rw [xr.1]; exact hb, fun h a na => ?_, fun h => wish_of f w0 r (fun c hc => hlt c (List.mem_cons_of_mem _ hc)) cls d σ' H' ⟨ps, Ep, Z', E', x, w, xr, no h⟩⟩
    obtain ⟨fr, q⟩ := yes h
    have st : Stp Z H Z' H' := w.fl
    have w1 : At (C.on Z' H') [] [] Z' σ' E' H' := w.drops.floor (Stp.refl _ _)
    have base : Fits (C.on Z' H') [] [] Z' H' Dd Dn := ⟨fun σ5 E5 Z5 H5 w5 s5 q5 => f.nx σ5 E5 Z5 H5 (w5.floor (gZ := C.fZ) (gH := C.fH) (w0.trans (st.trans s5))) (st.trans s5) q5, fun σ5 E5 Z5 H5 w5 s5 q5 => f.bk σ5 E5 Z5 H5 (w5.floor (gZ := C.fZ) (gH := C.fH) (w0.trans (st.trans s5))) (st.trans s5) q5,
      fun σ5 E5 Z5 H5 w5 s5 q5 => f.ct σ5 E5 Z5 H5 (w5.floor (gZ := C.fZ) (gH := C.fH) (w0.trans (st.trans s5))) (st.trans s5) q5, fun r5 σ5 E5 Z5 H5 v5 w5 s5 q5 => f.rt r5 σ5 E5 Z5 H5 v5 (w5.floor (gZ := C.fZ) (gH := C.fH) (w0.trans (st.trans s5))) (st.trans s5) q5, rfl, rfl⟩
    refine ⟨Z', H', x, xr, [], [], goneL o a E', Z', goneD o Dd, ?_, q a, ?_⟩
    · cases o with
      | none => exact w1
      | some i =>
        obtain ⟨f1, f2⟩ := free_lt fr
        exact w1.setD (hlt _ List.mem_cons_self i rfl) (.kon a) f2
    · cases o with
      | none => exact base
      | some i =>
        have fg : ∀ {σ5 : Sg} {E5 : List S} {Z5 : Addr → Prop} {H5 : Hp}, At (C.on Z' H') [] [] Z5 σ5 E5 H5 → At (C.on Z' H') [] [] Z5 (σ5.set i none) (E5.set i .un) H5 := fun {σ5 E5 Z5 H5} w5 => by
          exact w5.forget (hlt _ List.mem_cons_self i rfl)
        exact ⟨fun σ5 E5 Z5 H5 w5 s5 q5 => base.nx _ _ Z5 H5 (fg w5) s5 q5, fun σ5 E5 Z5 H5 w5 s5 q5 => base.bk _ _ Z5 H5 (fg w5) s5 q5, fun σ5 E5 Z5 H5 w5 s5 q5 => base.ct _ _ Z5 H5 (fg w5) s5 q5, base.rt, rfl, rfl⟩
theorem ds_try (hN : X.N.Nodup) (tk : Takes X (wxOf C Wd)) (hb : ∀ (fZ : Addr → Prop) (fH : Hp) (Wd' : WdX) (pn : List (Addr × Obj)) (xe : Value → Shared → Prop), Takes (X.tr pn xe) (wxOf (C.on fZ fH) Wd') → PassesOwn (model X.prog X.w) X.A X.env xe → DSs (C.on fZ fH) (X.tr pn xe) body (tb Wd'))
    (hh : HdD C X (h0 :: hds) l) (hs : X.stack = X.env :: X.outer := by rfl) (hf : X.env.frame = some X.env.locals := by rfl) (hK : X.K = C.K := by rfl) {K : Frg} (hK2 : C.K = K := by rfl) : DS C X (.Try body (h0 :: hds) [] [] pos) (dTry K tb l Wd) := by
  subst hK2
  exact (ps_try (tb := fun W Dn σ H => ∃ fZ fH Wd', (∀ cls d σ H, wxOf (C.on fZ fH) Wd' cls d σ H → W cls d σ H) ∧ tsOf (C.on fZ fH) (tb Wd') Dn σ H) hs hf hN tk
    (fun W pn xe tk' hp => ⟨fun pins s σ H D I ⟨fZ, fH, Wd', imp, q⟩ => (hb fZ fH Wd' pn xe (tk'.imp imp) hp).run pins s σ H D I q⟩) hh.toHds).imp fun Dn σ H ⟨ps, Ep, E, Z, Dd, w, h, f⟩ => by
    obtain ⟨e1, e2⟩ := f.e
    subst e1 e2
    rw [hK]
    refine ⟨Z, H, xHs C.K Wd Dd l, wish_of f w.fl l hh.lt, [], [], E, Z, Dd, w.floor (gZ := Z) (gH := H) (Stp.refl _ _), h, ?_⟩
    exact ⟨fun σ5 E5 Z5 H5 w5 s5 q5 => f.nx σ5 E5 Z5 H5 (w5.floor (gZ := C.fZ) (gH := C.fH) (w.fl.trans s5)) s5 q5, fun σ5 E5 Z5 H5 w5 s5 q5 => f.bk σ5 E5 Z5 H5 (w5.floor (gZ := C.fZ) (gH := C.fH) (w.fl.trans s5)) s5 q5,
      fun σ5 E5 Z5 H5 w5 s5 q5 => f.ct σ5 E5 Z5 H5 (w5.floor (gZ := C.fZ) (gH := C.fH) (w.fl.trans s5)) s5 q5, fun r5 σ5 E5 Z5 H5 v5 w5 s5 q5 => f.rt r5 σ5 E5 Z5 H5 v5 (w5.floor (gZ := C.fZ) (gH := C.fH) (w.fl.trans s5)) s5 q5, rfl, rfl⟩
/-! ### e.f, e the caught exception -/
def fieldX (x : EX) (f : Str) : Option D := (x.ns.zip x.ds).lookup f
theorem reps_lookup {K : Frg} {Z : Addr → Prop} {H : Hp} {f : Str} : ∀ {fs : List (Str × V)} {ds : List D} {d : D}, Reps K Z H (fs.map (·.2)) ds → ((fs.map (·.1)).zip ds).lookup f = some d → ∃ v, fs.lookup f = some v ∧ Rep K Z H v d
  | [], ds, d, r, h => by cases r; cases h
  | (g, v) :: fs, ds, d, r, h => by
    cases r with
    | cons rv rr =>
      rename_i d0 ds0
      have h : (match f == g with | true => some d0 | false => ((fs.map (·.1)).zip ds0).lookup f) = some d := h
      show ∃ w, (match f == g with | true => some v | false => fs.lookup f) = some w ∧ _
      cases e : f == g with
      | true => rw [e] at h; cases h; exact ⟨v, rfl, rv⟩
      | false => rw [e] at h; exact reps_lookup rr h
def tXfd (i : Nat) (a : Addr) (x : EX) (Cc : Addr) (f : Str) : TD := fun E Q => (E[i]? = some (.fr (.kon a)) ∧ x.C = Cc) ∧ match fieldX x f with
  | some d => Q d E
  | none => False
theorem de_exf (i : Nat) {a : Addr} {oe : Obj} {cls : Value} {d : Option Addr} {pn : List (Addr × Obj)} {fZ : Addr → Prop} {fH : Hp} {ex : EX} {Cc : Addr} {n f : Str} {np : Pos} (T : XfC X.K Cc) (hno : PySem.W.findIn X.K (.ref Cc) f = some none) (hz : Zc cls d oe) (hf : ∃ vs, oe.data = .fields vs) (xr : XRep C.K fZ fH cls d ex)
    (hi : X.N[i]? = some n := by rfl) (hlt : i < C.n := by exact Nat.le_of_ble_eq_true rfl) (hv : Vis X.env.scope n := by first | exact Or.inl rfl | exact Or.inr (Or.inl rfl) | exact Or.inr (Or.inr rfl)) (hd : (n == ("__debug__" : Str)) = false := by decide) (hcd : (n == ("__classdict__" : Str)) = false := by decide)
    (hb : attributeBase (.Name n np) f X.env (eval (.Name n np) X.env) = eval (.Name n np) X.env := by rfl) : DE (C.on fZ fH) (X.suite a ((a, oe) :: pn)) (.Attribute (.Name n np) f pos) (tXfd i a ex Cc f) :=
  (pe_xf T hno hz hf (pe_var (X := X.suite a ((a, oe) :: pn)) hi hv hd hcd) hb).imp fun σ H Q ⟨ps, Ep, E, Z, Qd, w, ⟨⟨e, hC⟩, h⟩, post⟩ => by
    obtain ⟨v, e1, r⟩ := w.get hlt e
    cases r
    split at h
    · rename_i y ey
      obtain ⟨ec, dd, fs, ed, zd, hd2, nn, rr⟩ := xr.mono w.fl
      unfold fieldX at ey
      rw [← nn] at ey
      obtain ⟨v, lv, rv⟩ := reps_lookup rr ey
      exact ⟨.ref a, e1, rfl, by rw [ec, hC], dd, fs, v, ed, hd2, lv, post _ E Z H v w (Stp.refl _ _) rv h⟩
    · cases h
end
/-- nothing is wished for: no exception comes -/
abbrev noX : WdX := fun _ _ => False
theorem takes_no {C : Ctx} {X : Cx} : Takes X (wxOf C noX) := takes0.imp fun _ _ _ _ h => by
  obtain ⟨_, _, _, _, _, _, _, h⟩ := h
  exact h
end DL
set_option Elab.async false
set_option linter.all false
set_option maxRecDepth 100000
set_option maxHeartbeats 4000000
/-! DL, part zb: dicts. -/
namespace DL
open PySem PySem.Spec PyProof.Rows L2

/-! ### data of dicts -/
def keyD : D → Option Key
  | .int i => some (.inl i)
  | .str x => some (.inr x)
  | _ => none
def getK : List Key → List D → Key → Option D
  | k0 :: ks, d :: ds, k => if k0 = k then some d else getK ks ds k
  | _, _, _ => none
def putKs (ks : List Key) (k : Key) : List Key := if ks.any (fun x => decide (x = k)) = true then ks else ks ++ [k]
def putKd (ks : List Key) (ds : List D) (k : Key) (d : D) : List D := if ks.any (fun x => decide (x = k)) = true then (ks.zip ds).map (fun p => if p.1 = k then d else p.2) else ds ++ [d]
def dKey : Key → D
  | .inl i => .int i
  | .inr x => .str x
theorem keyD_rep {K : Frg} {Z : Addr → Prop} {H : Hp} {v : V} {d : D} {k : Key} (r : Rep K Z H v d) (h : keyD d = some k) : v = kV k := by
  cases r with
  | int i => cases h; rfl
  | str x => cases h; rfl
  | _ => cases h
theorem getK_rep {K : Frg} {Z : Addr → Prop} {H : Hp} {k : Key} : ∀ {kvs : List (Key × V)} {ds : List D}, Reps K Z H (kvs.map (·.2)) ds → match getK (kvs.map (·.1)) ds k with
    | some d => ∃ v, valV kvs k = some v ∧ Rep K Z H v d
    | none => valV kvs k = none
  | [], ds, r => by cases r; exact valV_nil
  | p :: kvs, ds, r => by
    cases r with
    | cons rv rr =>
      rename_i d0 ds0
      show match (if p.1 = k then some d0 else getK (kvs.map (·.1)) ds0 k) with | some d => ∃ v, valV (p :: kvs) k = some v ∧ Rep K Z H v d | none => valV (p :: kvs) k = none
      by_cases e : p.1 = k
      · rw [if_pos e, valV_pos e]
        exact ⟨_, rfl, rv⟩
      · rw [if_neg e, valV_neg e]
        exact getK_rep rr
theorem any_fst {k : Key} : ∀ kvs : List (Key × V), (kvs.any fun kv => decide (kv.1 = k)) = (kvs.map (·.1)).any fun x => decide (x = k)
  | [] => rfl
  | p :: r => by
    show (decide (p.1 = k) || r.any _) = (decide (p.1 = k) || (r.map (·.1)).any _)
    rw [any_fst r]
theorem putK_rep {K : Frg} {Z : Addr → Prop} {H : Hp} {k : Key} {v : V} {d : D} {kvs : List (Key × V)} {ds : List D} (r : Reps K Z H (kvs.map (·.2)) ds) (rv : Rep K Z H v d) :
    (putK kvs k v).map (·.1) = putKs (kvs.map (·.1)) k ∧ Reps K Z H ((putK kvs k v).map (·.2)) (putKd (kvs.map (·.1)) ds k d) := by
  unfold putK putKs putKd
  rw [any_fst]
  split
  · refine ⟨?_, ?_⟩
    · rw [List.map_map]
      refine List.map_congr_left fun p _ => ?_
      show (if p.1 = k then (p.1, v) else p).1 = p.1
      split <;> rfl
    · have main : ∀ (kvs : List (Key × V)) (ds : List D), Reps K Z H (kvs.map (·.2)) ds → Reps K Z H ((kvs.map fun kv => if kv.1 = k then (kv.1, v) else kv).map (·.2)) (((kvs.map (·.1)).zip ds).map fun p => if p.1 = k then d else p.2) := by
        intro kvs
        induction kvs with
        | nil => intro ds r; cases r; exact .nil
        | cons p kvs ih =>
          intro ds r
          cases r with
          | cons r0 rr =>
            rename_i d0 ds0
            refine .cons ?_ (ih ds0 rr)
            show Rep K Z H (if p.1 = k then (p.1, v) else p).2 (if p.1 = k then d else d0)
            by_cases e : p.1 = k
            · rw [if_pos e, if_pos e]; exact rv
            · rw [if_neg e, if_neg e]; exact r0
      exact main _ _ r
  · rw [List.map_append, List.map_append]
    exact ⟨rfl, r.append (.one rv)⟩
theorem BRep.dic {K : Frg} {Z : Addr → Prop} {H : Hp} {v : V} {ks : List Key} {ds : List D} (h : BRep K Z H v (.dic ks ds)) : ∃ a kvs, v = .ref a ∧ H a = some (.dK kvs) ∧ kvs.map (·.1) = ks ∧ Reps K Z H (kvs.map (·.2)) ds := by
  rcases h with h | ⟨t, F, h, e⟩
  · cases h with
    | dic z h e hs => exact ⟨_, _, rfl, h, e, hs⟩
  · cases h with
    | fr h =>
      rw [show (T.fr _).fz = _ from rfl] at e
      subst e
      cases h with
      | dic z h e hs => exact ⟨_, _, rfl, h, e, hs⟩
    | lst h hs => cases e
    | dic h e1 hs => cases e; exact ⟨_, _, rfl, h, e1, hs⟩
    | obj h e1 hs => cases e

section
variable {C : Ctx} {ps : Sg} {Ep : List S} {Z Z' : Addr → Prop} {σ : Sg} {E : List S} {H H' : Hp}
theorem At.pushD (w : At C ps Ep Z σ E H) {p : Addr} {kvs : List (Key × V)} {ks : List Key} {ds : List D} (hp : H p = none) (e : kvs.map (·.1) = ks) (r : Reps C.K Z H (kvs.map (·.2)) ds) :
    Stp Z H Z (upd H p (.dK kvs)) ∧ At C (ps ++ [some (.ref p)]) (Ep ++ [.ow (.dic ks ds)]) Z σ E (upd H p (.dK kvs)) :=
  w.pushT hp (.dic upd_same e (r.mono (Stp.new w.zt hp)))
/-- an owned dict at a place: read, and written -/
theorem _root_.DL.Wd.dict {A : Sg} {B : List S} (w : Wd C Z A B H) {i : Nat} {s : S} {ks : List Key} {ds : List D} (e : B[i]? = some s) (et : s.tree? = some (.dic ks ds)) :
    ∃ a kvs, A[i]? = some (some (.ref a)) ∧ H a = some (.dK kvs) ∧ kvs.map (·.1) = ks ∧ Reps C.K Z H (kvs.map (·.2)) ds ∧
      ∀ kvs' ks' ds', kvs'.map (·.1) = ks' → Reps C.K Z H (kvs'.map (·.2)) ds' → Stp Z H Z (upd H a (.dK kvs')) ∧ Wd C Z A (B.set i (s.put (.dic ks' ds'))) (upd H a (.dK kvs')) := by
  obtain ⟨F, f⟩ := w
  obtain ⟨v, e1, r⟩ := (f.sl.rep i s e).tree et
  generalize hF : F i = G at r
  cases r with
  | dic h he hs =>
    rename_i a kvs
    have ha : a ∈ F i := by rw [hF]; simp
    refine ⟨a, kvs, getD_some e1, h, he, hs, fun kvs' ks' ds' e' r' => ?_⟩
    have st : Stp Z H Z (upd H a (.dK kvs')) := Stp.put (f.nz i a ha) h trivial
    exact ⟨st, f.over e et ha (getD_some e1) (by rw [hF]; exact TRep.dic upd_same e' (r'.mono st))⟩
theorem At.dict (w : At C ps Ep Z σ E H) {i : Nat} {s : S} {ks : List Key} {ds : List D} (hi : i < C.n) (e : E[i]? = some s) (et : s.tree? = some (.dic ks ds)) :
    ∃ a kvs, σ[i]? = some (some (.ref a)) ∧ H a = some (.dK kvs) ∧ kvs.map (·.1) = ks ∧ Reps C.K Z H (kvs.map (·.2)) ds ∧
      ∀ kvs' ks' ds', kvs'.map (·.1) = ks' → Reps C.K Z H (kvs'.map (·.2)) ds' → Stp Z H Z (upd H a (.dK kvs')) ∧ At C ps Ep Z σ (E.set i (s.put (.dic ks' ds'))) (upd H a (.dK kvs')) := by
  obtain ⟨hn, τ, hl, w⟩ := w
  have hi2 := (List.getElem?_eq_some_iff.mp e).1
  obtain ⟨a, kvs, e1, h, ek, r, k⟩ := w.dict (up_get e) et
  refine ⟨a, kvs, At.low (by omega) e1, h, ek, r, fun kvs' ks' ds' e' r' => ?_⟩
  obtain ⟨st, q⟩ := k kvs' ks' ds' e' r'
  exact ⟨st, At.over hn hl hi2 q⟩
theorem At.seen (w : At C ps Ep Z σ E H) {i : Nat} {v : V} (hlt : i < C.n) (hv : σ[i]? = some (some v)) {q : D → Prop} (h : nameAt E i q) : ∃ d, BRep C.K Z H v d ∧ q d := by
  unfold nameAt at h
  split at h
  · rename_i d e
    obtain ⟨v', e3, r⟩ := w.get hlt e
    rw [hv] at e3; cases e3
    exact ⟨d, .inl r, h⟩
  · rename_i t e
    exact ⟨_, w.brep hlt e rfl hv, h⟩
  · rename_i t e
    exact ⟨_, w.brep hlt e rfl hv, h⟩
  · cases h
end
def isKn (E : List S) (i : Nat) : Prop := match E[i]? with
  | some s => s.knownB = true
  | none => False
theorem At.knows {C : Ctx} {ps : Sg} {Ep : List S} {Z : Addr → Prop} {σ : Sg} {E : List S} {H : Hp} (w : At C ps Ep Z σ E H) {i : Nat} (hlt : i < C.n) (h : isKn E i) : ∃ v, σ[i]? = some (some v) := by
  unfold isKn at h
  split at h
  · rename_i s e
    exact w.known hlt e h
  · cases h

section
variable {C : Ctx} {X : Cx} {pos : Pos}
/-! ### d[k], k in d, of a dict at a name or of a frozen one -/
def oDG : O2 := fun x y q => match x with
  | .dic ks ds => (match keyD y with
    | some k => (match getK ks ds k with | some d => q d | none => False)
    | none => False)
  | _ => False
theorem BRep.dg {K : Frg} {Z : Addr → Prop} {H : Hp} {v w : V} {x y : D} {q : D → Prop} (rx : BRep K Z H v x) (ry : Rep K Z H w y) (h : oDG x y q) : ∃ a u, v = .ref a ∧ DGet H a w (some u) ∧ ∃ d, Rep K Z H u d ∧ q d := by
  unfold oDG at h
  split at h
  · split at h
    · rename_i k ek
      split at h
      · rename_i d ed
        obtain ⟨a, kvs, rfl, ha, e1, rs⟩ := rx.dic
        have g := getK_rep (k := k) rs
        rw [e1, ed] at g
        obtain ⟨u, eu, ru⟩ := g
        rw [keyD_rep ry ek]
        exact ⟨a, u, rfl, eu ▸ DGet.k ha, d, ru, h⟩
      · cases h
    · cases h
  · cases h
def tDGo (i : Nat) (tk : TD) : TD := fun E Q => isKn E i ∧ tk E fun k E1 => nameAt E1 i fun x => oDG x k fun d => Q d E1
theorem de_dgo (i : Nat) {x : Str} {b : Expr} {tb : TD} {pos' : Pos} (hu : X.A.units + 65 < cLine) (hb : DE C X b tb) (hN : X.N[i]? = some x := by rfl) (hlt : i < C.n := by exact Nat.le_of_ble_eq_true rfl) (hv : Vis X.env.scope x := by first | exact Or.inl rfl | exact Or.inr (Or.inl rfl) | exact Or.inr (Or.inr rfl)) (hd : (x == ("__debug__" : Str)) = false := by decide)
    (hcd : (x == ("__classdict__" : Str)) = false := by decide) (hs : NoSl b := by exact fun _ _ => rfl) : DE C X (.Subscript (.Name x pos') b pos) (tDGo i tb) :=
  (pe_dget (by omega) (pe_var hN hv hd hcd) hb hs).imp fun σ H Q ⟨ps, Ep, E, Z, Qd, w, ⟨hk, h⟩, post⟩ => by
    obtain ⟨v, e1⟩ := w.knows hlt hk
    refine ⟨v, e1, ps, Ep, E, Z, _, w, h, fun k E1 Z1 H1 u w1 st1 r1 h1 => ?_⟩
    obtain ⟨d, br, h2⟩ := w1.seen hlt e1 h1
    obtain ⟨a, z, ev, g, dd, rz, q⟩ := br.dg r1 h2
    exact ⟨a, z, ev, g, post dd E1 Z1 H1 z w1 st1 rz q⟩
theorem de_dgf {a b : Expr} {ta tb : TD} (hu : X.A.units + 65 < cLine) (ha : DE C X a ta) (hb : DE C X b tb) (hs : NoSl b := by exact fun _ _ => rfl) : DE C X (.Subscript a b pos) (tOp2 oDG ta tb) :=
  (pe_dget (by omega) ha hb hs).imp fun σ H Q ⟨ps, Ep, E, Z, Qd, w, h, post⟩ => ⟨ps, Ep, E, Z, _, w, h, fun x E1 Z1 H1 v w1 st1 r1 h1 => ⟨ps, Ep, E1, Z1, _, w1, h1, fun y E2 Z2 H2 u w2 st2 r2 h2 => by
    obtain ⟨a, z, ev, g, dd, rz, q⟩ := BRep.dg (.inl (r1.mono st2)) r2 h2
    exact ⟨a, z, ev, g, post dd E2 Z2 H2 z w2 (st1.trans st2) rz q⟩⟩⟩
/-- k in d, k not in d -/
def oDIn (neg : Bool) : O2 := fun y x q => match x with
  | .dic ks ds => (match keyD y with
    | some k => q (.bl ((getK ks ds k).isSome != neg))
    | none => False)
  | _ => False
theorem BRep.din {K : Frg} {Z : Addr → Prop} {H : Hp} {v w : V} {x y : D} {neg : Bool} {q : D → Prop} (rx : BRep K Z H v x) (ry : Rep K Z H w y) (h : oDIn neg y x q) : ∃ a o, v = .ref a ∧ DGet H a w o ∧ q (.bl (o.isSome != neg)) := by
  unfold oDIn at h
  split at h
  · split at h
    · rename_i k ek
      obtain ⟨a, kvs, rfl, ha, e1, rs⟩ := rx.dic
      have g := getK_rep (k := k) rs
      rw [e1] at g
      rw [keyD_rep ry ek]
      refine ⟨a, valV kvs k, rfl, DGet.k ha, ?_⟩
      split at g
      · rename_i d ed
        obtain ⟨u, eu, _⟩ := g
        rw [eu]
        rw [ed] at h
        exact h
      · rename_i ed
        rw [g]
        rw [ed] at h
        exact h
    · cases h
  · cases h
theorem de_din {a b : Expr} {ta tb : TD} (hu : X.A.units + 65 < cLine) (ha : DE C X a ta) (hb : DB C X b tb) (hm : behindInMarks .In b = false := by rfl) : DE C X (.Compare a [.In] [b] pos) (tOp2 (oDIn false) ta tb) :=
  (pe_cmp (pc_din (by omega) ha hb) hm).imp fun σ H Q ⟨ps, Ep, E, Z, Qd, w, h, post⟩ => ⟨ps, Ep, E, Z, _, w, h, fun x E1 Z1 H1 v w1 st1 r1 h1 => ⟨ps, Ep, E1, Z1, _, w1, h1, fun y E2 Z2 H2 u w2 st2 r2 h2 => by
    obtain ⟨a, o, ev, g, q⟩ := r2.din (r1.mono st2) h2
    exact ⟨a, o, ev, g, by rw [Bool.bne_false] at q; exact post _ E2 Z2 H2 _ w2 (st1.trans st2) (.bl _) q⟩⟩⟩
theorem dt_din {a b : Expr} {ta tb : TD} (hu : X.A.units + 65 < cLine) (ha : DE C X a ta) (hb : DB C X b tb) (hm : behindInMarks .In b = false := by rfl) : DT C X (.Compare a [.In] [b] pos) (tOp2B (oDIn false) ta tb) :=
  (pt_cmp (pc_din (by omega) ha hb) hm).imp fun σ H Q ⟨ps, Ep, E, Z, Qd, w, h, post⟩ => ⟨ps, Ep, E, Z, _, w, h, fun x E1 Z1 H1 v w1 st1 r1 h1 => ⟨ps, Ep, E1, Z1, _, w1, h1, fun y E2 Z2 H2 u w2 st2 r2 h2 => by
    obtain ⟨a, o, ev, g, q⟩ := r2.din (r1.mono st2) h2
    exact ⟨a, o, ev, g, _, rfl, by rw [Bool.bne_false] at q; exact post _ E2 Z2 H2 w2 (st1.trans st2) q⟩⟩⟩
theorem dt_dnin {a b : Expr} {ta tb : TD} (hu : X.A.units + 65 < cLine) (ha : DE C X a ta) (hb : DB C X b tb) (hm : behindInMarks .NotIn b = false := by rfl) : DT C X (.Compare a [.NotIn] [b] pos) (tOp2B (oDIn true) ta tb) :=
  (pt_cmp (pc_dnotin (by omega) ha hb) hm).imp fun σ H Q ⟨ps, Ep, E, Z, Qd, w, h, post⟩ => ⟨ps, Ep, E, Z, _, w, h, fun x E1 Z1 H1 v w1 st1 r1 h1 => ⟨ps, Ep, E1, Z1, _, w1, h1, fun y E2 Z2 H2 u w2 st2 r2 h2 => by
    obtain ⟨a, o, ev, g, q⟩ := r2.din (r1.mono st2) h2
    exact ⟨a, o, ev, g, _, rfl, by rw [Bool.bne_true] at q; exact post _ E2 Z2 H2 w2 (st1.trans st2) q⟩⟩⟩
end
end DL
set_option Elab.async false
set_option linter.all false
set_option maxRecDepth 100000
set_option maxHeartbeats 4000000
/-! DL, part zc: dicts that are made, written, copied; their keys in order. -/
namespace DL
open PySem PySem.Spec PyProof.Rows L2

/-! ### {k: v, ..} -/
def tPrs : List (TD × TD) → List S → (List (Key × D) → List S → Prop) → Prop
  | [], E, Q => Q [] E
  | (tk, tv) :: r, E, Q => tk E fun k E1 => tv E1 fun d E2 => match keyD k with
    | some k' => tPrs r E2 fun l E3 => Q ((k', d) :: l) E3
    | none => False
abbrev trsOf (C : Ctx) (l : List (TD × TD)) : List (TE × TE) := l.map fun p => (teOf C p.1, teOf C p.2)
section
variable {C : Ctx} {ps : Sg} {Ep : List S} {σ : Sg}
theorem prs_imp : ∀ (l : List (TD × TD)) {Z : Addr → Prop} {E : List S} {H : Hp} {Qd : List (Key × D) → List S → Prop} {R : List (V × V) → Hp → Prop}, At C ps Ep Z σ E H → tPrs l E Qd →
    (∀ (kds : List (Key × D)) E' Z' H' (kvs : List (Key × V)), At C ps Ep Z' σ E' H' → Stp Z H Z' H' → kvs.map (·.1) = kds.map (·.1) → Reps C.K Z' H' (kvs.map (·.2)) (kds.map (·.2)) → Qd kds E' → R (kvs.map fun kv => (kV kv.1, kv.2)) H') → tPairs (trsOf C l) σ H R
  | [], Z, E, H, Qd, R, w, h, post => post [] E Z H [] w (Stp.refl _ _) rfl .nil h
  | (tk, tv) :: r, Z, E, H, Qd, R, w, h, post =>
    ⟨ps, Ep, E, Z, _, w, h, fun k E1 Z1 H1 x w1 st1 r1 h1 => ⟨ps, Ep, E1, Z1, _, w1, h1, fun d E2 Z2 H2 y w2 st2 r2 h2 => by
      split at h2
      · rename_i k' ek
        refine prs_imp r w2 h2 fun kds E3 Z3 H3 kvs w3 st3 e3 r3 q => ?_
        have := post ((k', d) :: kds) E3 Z3 H3 ((k', y) :: kvs) w3 (st1.trans (st2.trans st3)) (by rw [List.map_cons, List.map_cons, e3]) (.cons (r2.mono st3) r3) q
        rw [keyD_rep r1 ek]
        exact this
      · cases h2⟩⟩
end
def mergeD (kds : List (Key × D)) : List Key × List D := kds.foldl (fun acc kd => (putKs acc.1 kd.1, putKd acc.1 acc.2 kd.1 kd.2)) ([], [])
theorem mergeD_rep {K : Frg} {Z : Addr → Prop} {H : Hp} : ∀ {kvs acc : List (Key × V)} {kds : List (Key × D)} {ks : List Key} {ds : List D}, acc.map (·.1) = ks → Reps K Z H (acc.map (·.2)) ds → kvs.map (·.1) = kds.map (·.1) → Reps K Z H (kvs.map (·.2)) (kds.map (·.2)) →
    (mergeK acc kvs).map (·.1) = (kds.foldl (fun acc kd => (putKs acc.1 kd.1, putKd acc.1 acc.2 kd.1 kd.2)) (ks, ds)).1 ∧ Reps K Z H ((mergeK acc kvs).map (·.2)) (kds.foldl (fun acc kd => (putKs acc.1 kd.1, putKd acc.1 acc.2 kd.1 kd.2)) (ks, ds)).2
  | [], acc, [], ks, ds, e, r, _, _ => ⟨e, r⟩
  | [], acc, _ :: _, ks, ds, e, r, e2, _ => by cases e2
  | p :: kvs, acc, [], ks, ds, e, r, e2, _ => by cases e2
  | p :: kvs, acc, q :: kds, ks, ds, e, r, e2, r2 => by
    cases r2 with
    | cons rv rr =>
      have e3 : p.1 = q.1 := (List.cons.inj e2).1
      have e4 : kvs.map (·.1) = kds.map (·.1) := (List.cons.inj e2).2
      obtain ⟨a1, a2⟩ := putK_rep (k := p.1) r rv
      rw [e, e3] at a1 a2
      have := mergeD_rep (acc := putK acc p.1 p.2) (kvs := kvs) (kds := kds) (ks := putKs ks q.1) (ds := putKd ks ds q.1 q.2) (by rw [e3]; exact a1) (by rw [e3]; exact a2) e4 rr
      exact this
section
variable {C : Ctx} {X : Cx} {pos : Pos}
abbrev DPs (C : Ctx) (X : Cx) (pos : Pos) (keys : List (Option Expr)) (values : List Expr) (l : List (TD × TD)) : Prop := PPs X pos keys values (trsOf C l)
theorem dps_nil : DPs C X pos [] [] [] := pps_nil
theorem dps_cons {k v : Expr} {ks : List (Option Expr)} {vs : List Expr} {tk tv : TD} {l : List (TD × TD)} (hk : DE C X k tk) (hv : DE C X v tv) (hr : DPs C X pos ks vs l) : DPs C X pos (some k :: ks) (v :: vs) ((tk, tv) :: l) := pps_cons hk hv hr
def tDispD (l : List (TD × TD)) : TN := fun E Q => tPrs l E fun kds E1 => kds.length ≤ 15 ∧ Q (.dic (mergeD kds).1 (mergeD kds).2) E1
theorem At.dicP {ps : Sg} {Ep : List S} {Z : Addr → Prop} {σ : Sg} {E : List S} {H : Hp} {p : Addr} {ks : List Key} {ds : List D} (w : At C (ps ++ [some (.ref p)]) (Ep ++ [.ow (.dic ks ds)]) Z σ E H) :
    ∃ kvs : List (Key × V), H p = some (.dK kvs) ∧ kvs.map (·.1) = ks ∧ Reps C.K Z H (kvs.map (·.2)) ds ∧ ∀ (kvs' : List (Key × V)) ks' ds', kvs'.map (·.1) = ks' → Reps C.K Z H (kvs'.map (·.2)) ds' →
      Stp Z H Z (upd H p (.dK kvs')) ∧ At C (ps ++ [some (.ref p)]) (Ep ++ [.ow (.dic ks' ds')]) Z σ E (upd H p (.dK kvs')) := by
  obtain ⟨hn, τ, hl, w⟩ := w
  have fl := w.len
  have e1 : (E ++ (Ep ++ [S.ow (.dic ks ds)]))[(E ++ Ep).length]? = some (.ow (.dic ks ds)) := by
    rw [← List.append_assoc, List.getElem?_append_right (Nat.le_refl _), Nat.sub_self]; rfl
  have e2 : (σ ++ τ ++ (ps ++ [some (V.ref p)]))[(E ++ Ep).length]? = some (some (.ref p)) := by
    have e : (σ ++ τ ++ ps).length = (E ++ Ep).length := by
      simp only [List.length_append, List.length_singleton] at fl ⊢
      omega
    rw [← List.append_assoc, List.getElem?_append_right (by omega), e, Nat.sub_self]; rfl
  obtain ⟨a, kvs, e3, h, ek, rs, k⟩ := w.dict e1 (ks := ks) (ds := ds) rfl
  rw [e2] at e3
  cases e3
  refine ⟨kvs, h, ek, rs, fun kvs' ks' ds' e' r' => ?_⟩
  obtain ⟨st, w2⟩ := k kvs' ks' ds' e' r'
  refine ⟨st, hn, τ, hl, ?_⟩
  rw [← List.append_assoc E, List.set_append_right _ _ (Nat.le_refl _), Nat.sub_self, List.append_assoc E] at w2
  exact w2
theorem dn_disp {keys : List (Option Expr)} {values : List Expr} {l : List (TD × TD)} (h : DPs C X pos keys values l) (h0 : keys ≠ [] := by exact List.cons_ne_nil _ _) (hall : keys.all (·.isSome) = true := by rfl) (hl : keys.length = values.length := by rfl) (h15 : keys.length ≤ 15 := by decide) : DN C X (.Dict keys values pos) (tDispD l) :=
  (pe_disp h hall hl h0 h15).imp fun σ H Q ⟨ps, Ep, E, Z, Qd, w, h, post⟩ p hp => by
    obtain ⟨st0, w0⟩ := w.pushD (ks := []) (ds := []) hp (kvs := []) rfl .nil
    refine prs_imp l w0 h fun kds E1 Z1 H1 kvs w1 st1 ek rs ⟨q1, q2⟩ => ?_
    obtain ⟨kvs0, hh, e0, _, k⟩ := w1.dicP
    have e0 : kvs0 = [] := List.map_eq_nil_iff.mp e0
    subst e0
    obtain ⟨m1, m2⟩ := mergeD_rep (K := C.K) (acc := []) (ks := []) (ds := []) rfl .nil ek rs
    obtain ⟨st2, w2⟩ := k (mergeK [] kvs) _ _ m1 m2
    have el : kvs.length = kds.length := by have := congrArg List.length ek; rw [List.length_map, List.length_map] at this; exact this
    exact ⟨hh, kvs, rfl, by rw [el]; exact q1, post _ E1 Z1 _ _ w2 (st0.trans (st1.trans st2)) q2⟩
def tDNew : TN := fun E Q => Q (.dic [] []) E
theorem dn_dnew : DN C X (.Dict [] [] pos) tDNew := pe_dnewK.imp fun σ H Q ⟨ps, Ep, E, Z, Qd, w, h, post⟩ p hp => by
  obtain ⟨st0, w0⟩ := w.pushD (ks := []) (ds := []) hp (kvs := []) rfl .nil
  exact post _ E Z _ _ w0 st0 h
/-! ### d[k] = v -/
def dicAt (E : List S) (i : Nat) (k : List Key → List D → (List Key → List D → List S) → Prop) : Prop := match E[i]? with
  | some (.ow (.dic ks ds)) => k ks ds fun ks' ds' => E.set i (.ow (.dic ks' ds'))
  | some (.mu (.dic ks ds)) => k ks ds fun ks' ds' => E.set i (.mu (.dic ks' ds'))
  | _ => False
theorem dicAt_of {E : List S} {i : Nat} {k : List Key → List D → (List Key → List D → List S) → Prop} (h : dicAt E i k) : ∃ s ks ds, E[i]? = some s ∧ s.tree? = some (.dic ks ds) ∧ k ks ds fun ks' ds' => E.set i (s.put (.dic ks' ds')) := by
  unfold dicAt at h
  split at h
  · rename_i ks ds e; exact ⟨_, ks, ds, e, rfl, h⟩
  · rename_i ks ds e; exact ⟨_, ks, ds, e, rfl, h⟩
  · cases h
def dDPut (i : Nat) (tk tv : TD) : TSD := fun D E => tv E fun d E1 => isKn E1 i ∧ tk E1 fun k E2 => dicAt E2 i fun ks ds put => match keyD k with
  | some k' => ks.length < sizeLine ∧ D.nx (put (putKs ks k') (putKd ks ds k' d))
  | none => False
theorem ds_dput (i : Nat) {x : Str} {e1 e2 : Expr} {tk tv : TD} {pos' apos : Pos} (hu : X.A.units + 65 < cLine) (hk : DE C X e1 tk) (hv : DE C X e2 tv) (hs : swapsWith e2 (some (.Subscript (.Name x pos') e1 apos)) pos.line X.env = pure false := by rfl) (hN : X.N[i]? = some x := by rfl) (hlt : i < C.n := by exact Nat.le_of_ble_eq_true rfl)
    (hvi : Vis X.env.scope x := by first | exact Or.inl rfl | exact Or.inr (Or.inl rfl) | exact Or.inr (Or.inr rfl)) (hd : (x == ("__debug__" : Str)) = false := by decide) (hcd : (x == ("__classdict__" : Str)) = false := by decide) : DS C X (.Assign [.Subscript (.Name x pos') e1 apos] e2 pos) (dDPut i tk tv) :=
  (ps_dput (by omega) (pe_var hN hvi hd hcd) hk hv hs).imp fun Dn σ H ⟨ps, Ep, E, Z, Dd, w, h, f⟩ => ⟨ps, Ep, E, Z, _, w, h, fun d E1 Z1 H1 v w1 st1 r1 ⟨kn, h1⟩ => by
    obtain ⟨x, ex⟩ := w1.knows hlt kn
    refine ⟨x, ex, ps, Ep, E1, Z1, _, w1, h1, fun k E2 Z2 H2 u w2 st2 r2 h2 => ?_⟩
    obtain ⟨s, ks, ds, e1, e2, h2⟩ := dicAt_of h2
    obtain ⟨a, kvs, e3, ha, ek, rs, kk⟩ := w2.dict hlt e1 e2
    rw [ex] at e3; cases e3
    split at h2
    · rename_i k' eq
      obtain ⟨p1, p2⟩ := putK_rep (k := k') rs (r1.mono st2)
      rw [ek] at p1 p2
      obtain ⟨st3, w3⟩ := kk _ _ _ p1 p2
      have ll : kvs.length = ks.length := by rw [← ek, List.length_map]
      rw [keyD_rep r2 eq]
      exact ⟨a, _, rfl, DPut.k ha (by rw [ll]; exact h2.1), f.nx _ _ Z2 _ w3 (st1.trans (st2.trans st3)) h2.2⟩
    · cases h2⟩
/-! ### dict(d), sorted(d) -/
def tDCopy (t : TD) : TN := fun E Q => t E fun d E1 => match d with
  | .dic ks ds => Q (.dic ks ds) E1
  | _ => False
theorem dn_dcopy {x : Str} {e : Expr} {t : TD} {p : Pos} (hm : X.mg x = none) (he : DB C X e t) (hv : bootBuiltins x = some (.type "dict") := by first | rfl | decide +kernel) (hg : Gl X x := by rfl) (hn : x ≠ "__name__" := by decide) (hdb : (x == ("__debug__" : Str)) = false := by decide)
    (hs : starEach [e] X.env = (false, eval e X.env) :: starEach [] X.env := by rfl) (hpl : (backTo pos (starEach [] X.env)).any (·.1) = false := by rfl) : DN C X (.Call (.Name x p) [e] [] pos) (tDCopy t) :=
  (pe_callTy call_dictD hg hm hv (pa_cons he pa_nil hs) hn hdb hs hpl).imp fun σ H Q ⟨ps, Ep, E, Z, Qd, w, h, post⟩ => ⟨ps, Ep, E, Z, _, w, h, fun d E1 Z1 H1 v w1 st1 r1 h1 => by
    split at h1
    · obtain ⟨a, kvs, rfl, ha, ek, rs⟩ := r1.dic
      refine ⟨a, kvs, rfl, .inl ha, fun p hp => ?_⟩
      obtain ⟨st2, w2⟩ := w1.pushD hp ek rs
      exact post _ E1 Z1 _ _ w2 (st1.trans st2) h1
    · cases h1⟩
def tDSorted (t : TD) : TN := fun E Q => t E fun d E1 => match d with
  | .dic ks _ => ∃ xs : List Str, ks = xs.map Sum.inr ∧ xs.length < 64 ∧ ∀ ys : List Str, ys.Perm xs → sortedS ys = true → Q (.lst (ys.map D.str)) E1
  | _ => False
theorem reps_strs {K : Frg} {Z : Addr → Prop} {H : Hp} : ∀ xs : List Str, Reps K Z H (xs.map V.str) (xs.map D.str)
  | [] => .nil
  | x :: xs => .cons (.str x) (reps_strs xs)
theorem dn_dsorted {x : Str} {e : Expr} {t : TD} {p : Pos} (hm : X.mg x = none) (he : DB C X e t) (hc : X.calm = true := by rfl) (hv : bootBuiltins x = some (.builtin "sorted") := by first | rfl | decide +kernel) (hg : Gl X x := by rfl) (hn : x ≠ "__name__" := by decide) (hdb : (x == ("__debug__" : Str)) = false := by decide)
    (hs : starEach [e] X.env = (false, eval e X.env) :: starEach [] X.env := by rfl) (hpl : (backTo pos (starEach [] X.env)).any (·.1) = false := by rfl) : DN C X (.Call (.Name x p) [e] [] pos) (tDSorted t) :=
  (pe_callB (call_sortedD hc) hg hm hv (pa_cons he pa_nil hs) hn hdb hs hpl).imp fun σ H Q ⟨ps, Ep, E, Z, Qd, w, h, post⟩ => ⟨ps, Ep, E, Z, _, w, h, fun d E1 Z1 H1 v w1 st1 r1 h1 => by
    split at h1
    · obtain ⟨xs, e1, e2, h1⟩ := h1
      obtain ⟨a, kvs, rfl, ha, ek, rs⟩ := r1.dic
      refine ⟨a, kvs, xs, rfl, .inl ha, ek.trans e1, e2, fun ys p h3 h4 hp => ?_⟩
      obtain ⟨st2, w2⟩ := w1.push hp (reps_strs ys)
      exact post _ E1 Z1 _ _ w2 (st1.trans st2) (h1 ys h3 h4)
    · cases h1⟩
end
end DL
set_option Elab.async false
set_option linter.all false
set_option maxRecDepth 100000
set_option maxHeartbeats 4000000
/-! DL, part zd: objects of the text's own classes. -/
namespace DL
open PySem PySem.Spec PyProof.Rows L2

/-! ### e.f -/
def fldD : List Str → List D → Str → Option D
  | g :: ns, d :: ds, f => if g = f then some d else fldD ns ds f
  | _, _, _ => none
theorem fldD_rep {K : Frg} {Z : Addr → Prop} {H : Hp} {f : Str} {d : D} : ∀ {fs : List (Str × V)} {ds : List D}, Reps K Z H (fs.map (·.2)) ds → fldD (fs.map (·.1)) ds f = some d → ∃ v, fs.lookup f = some v ∧ Rep K Z H v d
  | [], ds, r, h => by cases r; cases h
  | (g, v) :: fs, ds, r, h => by
    cases r with
    | cons rv rr =>
      rename_i d0 ds0
      have h : (if g = f then some d0 else fldD (fs.map (·.1)) ds0 f) = some d := h
      show ∃ w, (match f == g with | true => some v | false => fs.lookup f) = some w ∧ _
      by_cases e : g = f
      · rw [if_pos e] at h
        cases h
        have : (f == g) = true := by rw [e]; simp
        rw [this]
        exact ⟨v, rfl, rv⟩
      · rw [if_neg e] at h
        have : (f == g) = false := by simpa using fun q => e q.symm
        rw [this]
        exact fldD_rep rr h
/-- what the text's end says of a class and the names of its fields -/
structure Own (K : Frg) (mg : Str → Option Value) (x : Str) (C fI : Addr) (fs : List Str) : Prop where
  cl : Cls K C
  mkr : Mk K C fI
  m : mg x = some (.ref C)
  no : ∀ f ∈ fs, NoAttr K C f
section
variable {C : Ctx} {X : Cx} {pos : Pos} {Cc fI : Addr} {x f : Str} {fs : List Str}
def tAttrD (Cc : Addr) (f : Str) (t : TD) : TD := fun E Q => t E fun d E1 => match d with
  | .obj C' ns ds => C' = Cc ∧ match fldD ns ds f with
    | some y => Q y E1
    | none => False
  | _ => False
theorem de_attr {e : Expr} {t : TD} (O : Own X.K X.mg x Cc fI fs) (he : DE C X e t) (hf : f ∈ fs := by decide) (hb : attributeBase e f X.env (eval e X.env) = eval e X.env := by rfl) : DE C X (.Attribute e f pos) (tAttrD Cc f t) :=
  (pe_fld he hb).imp fun σ H Q ⟨ps, Ep, E, Z, Qd, w, h, post⟩ => ⟨ps, Ep, E, Z, _, w, h, fun d E1 Z1 H1 v w1 st1 r1 h1 => by
    split at h1
    · obtain ⟨rfl, h1⟩ := h1
      cases r1 with
      | obj z ha en rs =>
        split at h1
        · rename_i y ey
          rw [← en] at ey
          obtain ⟨u, lu, ru⟩ := fldD_rep rs ey
          exact ⟨_, _, _, _, u, rfl, ha, O.cl, O.no f hf, lu, post y E1 Z1 H1 u w1 st1 ru h1⟩
        · cases h1
    · cases h1⟩
/-! ### self.f = e, in an __init__: the fields so far, a new one -/
theorem putF_new {f : Str} {v : V} : ∀ {fs : List (Str × V)}, (fs.map (·.1)).contains f = false → putF f v fs = fs ++ [(f, v)]
  | [], _ => rfl
  | (g, y) :: fs, h => by
    have h : (f == g || (fs.map (·.1)).contains f) = false := by simpa [List.contains_cons] using h
    rw [Bool.or_eq_false_iff] at h
    show (if g = f then _ else (g, y) :: putF f v fs) = _
    rw [if_neg (fun e => by rw [e] at h; simp at h), putF_new h.2]
    rfl
theorem TReps.app {K : Frg} {Z : Addr → Prop} {H : Hp} : ∀ {vs : List V} {ts : List T} {F : List Addr} {v : V} {t : T} {G : List Addr}, TReps K Z H vs ts F → TRep K Z H v t G → TReps K Z H (vs ++ [v]) (ts ++ [t]) (F ++ G)
  | _, _, _, _, _, _, .nil, r => by
    have := TReps.cons r .nil
    rw [List.append_nil] at this
    exact this
  | _, _, _, _, _, _, .cons r0 rr, r => by
    rw [List.append_assoc]
    exact .cons r0 (TReps.app rr r)
/-- the object at a name, owned or lent -/
def objAt (E : List S) (i : Nat) (k : Addr → List Str → List T → (List Str → List T → List S) → Prop) : Prop := match E[i]? with
  | some (.ow (.obj C' ns ts)) => k C' ns ts fun ns' ts' => E.set i (.ow (.obj C' ns' ts'))
  | some (.mu (.obj C' ns ts)) => k C' ns ts fun ns' ts' => E.set i (.mu (.obj C' ns' ts'))
  | _ => False
theorem objAt_of {E : List S} {i : Nat} {k : Addr → List Str → List T → (List Str → List T → List S) → Prop} (h : objAt E i k) : ∃ s C' ns ts, E[i]? = some s ∧ s.tree? = some (.obj C' ns ts) ∧ k C' ns ts fun ns' ts' => E.set i (s.put (.obj C' ns' ts')) := by
  unfold objAt at h
  split at h
  · rename_i C' ns ts e; exact ⟨_, C', ns, ts, e, rfl, h⟩
  · rename_i C' ns ts e; exact ⟨_, C', ns, ts, e, rfl, h⟩
  · cases h
/-- a field of data is stored into the object at a name -/
theorem At.fieldD {ps : Sg} {Ep : List S} {Z : Addr → Prop} {σ : Sg} {E : List S} {H : Hp} (w : At C ps Ep Z σ E H) {i : Nat} {s : S} {C' : Addr} {ns : List Str} {ts : List T} (hi : i < C.n) (e : E[i]? = some s) (et : s.tree? = some (.obj C' ns ts)) :
    ∃ a dx fs, σ[i]? = some (some (.ref a)) ∧ H a = some (.ins C' dx fs) ∧ fs.map (·.1) = ns ∧ ∀ f v d, ns.contains f = false → Rep C.K Z H v d →
      Stp Z H Z (upd H a (.ins C' dx (putF f v fs))) ∧ At C ps Ep Z σ (E.set i (s.put (.obj C' (ns ++ [f]) (ts ++ [.fr d])))) (upd H a (.ins C' dx (putF f v fs))) := by
  obtain ⟨hn, τ, hl, F, g⟩ := w
  obtain ⟨v, e1, r⟩ := (g.sl.rep i s (up_get e)).tree et
  have hi2 := (List.getElem?_eq_some_iff.mp e).1
  generalize hF : F i = G at r
  cases r with
  | obj h he hs =>
    rename_i a dx fs F0
    have ha : a ∈ F i := by rw [hF]; simp
    refine ⟨a, dx, fs, At.low (by omega) (getD_some e1), h, he, fun f y d nc rd => ?_⟩
    have st : Stp Z H Z (upd H a (.ins C' dx (putF f y fs))) := Stp.put (g.nz i a ha) h trivial
    have hn2 : a ∉ F0 := by
      have := g.sl.nd i
      rw [hF] at this
      exact (List.nodup_cons.mp this).1
    have eq : putF f y fs = fs ++ [(f, y)] := putF_new (by rw [he]; exact nc)
    have hs2 : TReps C.K Z (upd H a (.ins C' dx (putF f y fs))) (fs.map (·.2)) ts F0 := hs.mono st fun b hb => upd_ne fun q => hn2 (q ▸ hb)
    have hr : TReps C.K Z (upd H a (.ins C' dx (putF f y fs))) ((putF f y fs).map (·.2)) (ts ++ [.fr d]) F0 := by
      have := TReps.app hs2 (TRep.fr (rd.mono st))
      rw [List.append_nil] at this
      rw [show (putF f y fs).map (·.2) = fs.map (·.2) ++ [y] by rw [eq, List.map_append]; rfl]
      exact this
    exact ⟨st, At.over hn hl hi2 (g.over (up_get e) et ha (getD_some e1) (by rw [hF]; exact TRep.obj (ns := ns ++ [f]) upd_same (by rw [eq, List.map_append, he]; rfl) hr))⟩
/-- self.f = e, data -/
def dFieldD (i : Nat) (Cc : Addr) (f : Str) (t : TD) : TSD := fun D E => t E fun d E1 => objAt E1 i fun C' ns ts put => C' = Cc ∧ (ns.contains f = false ∧ ns.length < 900) ∧ D.nx (put (ns ++ [f]) (ts ++ [.fr d]))
theorem ds_fieldD (i : Nat) {y : Str} {e : Expr} {t : TD} {pos' apos : Pos} (cl : Cls X.K Cc) (no : NoAttr X.K Cc f) (he : DE C X e t) (hs : swapsWith e (some (.Attribute (.Name y pos') f apos)) pos.line X.env = pure false := by rfl) (hN : X.N[i]? = some y := by rfl) (hlt : i < C.n := by exact Nat.le_of_ble_eq_true rfl)
    (hvi : Vis X.env.scope y := by first | exact Or.inl rfl | exact Or.inr (Or.inl rfl) | exact Or.inr (Or.inr rfl)) (hd : (y == ("__debug__" : Str)) = false := by decide) (hcd : (y == ("__classdict__" : Str)) = false := by decide) : DS C X (.Assign [.Attribute (.Name y pos') f apos] e pos) (dFieldD i Cc f t) :=
  (ps_fld (pe_var hN hvi hd hcd) he hs).imp fun Dn σ H ⟨ps, Ep, E, Z, Dd, w, h, ft⟩ => ⟨ps, Ep, E, Z, _, w, h, fun d E1 Z1 H1 v w1 st1 r1 h1 => by
    obtain ⟨s, C', ns, ts, e1, e2, ec, ⟨nc, hl⟩, q⟩ := objAt_of h1
    subst ec
    obtain ⟨a, dx, fs, e3, ha, ef, k⟩ := w1.fieldD hlt e1 e2
    obtain ⟨st2, w2⟩ := k f v d nc r1
    have ll : fs.length = ns.length := by rw [← ef, List.length_map]
    exact ⟨.ref a, e3, a, C', dx, fs, rfl, ha, cl, no, by omega, ft.nx _ _ Z1 _ w2 (st1.trans st2) q⟩⟩
end
end DL
set_option Elab.async false
set_option linter.all false
set_option maxRecDepth 100000
set_option maxHeartbeats 4000000
/-! DL, part ze: an object is made. -/
namespace DL
open PySem PySem.Spec PyProof.Rows L2

section
variable {X : Cx} {CX : CXT} {k : Nat} {f C : Addr} {fd : FuncData} {prs : List Str} {sp : Sp}
/-- C(..): its __init__ runs, what that raises is wished for at the caller's slots -/
theorem make_at {W : WX} {pins : List (Addr × Obj)} {σ : Sg} {H : Hp} {s : Shared} {Q : VK} {us : List Value} {vs : List V} (M : Mk X.K C f) (F : FnOk X.prog X.w X.K X.mg X.base CX k f fd prs sp) (hr : Room (k + 1) X.A) (hb : Binds X.K fd prs []) (hx : PassesAt CX X σ (WE W σ)) (I : Inv X pins σ H s) (r : Vals vs us)
    (h : ∀ x dx, H x = none → H dx = none → dx ≠ x → sp (.ref x :: vs) (upd (upd H dx (.own x)) x (.ins C dx [])) (fun v H2 => v = .non ∧ Q (.ref x) H2) (WE W σ)) : wpAny (model X.prog X.w) X.A (call (.ref C) us) (EP X pins σ Q) X.xe s := by
  have q0 := h (s.heap.objs.size + 1) s.heap.objs.size (I.hok.fresh (Nat.le_succ _)) (I.hok.fresh (Nat.le_refl _)) (Nat.ne_of_lt (Nat.lt_succ_self _))
  have I2 := Inv.made (C := C) I
  have r2 : Vals (V.ref (s.heap.objs.size + 1) :: vs) (Value.ref (s.heap.objs.size + 1) :: us) := .cons rfl r
  have hl : (Value.ref (s.heap.objs.size + 1) :: us).length = prs.length := by
    rw [← r2.length]
    exact F.len _ _ _ _ q0
  have bb := hb _ (Value.ref (s.heap.objs.size + 1) :: us) I2.kIn (by rw [List.append_nil]; exact hl)
  rw [List.append_nil] at bb
  refine wpAny_call (make_map (f := f) I.kIn M.makes M.init (beq_iff_eq.mp M.fn) (codeAny_mono (F.run _ X.stack _ _ _ _ _ _ _ (hr.make C us []) (I2.env0.make C us []) bb r2 q0) fun r s' hq => ?_))
  cases r with
  | error e => exact hx pins _ _ e s' I2 hq
  | ok g =>
    cases g with
    | ret u =>
      obtain ⟨v, H', I3, rv, ev, q3⟩ := I2.after hq
      subst ev
      exact ⟨rv, V.ref (s.heap.objs.size + 1), H', I3, rfl, q3⟩
    | next => exact hq.elim
    | brk => exact hq.elim
    | cont => exact hq.elim
def tMakeW (C : Addr) (sp : Sp) (W : WX) (t : TA) : TE := fun σ H Q => t σ H fun vs H1 => ∀ x dx, H1 x = none → H1 dx = none → dx ≠ x → sp (.ref x :: vs) (upd (upd H1 dx (.own x)) x (.ins C dx [])) (fun v H2 => v = .non ∧ Q (.ref x) H2) (WE W σ)
theorem pe_makeW {W : WX} {x : Str} {e : Expr} {es : List Expr} {t : TA} {p pos : Pos} (M : Mk X.K C f) (F : FnOk X.prog X.w X.K X.mg X.base CX k f fd prs sp) (hr : Room (k + 1) X.A) (hg : Gl X x) (hm : X.mg x = some (.ref C)) (hb : Binds X.K fd prs []) (hx : ∀ σ, PassesAt CX X σ (WE W σ)) (ha : PA X (e :: es) t)
    (hdb : (x == ("__debug__" : Str)) = false := by decide) (he : starEach (e :: es) X.env = (false, eval e X.env) :: starEach es X.env := by rfl) (hpl : (backTo pos (starEach es X.env)).any (·.1) = false := by rfl) : PE X (.Call (.Name x p) (e :: es) [] pos) (tMakeW C sp W t) := by
  refine ⟨fun pins s σ H Q I h => wpAny_Call_Name_kw (ld_glob I hg hm ?_ hdb)⟩
  exact PySem.W.callWith_K (h₀ := X.base) I.ok.mod.kin M.kp (thn (ha.run pos pins s σ H _ I h) fun us s1 ⟨vs, H1, I1, r, q⟩ => ⟨I1.kIn, make_at M F hr hb (hx σ) I1 r q⟩) he hpl
end

/-! ### over data -/
section
variable {K : Frg} {Z : Addr → Prop} {σ τ : Sg} {H : Hp}
theorem ArgsOk.low : ∀ {vs : List V} {as : List AM} {j : Nat}, ArgsOk K Z σ H vs as → σ.length ≤ j → (msOf as).contains j = false ∧ whoAt as j = none
  | _, _, j, .nil, _ => ⟨rfl, rfl⟩
  | _, _, j, .d r h, hj => by
    obtain ⟨a, b⟩ := h.low hj
    refine ⟨a, ?_⟩
    show (whoAt _ j).map (· + 1) = none
    rw [b]; rfl
  | _, _, j, .rx h, hj => by
    obtain ⟨a, b⟩ := h.low hj
    refine ⟨a, ?_⟩
    show (whoAt _ j).map (· + 1) = none
    rw [b]; rfl
  | _, _, j, .m (i := i) e h, hj => by
    obtain ⟨a, b⟩ := h.low hj
    have hi : i < σ.length := (List.getElem?_eq_some_iff.mp e).1
    refine ⟨?_, ?_⟩
    · show (i :: msOf _).contains j = false
      rw [List.contains_cons, a, Bool.or_false]
      simpa using fun q : j = i => by omega
    · show (if i = j then some 0 else (whoAt _ j).map (· + 1)) = none
      rw [if_neg (by omega), b]; rfl
theorem argS_app {E T : List S} : ∀ {vs : List V} {as : List AM}, ArgsOk K Z σ H vs as → σ.length = E.length → as.map (argS (E ++ T)) = as.map (argS E)
  | _, _, .nil, _ => rfl
  | _, _, .d r h, hl => by rw [List.map_cons, List.map_cons, argS_app h hl]; rfl
  | _, _, .rx h, hl => by rw [List.map_cons, List.map_cons, argS_app h hl]; rfl
  | _, _, .m (i := i) e h, hl => by
    rw [List.map_cons, List.map_cons, argS_app h hl]
    congr 1
    unfold argS
    dsimp only
    rw [List.getElem?_append_left (by rw [← hl]; exact (List.getElem?_eq_some_iff.mp e).1)]
end
section
variable {C : Ctx} {X : Cx} {pos : Pos} {CX : CXT} {k : Nat} {Cc fI : Addr} {fd : FuncData} {prs fs : List Str} {sx : SpX} {x : Str} {p : Pos} {e : Expr} {es : List Expr} {ta : TAm} {Wd : WdX}
/-- C(e, ..): an object of one's own, as __init__ has left it -/
def tMakeD (Cc : Addr) (sx : SpX) (Wd : WdX) (ta : TAm) : TN := fun E Q => ta E fun as E1 => apart (msOf as) = true ∧ sx (.mu (.obj Cc [] []) :: as.map (argS E1)) (fun r Em => match r, Em with
  | .fr .non, .mu t :: Em' => Q t (backL as Em' 0 E1)
  | _, _ => False) fun ex Em => Wd ex (backL as Em.tail 0 E1)
theorem backL_app (as : List AM) (Em : List S) : ∀ (j : Nat) (A B : List S), backL as Em j (A ++ B) = backL as Em j A ++ backL as Em (j + A.length) B
  | _, [], B => rfl
  | j, s :: A, B => by
    show backAt as Em j s :: backL as Em (j + 1) (A ++ B) = backAt as Em j s :: (backL as Em (j + 1) A ++ _)
    rw [backL_app as Em (j + 1) A B, List.length_cons, show j + 1 + A.length = j + (A.length + 1) by omega]
theorem backL_low {J : Nat} (as : List AM) (Em : List S) : ∀ (j : Nat) (E : List S), j + E.length ≤ J → backL (.m J :: as) Em j E = backL as Em.tail j E
  | _, [], _ => rfl
  | j, s :: E, h => by
    rw [List.length_cons] at h
    show backAt (.m J :: as) Em j s :: _ = backAt as Em.tail j s :: _
    rw [backL_low as Em (j + 1) E (by omega)]
    congr 1
    have w : whoAt (.m J :: as) j = (whoAt as j).map (· + 1) := by
      show (if J = j then some 0 else (whoAt as j).map (· + 1)) = _
      rw [if_neg (by omega)]
    unfold backAt
    rw [w]
    cases whoAt as j with
    | none => rfl
    | some k =>
      have e : Em[k + 1]? = Em.tail[k]? := by cases Em <;> rfl
      show (match s with | .un => S.un | .fr d => .fr d | .rf a => .rf a | s => match Em[k + 1]? with | some m => (S.bk s m).getD .un | none => .un) = (match s with | .un => S.un | .fr d => .fr d | .rf a => .rf a | s => match Em.tail[k]? with | some m => (S.bk s m).getD .un | none => .un)
      rw [e]
theorem backL_same {as : List AM} {Em : List S} : ∀ (j : Nat) (E : List S), (∀ l, j ≤ l → whoAt as l = none) → backL as Em j E = E
  | _, [], _ => rfl
  | j, s :: E, h => by
    show backAt as Em j s :: _ = _
    rw [backL_same (j + 1) E fun l hl => h l (by omega)]
    congr 1
    unfold backAt
    rw [h j (Nat.le_refl _)]
theorem backL_make {as : List AM} {Em : List S} {E U : List S} {o t : T} (low : ∀ j, E.length ≤ j → whoAt as j = none) : backL (.m (E ++ U).length :: as) (.mu t :: Em) 0 (E ++ (U ++ [S.ow o])) = backL as Em 0 E ++ (U ++ [S.ow t]) := by
  rw [backL_app, backL_app, backL_low as _ 0 E (by rw [List.length_append]; omega)]
  congr 1
  congr 1
  · rw [backL_low as _ _ U (by rw [List.length_append]; omega)]
    exact backL_same _ _ fun l hl => low l (by omega)
  · show [backAt _ _ _ _] = [S.ow t]
    unfold backAt
    have w : whoAt (.m (E ++ U).length :: as) (0 + E.length + U.length) = some 0 := by
      show (if (E ++ U).length = _ then some 0 else _) = some 0
      rw [if_pos (by rw [List.length_append]; omega)]
    rw [w]
    rfl
/-- the first places alone -/
theorem At0.first {Z : Addr → Prop} {σ τ : Sg} {A B : List S} {H : Hp} (w : At0 C [] [] Z (σ ++ τ) (A ++ B) H) (hl : σ.length = A.length) : At0 C [] [] Z σ A H := by
  obtain ⟨_, F, f⟩ := w
  rw [List.append_nil, List.append_nil] at f
  refine ⟨hl, ?_⟩
  rw [List.append_nil, List.append_nil]
  refine f.re (fun j => j) hl (fun j s e => .inr ⟨up_get e, ?_, fun _ => rfl⟩) fun _ _ _ _ _ _ _ _ e => e
  exact (getD_left (a := σ) (b := τ) (by have := (List.getElem?_eq_some_iff.mp e).1; omega)).symm
theorem dn_make (O : Own X.K X.mg x Cc fI fs) (G : FnOk X.prog X.w X.K X.mg X.base CX k fI fd prs (spX X.K prs.length sx)) (hx : ∀ σ, PassesAt CX X σ (WE (wxOf C Wd) σ)) (b : Binds X.K fd prs []) (hr : Room (k + 1) X.A) (ha : DM C X (e :: es) ta) (hn : prs.length = (e :: es).length + 1 := by rfl) (hg : Gl X x := by rfl) (hK : X.K = C.K := by rfl)
    (hdb : (x == ("__debug__" : Str)) = false := by decide) (he : starEach (e :: es) X.env = (false, eval e X.env) :: starEach es X.env := by rfl) (hpl : (backTo pos (starEach es X.env)).any (·.1) = false := by rfl) : DN C X (.Call (.Name x p) (e :: es) [] pos) (tMakeD Cc sx Wd ta) :=
  (pe_makeW O.mkr G hr hg O.m b hx ha hdb he hpl).imp fun σ H Q ⟨ps, Ep, E, Z, Qd, w, h, post⟩ => ⟨ps, Ep, E, Z, _, w, h, fun as E1 Z1 H1 vs w1 st1 ok hl ⟨ap, h1⟩ a dx ha hdx hne => by
    rw [hK]
    have w2 := w1.new (o := .own a) hdx
    have st2 : Stp Z1 H1 Z1 (upd H1 dx (.own a)) := Stp.new w1.zt hdx
    have ha2 : upd H1 dx (.own a) a = none := by rw [upd_ne (Ne.symm hne)]; exact ha
    have st3 : Stp Z1 (upd H1 dx (.own a)) Z1 (upd (upd H1 dx (.own a)) a (.ins Cc dx [])) := Stp.new w2.zt ha2
    have w3 : At C (ps ++ [some (.ref a)]) (Ep ++ [.ow (.obj Cc [] [])]) Z1 σ E1 (upd (upd H1 dx (.own a)) a (.ins Cc dx [])) := (w2.pushT (t := .obj Cc [] []) ha2 (.obj (fs := []) upd_same rfl .nil)).2
    obtain ⟨hn1, τ, hl1, W3⟩ := w3.zero
    have hσ : σ.length ≤ E1.length := by rw [← hl1, List.length_append]; omega
    have fl := W3.len
    have e1 : (E1 ++ (Ep ++ [S.ow (.obj Cc [] [])]))[(E1 ++ Ep).length]? = some (.ow (.obj Cc [] [])) := by
      rw [← List.append_assoc, List.getElem?_append_right (Nat.le_refl _), Nat.sub_self]; rfl
    have e2 : (σ ++ τ ++ (ps ++ [some (V.ref a)]))[(E1 ++ Ep).length]? = some (some (.ref a)) := by
      have e : (σ ++ τ ++ ps).length = (E1 ++ Ep).length := by
        simp only [List.length_append, List.length_singleton] at fl ⊢
        omega
      rw [← List.append_assoc, List.getElem?_append_right (by omega), e, Nat.sub_self]; rfl
    have okT : ArgsOk C.K Z1 (σ ++ τ) H1 vs as := ok.lift
    have ok2 : ArgsOk C.K Z1 (σ ++ τ ++ (ps ++ [some (.ref a)])) (upd (upd H1 dx (.own a)) a (.ins Cc dx [])) (.ref a :: vs) (.m (E1 ++ Ep).length :: as) := .m e2 (okT.mono (st2.trans st3)).lift
    have hJ : σ.length ≤ (E1 ++ Ep).length := by rw [List.length_append]; omega
    have lowJ := ok.low hJ
    have ap2 : apart (msOf (.m (E1 ++ Ep).length :: as)) = true := by
      show (!(msOf as).contains (E1 ++ Ep).length && apart (msOf as)) = true
      rw [lowJ.1, ap]; rfl
    obtain ⟨F, f⟩ := W3
    obtain ⟨g1, g2, g3⟩ := call_go (ps := []) (Ep := []) (by rw [List.append_nil, List.append_nil]; exact f) fl ok2 ap2
    have es : (AM.m (E1 ++ Ep).length :: as).map (argS (E1 ++ (Ep ++ [.ow (.obj Cc [] [])]))) = .mu (.obj Cc [] []) :: as.map (argS E1) := by
      rw [List.map_cons, argS_app okT hl1]
      congr 1
      show (match (E1 ++ (Ep ++ [S.ow (.obj Cc [] [])]))[(E1 ++ Ep).length]? with | some (.ow t) => S.mu t | some (.mu t) => .mu t | some (.fr d) => .fr d | some (.rf a) => .rf a | some (.nw a n) => .nm a n | some (.nm a n) => .nm a n | _ => .un) = _
      rw [e1]
    rw [es] at g1
    have back : ∀ {t : T} {Em' : List S}, backL (.m (E1 ++ Ep).length :: as) (.mu t :: Em') 0 (E1 ++ (Ep ++ [.ow (.obj Cc [] [])])) = backL as Em' 0 E1 ++ (Ep ++ [.ow t]) := backL_make fun j hj => (ok.low (by omega)).2
    refine ⟨Z1, _, _, _, _, by rw [List.length_cons, ok.length, hl, hn], g1, g2, f.zt, fun i t q => ?_, h1, fun r Em Z' H' v R q => ?_, fun ex Em Z' H' cls d wA xr hw => ?_⟩
    · cases i with
      | zero => cases q; rfl
      | succ i => exact argS_no i t q
    · split at q
      · rename_i t Em'
        obtain ⟨st5, R2⟩ := g3 _ _ Z' H' v R
        cases R2.2
        refine ⟨rfl, ?_⟩
        have w6 := R2.1.2
        rw [back, List.append_nil, List.append_nil] at w6
        refine post t _ Z' H' _ ⟨hn1, τ, by rw [backL_length, ← hl1, List.length_append], w6⟩ (st1.trans (st2.trans (st3.trans st5))) q
      · cases q
    · obtain ⟨st5, R2⟩ := g3 (.fr .non) Em Z' H' .non ⟨wA, .non⟩
      have w6 := R2.1
      rw [backL_app, backL_low as Em 0 E1 (by rw [List.length_append]; omega)] at w6
      exact ⟨[], [], Z', _, ex, (w6.first (by rw [backL_length]; exact hl1)).to hn1, xr, hw⟩⟩
end
end DL
set_option Elab.async false
set_option linter.all false
set_option maxRecDepth 100000
set_option maxHeartbeats 4000000
/-! DL, part zf: chains, zip, the least of two texts, == of dicts, a call of what a name holds. -/
namespace DL
open PySem PySem.Spec PyProof.Rows L2 RZ

section
variable {C : Ctx} {X : Cx} {pos : Pos}
/-! ### a < b < c -/
def tChn (o o' : O2) (ta tb tc : TD) : TD := fun E Q => ta E fun x E1 => tb E1 fun y E2 => o x y fun z => match z with
  | .bl k => brB k (tc E2 fun u E3 => o' y u fun d => Q d E3) (Q (.bl false) E2)
  | _ => False
theorem de_chn {op op' : CmpOp} {o o' : O2} {r r' : R2} {a b c : Expr} {ta tb tc : TD} (ho : OpR X (compareOp op) r ∧ Meets C o r) (ho' : OpR X (compareOp op') r' ∧ Meets C o' r') (ha : DE C X a ta) (hb : DE C X b tb) (hc : DE C X c tc) (hm : lastMarks [op, op'] [b, c] = false := by with_unfolding_all rfl) :
    DE C X (.Compare a [op, op'] [b, c] pos) (tChn o o' ta tb tc) := (pe_chain ho.1 ho'.1 ha hb hc hm).imp fun σ H Q ⟨ps, Ep, E, Z, Qd, w, h, post⟩ =>
  ⟨ps, Ep, E, Z, _, w, h, fun x E1 Z1 H1 v w1 st1 r1 h1 => ⟨ps, Ep, E1, Z1, _, w1, h1, fun y E2 Z2 H2 u w2 st2 r2 h2 => ho.2 Z2 H2 v u x y _ _ (r1.mono st2) r2 h2 fun z d rz q => by
    cases rz with
    | bl k =>
      refine ⟨k, rfl, ?_⟩
      cases k with
      | true =>
        rw [if_pos rfl]
        exact ⟨ps, Ep, E2, Z2, _, w2, q.t, fun z E3 Z3 H3 t w3 st3 r3 h3 => ho'.2 Z3 H3 u t y z _ _ (r2.mono st3) r3 h3 fun dv d rd qd => post d E3 Z3 H3 dv w3 (st1.trans (st2.trans st3)) rd qd⟩
      | false =>
        rw [if_neg Bool.false_ne_true]
        exact post _ E2 Z2 H2 _ w2 (st1.trans st2) (.bl false) q.f
    | _ => cases q⟩⟩
def tChnB (o o' : O2) (ta tb tc : TD) : TB := fun E Q => tChn o o' ta tb tc E fun d E1 => match d with
  | .bl k => Q k E1
  | _ => False
theorem dt_chn {op op' : CmpOp} {o o' : O2} {r r' : R2} {a b c : Expr} {ta tb tc : TD} (ho : OpR X (compareOp op) r ∧ Meets C o r) (ho' : OpR X (compareOp op') r' ∧ Meets C o' r') (ha : DE C X a ta) (hb : DE C X b tb) (hc : DE C X c tc) (hm : lastMarks [op, op'] [b, c] = false := by with_unfolding_all rfl) :
    DT C X (.Compare a [op, op'] [b, c] pos) (tChnB o o' ta tb tc) := (pt_chain ho.1 ho'.1 ha hb hc hm).imp fun σ H Q ⟨ps, Ep, E, Z, Qd, w, h, post⟩ =>
  ⟨ps, Ep, E, Z, _, w, h, fun x E1 Z1 H1 v w1 st1 r1 h1 => ⟨ps, Ep, E1, Z1, _, w1, h1, fun y E2 Z2 H2 u w2 st2 r2 h2 => ho.2 Z2 H2 v u x y _ _ (r1.mono st2) r2 h2 fun z d rz q => by
    cases rz with
    | bl k =>
      refine ⟨k, rfl, ?_⟩
      cases k with
      | true =>
        rw [if_pos rfl]
        exact ⟨ps, Ep, E2, Z2, _, w2, q.t, fun z E3 Z3 H3 t w3 st3 r3 h3 => ho'.2 Z3 H3 u t y z _ _ (r2.mono st3) r3 h3 fun dv d rd qd => by
          cases rd with
          | bl k2 => exact ⟨k2, rfl, post k2 E3 Z3 H3 w3 (st1.trans (st2.trans st3)) qd⟩
          | _ => cases qd⟩
      | false =>
        rw [if_neg Bool.false_ne_true]
        exact ⟨false, rfl, post _ E2 Z2 H2 w2 (st1.trans st2) q.f⟩
    | _ => cases q⟩⟩
/-! ### zip(a, b) of two tuples, of two lists, of one length -/
def prs (ds es : List D) : List D := (ds.zip es).map fun p => .tup [p.1, p.2]
theorem prs_get {ds es : List D} {i : Nat} {d : D} (h : (prs ds es)[i]? = some d) : ∃ x y, ds[i]? = some x ∧ es[i]? = some y ∧ d = .tup [x, y] := by
  unfold prs at h
  rw [List.getElem?_map] at h
  cases e : (ds.zip es)[i]? with
  | none => rw [e] at h; cases h
  | some p =>
    rw [e] at h
    cases h
    have := List.getElem?_zip_eq_some.mp e
    exact ⟨p.1, p.2, this.1, this.2, rfl⟩
def tiZip (t u : TD) : TIt := fun E Q => t E fun d E1 => u E1 fun e E2 => match d, e with
  | .tup ds, .tup es => Q (prs ds es) E2
  | .lst ds, .lst es => Q (prs ds es) E2
  | _, _ => False
theorem walks_zipT {Z : Addr → Prop} {H : Hp} {a b : Addr} {vs ws : List V} {ds es : List D} (ha : SqT C.K H a vs) (hb : SqT C.K H b ws) (ra : Reps C.K Z H vs ds) (rb : Reps C.K Z H ws es) : Walks C (ItzT C.K a b) Z H (prs ds es) (fun _ _ => True) :=
  ⟨fun Z2 σ2 E2 H2 ps Ep st w _ i hi => ⟨vs, ws, sqT_mono st ha, sqT_mono st hb, by
    unfold prs at hi
    rw [List.length_map, List.length_zip] at hi
    rw [ra.length, rb.length]
    omega⟩, fun Z2 σ2 E2 H2 ps Ep st w _ i d e => by
    obtain ⟨x, y, ex, ey, rfl⟩ := prs_get e
    obtain ⟨v, ev, rv⟩ := (ra.mono st).get ex
    obtain ⟨u, eu, ru⟩ := (rb.mono st).get ey
    refine ⟨⟨vs, ws, v, u, sqT_mono st ha, sqT_mono st hb, ev, eu⟩, fun z H3 yl => ?_⟩
    obtain ⟨T0, x', y', rfl, hT, rfl, h1, h2⟩ := yl
    have e1 := h1 vs (sqT_mono st ha)
    have e2 := h2 ws (sqT_mono st hb)
    rw [ev] at e1; rw [eu] at e2
    cases e1; cases e2
    have s3 := Stp.new (o := .tup [v, u]) w.zt hT
    exact ⟨.inr ⟨T0, _, hT, rfl⟩, .tup (.of upd_same) (.cons (rv.mono s3) (.one (ru.mono s3)))⟩⟩
theorem walks_zipL {Z : Addr → Prop} {H : Hp} {a b : Addr} {vs ws : List V} {ds es : List D} (ha : LsR Z H a vs) (hb : LsR Z H b ws) (ra : Reps C.K Z H vs ds) (rb : Reps C.K Z H ws es) : Walks C (Itz C.K a b) Z H (prs ds es) (fun _ _ => True) :=
  ⟨fun Z2 σ2 E2 H2 ps Ep st w _ i hi => ⟨vs, ws, (ha.mono st).sq, (hb.mono st).sq, by
    unfold prs at hi
    rw [List.length_map, List.length_zip] at hi
    rw [ra.length, rb.length]
    omega⟩, fun Z2 σ2 E2 H2 ps Ep st w _ i d e => by
    obtain ⟨x, y, ex, ey, rfl⟩ := prs_get e
    obtain ⟨v, ev, rv⟩ := (ra.mono st).get ex
    obtain ⟨u, eu, ru⟩ := (rb.mono st).get ey
    refine ⟨⟨vs, ws, v, u, (ha.mono st).sq, (hb.mono st).sq, ev, eu⟩, fun z H3 yl => ?_⟩
    obtain ⟨T0, x', y', rfl, hT, rfl, h1, h2⟩ := yl
    have e1 := h1 vs (ha.mono st).sq
    have e2 := h2 ws (hb.mono st).sq
    rw [ev] at e1; rw [eu] at e2
    cases e1; cases e2
    have s3 := Stp.new (o := .tup [v, u]) w.zt hT
    exact ⟨.inr ⟨T0, _, hT, rfl⟩, .tup (.of upd_same) (.cons (rv.mono s3) (.one (ru.mono s3)))⟩⟩
theorem di_zip {a b : Expr} {ta tb : TD} {p tpos : Pos} {elts : List Expr} {kk : Nat} (hm : X.mg "zip" = none) (ha : DE C X a ta) (hb : DE C X b tb) (hg : Gl X "zip" := by rfl) (hs : starEach [a, b] X.env = (false, eval a X.env) :: starEach [b] X.env := by rfl) (hs2 : starEach [b] X.env = (false, eval b X.env) :: starEach [] X.env := by rfl)
    (hpl : (backTo pos (starEach [b] X.env)).any (·.1) = false := by rfl) (hK : X.K = C.K := by rfl) : DI C X (.Tuple elts kk tpos) (.Call (.Name "zip" p) [a, b] [] pos) (tiZip ta tb) :=
  (pi_zipA hg hm (pa_cons ha (pa_cons hb pa_nil hs2) hs) hs hpl).imp fun σ H R ⟨ps, Ep, E, Z, Qd, w, h, post⟩ => ⟨ps, Ep, E, Z, _, w, h, fun d E1 Z1 H1 v w1 st1 r1 h1 => ⟨ps, Ep, E1, Z1, _, w1, h1, fun e E2 Z2 H2 u w2 st2 r2 h2 => by
    rw [hK]
    split at h2
    · have r1' := r1.mono st2
      cases r1' with
      | tup s1 q1 =>
        cases r2 with
        | tup s2 q2 => exact ⟨_, _, _, _, rfl, .inr ⟨s1, s2, post _ _ E2 Z2 H2 w2 (st1.trans st2) (walks_zipT s1 s2 q1 q2) h2⟩⟩
    · have r1' := r1.mono st2
      cases r1' with
      | lst s1 q1 =>
        cases r2 with
        | lst s2 q2 => exact ⟨_, _, _, _, rfl, .inl ⟨s1.sq, s2.sq, post _ _ E2 Z2 H2 w2 (st1.trans st2) (walks_zipL s1 s2 q1 q2) h2⟩⟩
    · cases h2⟩⟩
/-! ### == of dicts that are equal -/
def oEqDic : O2 := fun x y q => match x, y with
  | .dic ks ds, .dic ls es => (ks.length = ls.length ∧ ∀ (i : Nat) k d, ks[i]? = some k → ds[i]? = some d → ∃ e, getK ls es k = some e ∧ d.shp = true ∧ e.shp = true ∧ d.eqv e = true) ∧ q (.bl true)
  | _, _ => False
def rEqDic (K : Frg) : R2 := fun x y H Q => EqR K H (fun u v => ∃ d e, Dp K H u d ∧ Dp K H v e ∧ SeqAt.shaped d = true ∧ SeqAt.shaped e = true ∧ PyData.eqv d e = true) x y ∧ Q (.bl true) H
theorem op_eqDic (hu : X.A.units + 65 < cLine) : OpR X (compareOp .Eq) (rEqDic X.K) := by
  intro pins s σ H x y v u Q I rx ry ⟨h, q⟩
  refine eqR_run I (A := X.A) (by omega) (fun x y v u ⟨d, e, hd, he, sd, se, ev⟩ rx ry => ?_) h rx ry _ _ ⟨.bl true, H, I, rfl, q⟩
  obtain ⟨as, r1⟩ := Dp.reads I d x v hd rx
  obtain ⟨bs, r2⟩ := Dp.reads I e y u he ry
  have := SeqAt.eqAt_reads d e X.A.in1 s v u as bs r1 r2 (SeqAt.canLay_of_shaped sd) (SeqAt.canLay_of_shaped se) (SeqAt.room_of_shaped sd (by show X.A.units + 1 + 64 < cLine; omega))
  rw [ev] at this
  exact this.eqP
theorem getV {K : Frg} {Z : Addr → Prop} {H : Hp} : ∀ {kvs : List (Key × V)} {ds : List D} {p : Key × V}, Reps K Z H (kvs.map (·.2)) ds → p ∈ kvs → ∃ (i : Nat) (d : D), (kvs.map (·.1))[i]? = some p.1 ∧ ds[i]? = some d ∧ Rep K Z H p.2 d := fun {kvs ds p} r hp => by
  obtain ⟨i, hi⟩ := List.getElem?_of_mem hp
  have e2 : (kvs.map (·.2))[i]? = some p.2 := by rw [List.getElem?_map, hi]; rfl
  obtain ⟨d, e3, rd⟩ := r.getv e2
  exact ⟨i, d, by rw [List.getElem?_map, hi]; rfl, e3, rd⟩
theorem o_eqDic (hu : X.A.units + 65 < cLine) (hK : X.K = C.K := by rfl) : OpR X (compareOp .Eq) (rEqDic X.K) ∧ Meets C oEqDic (rEqDic X.K) := ⟨op_eqDic hu, fun Z H v w x y q Q rx ry h k => by
  rw [hK]
  unfold oEqDic at h
  split at h
  · obtain ⟨⟨hl, ha⟩, h⟩ := h
    cases rx with
    | dic zx hx ex rsx =>
      cases ry with
      | dic zy hy ey rsy =>
        refine ⟨.inr ⟨_, _, _, _, rfl, rfl, hx, hy, ?_, fun p hp => ?_⟩, k _ _ (.bl true) h⟩
        · rw [← ex, ← ey, List.length_map, List.length_map] at hl; exact hl
        · obtain ⟨i, d, e1, e2, rd⟩ := getV rsx hp
          rw [ex] at e1
          obtain ⟨e, g, sd, se, ev⟩ := ha i p.1 d e1 e2
          have gg := getK_rep (k := p.1) rsy
          rw [ey, g] at gg
          obtain ⟨u, eu, ru⟩ := gg
          exact ⟨u, eu, _, _, rd.dp (shp_lay sd), ru.dp (shp_lay se), sd, se, ev⟩
  · cases h⟩
end
end DL
set_option Elab.async false
set_option linter.all false
set_option maxRecDepth 100000
set_option maxHeartbeats 4000000
/-! DL, part zg: the least of two texts, a call of the def that a name holds. -/
namespace DL
open PySem PySem.Spec PyProof.Rows L2

section
variable {prog : Program} {w : World} {A : Around} {Er : Value → Shared → Prop} {s : Shared} {Q : Value → Shared → Prop}
theorem min_strs {a b : Str} {t u : Tok} (hh : A.handled = none) (h : ∀ h' tk, (∀ c o, s.heap.get? c = some o → h'.get? c = some o) → Q (if b.cps.toList < a.cps.toList then .str b u else .str a t) { s with heap := h', toks := tk }) : wpAny (model prog w) A (call (.builtin "min") [.str a t, .str b u]) Q Er s := by
  have hT : (s.heap.push { cls := .type "tuple", data := .seq #[.str a t, .str b u] }).IsTuple s.heap.objs.size #[.str a t, .str b u] := ⟨_, Heap.get?_push_size _ rfl, rfl, 0, rfl⟩
  have hz : (s.heap.push { cls := .type "tuple", data := .seq #[.str a t, .str b u] }).objs.size = s.heap.objs.size + 1 := Heap.size_push ..
  refine call_min_two (wpAny_pyIter_tuple hT ?_)
  have cm : CmpOf prog w A.in1 .Lt (fun i v => (#[Value.str a t, Value.str b u] : Array Value)[i]? = some v) (fun i j => decide ((if i = 0 then a else b).cps.toList < (if j = 0 then a else b).cps.toList)) := fun i j vi vj s Q E hi hj h => by
    have val : ∀ (i : Nat) (v : Value), (#[Value.str a t, Value.str b u] : Array Value)[i]? = some v → ∃ t', v = .str (if i = 0 then a else b) t' := fun i v e => by
      match i, e with
      | 0, e => cases e; exact ⟨t, rfl⟩
      | 1, e => cases e; exact ⟨u, rfl⟩
      | i + 2, e => simp at e
    obtain ⟨t1, rfl⟩ := val i vi hi
    obtain ⟨t2, rfl⟩ := val j vj hj
    exact richCompare_gives (op := .Lt) (typeIs_str s _ t1) (typeIs_str s _ t2) F.slot_str_lt F.entry_str_lt (F.args_str_lt_2 _ _) (gives_str_lt _ _ t1 t2) (fun e => nomatch e) h
  refine ⟨_, [_, s.heap.objs.size], [_], _, _, _, _, rfl, Walks.tuple (A := A.in1) hh _ s.heap.objs.size (by rw [hz]; exact Nat.ne_of_lt (Nat.lt_succ_self _)) #[.str a t, .str b u], ⟨⟨_, Heap.get?_push_size _ rfl, rfl, rfl⟩, hT.push _⟩, fun c hc => ?_, by simp, cm, fun v h' tk hP hk => ?_⟩
  · show c < ((s.heap.push _).push _).objs.size
    rw [Heap.size_push, hz]
    rcases List.mem_cons.mp hc with rfl | hc
    · rw [hz]; exact Nat.lt_succ_self _
    · rw [List.mem_singleton.mp hc]; exact Nat.lt_succ_of_lt (Nat.lt_succ_self _)
  · have old : ∀ c o, s.heap.get? c = some o → h'.get? c = some o := fun c o e => by
      refine hk c o (fun hm => ?_) (Heap.get?_push_of_some _ (Heap.get?_push_of_some _ e))
      have := Heap.lt_size e
      rw [List.mem_singleton.mp hm, hz] at this
      exact Nat.lt_irrefl _ (Nat.lt_of_succ_lt this)
    have q := h h' tk old
    have hv : v = if b.cps.toList < a.cps.toList then Value.str b u else Value.str a t := by
      have hP' : (#[Value.str a t, Value.str b u] : Array Value)[argBest (fun i j => decide ((if i = 0 then a else b).cps.toList < (if j = 0 then a else b).cps.toList)) 1]? = some v := hP
      by_cases hba : b.cps.toList < a.cps.toList
      · have e : argBest (fun i j => decide ((if i = 0 then a else b).cps.toList < (if j = 0 then a else b).cps.toList)) 1 = 1 := by simp [argBest, hba]
        rw [e] at hP'
        rw [if_pos hba]
        exact (Option.some.inj hP').symm
      · have e : argBest (fun i j => decide ((if i = 0 then a else b).cps.toList < (if j = 0 then a else b).cps.toList)) 1 = 0 := by simp [argBest, hba]
        rw [e] at hP'
        rw [if_neg hba]
        exact (Option.some.inj hP').symm
    rw [hv]
    exact q
end
section
variable {C : Ctx} {X : Cx} {pos : Pos}
def minS (a b : Str) : Str := if b.cps.toList < a.cps.toList then b else a
def oMnS : O2 := fun x y q => match x, y with
  | .str a, .str b => q (.str (minS a b))
  | _, _ => False
def rMnS : R2 := fun x y H Q => ∃ a b, x = .str a ∧ y = .str b ∧ Q (.str (minS a b)) H
theorem b_minS (hc : X.calm = true := by rfl) : CallR X (.builtin "min") (fun xs H Q => ∃ v w, xs = [v, w] ∧ rMnS v w H Q) := fun pins s σ H xs us Q I r ⟨v, w, e, a, b, e1, e2, q⟩ => by
  subst e e1 e2
  obtain ⟨u1, u2, rfl, ⟨t1, rfl⟩, ⟨t2, rfl⟩⟩ := vals2 r
  refine min_strs (I.ok.hd hc) fun h' tk k => ⟨_, H, I.kept k, ?_, q⟩
  unfold minS
  split
  · exact ⟨_, rfl⟩
  · exact ⟨_, rfl⟩
theorem m_minS : Meets C oMnS rMnS := fun Z H v w x y q Q rx ry h k => by
  unfold oMnS at h
  split at h
  · cases rx; cases ry
    exact ⟨_, _, rfl, rfl, k _ _ (.str _) h⟩
  · cases h
/-! ### f(e, ..), f a name that holds a def -/
structure HeldX (X : Cx) (k n : Nat) (f : Addr) (sx : SpX) : Prop where
  ex : ∃ (fd : FuncData) (prs : List Str), FnOk X.prog X.w X.K X.mg X.base (L2.CX X.prog X.w) k f fd prs (spX X.K n sx) ∧ PySem.W.keepIn X.K (.ref f) = true ∧ Binds X.K fd prs []
def tCallP (i : Nat) (S : Addr → Option SpX) (Wd : WdX) (ta : TAm) : TD := fun E Q => ∃ f sx, E[i]? = some (.fr (.kon f)) ∧ S f = some sx ∧ tCallXD sx Wd ta E Q
theorem de_callP (i : Nat) {k : Nat} {x : Str} {p : Pos} {e : Expr} {es : List Expr} {ta : TAm} {Wd : WdX} {S : Addr → Option SpX} (HS : ∀ f sx, S f = some sx → HeldX X k (e :: es).length f sx) (tk : Takes X (wxOf C Wd)) (hr : Room k X.A) (ha : DM C X (e :: es) ta) (hN : X.N[i]? = some x := by rfl) (hlt : i < C.n := by exact Nat.le_of_ble_eq_true rfl)
    (hv : Vis X.env.scope x := by first | exact Or.inl rfl | exact Or.inr (Or.inl rfl) | exact Or.inr (Or.inr rfl)) (hdb : (x == ("__debug__" : Str)) = false := by decide) (hcd : (x == ("__classdict__" : Str)) = false := by decide) (hK : X.K = C.K := by rfl)
    (he : starEach (e :: es) X.env = (false, eval e X.env) :: starEach es X.env := by rfl) (hpl : (backTo pos (starEach es X.env)).any (·.1) = false := by rfl) : DE C X (.Call (.Name x p) (e :: es) [] pos) (tCallP i S Wd ta) := by
  refine ⟨fun pins s σ H Q I ⟨ps, Ep, E, Z, Qd, w, ⟨f, sx, ef, hS, h⟩, post⟩ => ?_⟩
  obtain ⟨fd, prs, F, hk, hb⟩ := (HS f sx hS).ex
  obtain ⟨v, ev, rv⟩ := w.get hlt ef
  cases rv
  refine wpAny_Call_Name_kw (thn ((pe_var (pos := p) hN hv hdb hcd).run pins s σ H (fun v H1 => v = .ref f ∧ H1 = H) I ⟨.ref f, ev, rfl, rfl⟩) fun u s1 ⟨v, H1, I1, r1, q1⟩ => ?_)
  obtain ⟨rfl, rfl⟩ := q1
  cases r1
  have q := callX_imp (n := (e :: es).length) (sx := sx) (Wd := Wd) (Q := Q) (Qr := fun r E' => match r with | .fr d => Qd d E' | _ => False) w h fun r E' Z' H' v R st q => by
    cases r with
    | fr d => exact post d E' Z' H' v R.1 st R.2 q
    | un => cases q
    | ow t => cases q
    | mu t => cases q
    | rf a => cases q
    | nw a n => cases q
    | nm a n => cases q
  refine PySem.W.callWith_K (h₀ := X.base) I.ok.mod.kin hk (thn (ha.run pos pins s1 σ _ _ I1 q) fun us s2 ⟨vs, H2, I2, r, q⟩ => ⟨I2.kIn, ?_⟩) he hpl
  exact run_fnSD (dvs := []) (ds := []) (E := WE (wxOf C Wd)) F hr hb .nil (passAt tk σ) I2 r (by rw [hK]; exact q)
end
end DL
namespace DL
open PySem PySem.Spec PyProof.Rows L2
/-- a module's int -/
theorem de_cst {C : Ctx} {X : Cx} {x : Str} {i : Int} {pos : Pos} (h : ∃ t, X.mg x = some (.int i t)) (hg : Gl X x := by rfl) (hd : (x == ("__debug__" : Str)) = false := by decide) : DE C X (.Name x pos) (tc (.int i)) :=
  let ⟨t, h⟩ := h
  de_glob hg h (v := .int i) ⟨t, rfl⟩ (fun _ _ => .int i) hd
end DL
set_option maxRecDepth 100000
namespace DL
open PySem PySem.Spec PyProof.Rows L2
section
variable {C : Ctx} {X : Cx} {pos : Pos}
/-- a, b = x, y with plain names -/
def dPar (i j : Nat) (t : TL) : TSD := fun D E => t E fun ds E1 => ∃ a b, ds = [a, b] ∧ S.free E1[i]? = true ∧ S.free E1[j]? = true ∧ D.nx ((E1.set i (.fr a)).set j (.fr b))
theorem ds_par (i j : Nat) {x y : Str} {a b : Expr} {t : TL} {px py pt : Pos} {kt k2 pt2} (hN : X.N.Nodup) (ha : DA C X [a, b] t) (hij : i ≠ j := by decide) (hi : X.N[i]? = some x := by rfl) (hlt : i < C.n := by exact Nat.le_of_ble_eq_true rfl) (hj : X.N[j]? = some y := by rfl) (hlt2 : j < C.n := by exact Nat.le_of_ble_eq_true rfl)
    (hx : X.env.scope.names.lookup x = some .local := by rfl) (hy : X.env.scope.names.lookup y = some .local := by rfl) (hc : X.calm = true := by rfl)
    (hw : swappedStores [.Tuple [.Name x px, .Name y py] kt pt] (.Tuple [a, b] k2 pt2) X.env = pure (some [x, y]) := by rfl)
    (hs : swapsWithSole [.Tuple [.Name x px, .Name y py] kt pt] (.Tuple [a, b] k2 pt2) pos.line X.env = pure false := by rfl) :
    DS C X (.Assign [.Tuple [.Name x px, .Name y py] kt pt] (.Tuple [a, b] k2 pt2) pos) (dPar i j t) := (ps_par hc hN hi hj hij hx hy ha hw hs).imp fun Dn σ H ⟨ps, Ep, E, Z, Dd, w, h, f⟩ =>
  ⟨ps, Ep, E, Z, _, w, h, fun ds E1 Z1 H1 vs w1 st1 r1 n ⟨d1, d2, e, f1, f2, q⟩ => by
    subst e
    cases r1 with
    | cons p r1 =>
      cases r1 with
      | cons p' r1 =>
        cases r1
        refine ⟨_, _, rfl, ?_⟩
        obtain ⟨l1, m1⟩ := free_lt f1
        obtain ⟨l2, m2⟩ := free_lt f2
        refine f.nx _ _ Z1 H1 ((w1.setD hlt p m1).setD hlt2 p' (by rw [List.getElem?_set_ne hij]; exact m2)) st1 q⟩
end
end DL
set_option Elab.async false
set_option linter.all false
set_option maxRecDepth 100000
set_option maxHeartbeats 4000000
/-! DL, part zi: a comprehension whose elements may raise. -/
namespace L2
open PySem PySem.Spec PyProof.Rows

section
variable {M : Model} {A : Around} {E : Value → Shared → Prop} {s : Shared} {env : Env}
/-- behind the block: as compPost, the frame told too -/
def compPostX (M : Model) (A : Around) (E : Value → Shared → Prop) (Q : Value → Shared → Prop) (acc : Value) (C : Addr) (fr : Option Addr) (r : Result) (s' : Shared) : Prop :=
  match r with
  | .ok _ => ∃ m, s'.heap.Ns C m ∧ ∀ h', Heap.SameBut C s'.heap h' → Q acc { s' with heap := h' }
  | .error x => ∃ m, s'.heap.Ns C m ∧ ∀ h', Heap.SameBut C s'.heap h' → ∀ cenv : Env, cenv.locals = C → cenv.frame = fr → wpAny M A (passOn "comprehension.variables-let-go" x cenv : Sem Value) (fun _ _ => False) E { s' with heap := h' }
theorem comp_freeX {e : Expr} {scope : Scope} {pos : Pos} {newAcc first : Sem Value} {g : Comprehension} {gs : List Comprehension} {cl : List (Str × Addr)} {Q : Value → Shared → Prop}
    (hcl : clausesOf e = g :: gs) (hs : ∀ x, foldedSetIterable g.iter env x = pure x) (hclos : closureFor scope env = pure cl) (hkind : scope.kind = .function) (hnames : ∀ x ∈ scope.names, x.2 = .local → scope.names.lookup x.1 = some .local)
    (h : wpAny M A first (fun x s₁ => wpAny M A (pyIter x) (fun it s₂ => wpAny M A newAcc (fun acc s₃ =>
      wpAny M A (newFunctionEnv scope env.globals cl [] env.qual none .none (some env)) (fun cenv s₄ =>
        codeAny M A (.compStart e 0 it acc { cenv with scope := relabel scope env }) (compPostX M A E Q acc cenv.locals cenv.frame) s₄) E s₃) E s₂) E s₁) E s) :
    wpAny M A (comprehension e scope env pos newAcc false first none) Q E s := by
  unfold comprehension
  rw [hclos, hcl]
  refine wpAny_bind (wpAny_mono h (fun x s₁ h₁ => wpAny_bind (wpAny_standAt (wpAny_bind (wpAny_of_eq (hs x) (wpAny_bind (wpAny_holding (wpAny_mono h₁ (fun it s₂ h₂ =>
    wpAny_standIf (wpAny_bind (wpAny_mono h₂ (fun acc s₃ h₃ => wpAny_bind (wpAny_pure (wpAny_bind (wpAny_mono h₃ (fun cenv s₄ h₄ => ?_) fun _ _ h' => h')))) fun _ _ h' => h')))
      fun _ _ h' => h'))))))) fun _ _ h' => h')
  dsimp only
  have hv : ∀ x ∈ (scope.names.filter fun x => (x.2 == .local || x.2 == .cell) && x.1 != (".0" : Str)).reverse, x.2 = .local →
      Env.kindOf { cenv with scope := relabel scope env } x.1 = some .local := fun x hx hl => lookup_relabel_local (hnames x (List.mem_filter.mp (List.mem_reverse.mp hx)).1 hl)
  refine wpAny_holding (wpAny_bind (wpAny_attempt (wpAny_holding (wpAny_run (codeAny_mono h₄ fun r s' hr => ?_)))))
  cases r with
  | ok f =>
    obtain ⟨m, hn, hr⟩ := hr
    exact wpAny_bind (wpAny_holding (wpAny_comp_letGo (cenv := { cenv with scope := relabel scope env }) hkind _ s' m hv hn fun h' m' _ hs' => wpAny_pure (hr h' hs')))
  | error x =>
    obtain ⟨m, hn, hr⟩ := hr
    exact wpAny_bind (wpAny_holding (wpAny_comp_letGo (cenv := { cenv with scope := relabel scope env }) hkind _ s' m hv hn fun h' m' _ hs' => wpAny_mono (hr h' hs' _ rfl rfl) (fun _ _ f => f.elim) fun _ _ y => y))
end

/-! ### an exception goes through the block -/
theorem noteFrame_frame {u : Value} {e f : Env} (h : e.frame = f.frame) : noteFrame u e = noteFrame u f := by
  unfold noteFrame PySem.frameOf
  rw [h]
theorem blk_exc {X : Cx} {W : WX} {pins pb : List (Addr × Obj)} {σ σb : St} {H3 H9 : Hp} {s3 s9 s10 : Shared} {scope : Scope} {ce : Env} {fp : List Addr} {E : XK} {u : Value} {Ex : Value → Shared → Prop}
    (I3 : Inv X pins σ H3 s3) (Ib : Inv (X.blk s3 H3 scope ce fp) pb σb H9 s9) (f3 : ∀ b ∈ fp, FpOk X pins H3 b) (hC : ce.locals = s3.heap.objs.size) (hcf : ce.frame = X.env.frame)
    (hst : X.stack = X.env :: X.outer) (hfr : X.env.frame = some X.env.locals) (tk : Takes X W) (hW : ∀ cls d H', E cls d H' → W cls d σ H')
    (c : CX X.prog X.w X.stack H9 s9 E u s10) : wpAny (model X.prog X.w) X.A (noteFrame u ce) (fun _ s' => ∃ m, s'.heap.Ns ce.locals m ∧ ∀ h', Heap.SameBut ce.locals s'.heap h' → ∀ cenv : Env, cenv.locals = ce.locals → cenv.frame = ce.frame →
      wpAny (model X.prog X.w) X.A (passOn "comprehension.variables-let-go" u cenv : Sem Value) (fun _ _ => False) X.xe { s' with heap := h' }) Ex s10 := by
  obtain ⟨a, B, H', cls, d, rfl, fl, hok, ub, na, os, ag, hE⟩ := c
  have I9 : Inv X pins σ H9 s9 := I3.call' (ch := fp) Ib.os Ib.base Ib.hok Ib.bare fun b hb => ⟨(f3 b hb).2.2.2.1, (f3 b hb).2.1, (f3 b hb).2.2.2.2.1, (f3 b hb).2.2.2.2.2⟩
  obtain ⟨C, hCC⟩ : ∃ C, ce.locals = C := ⟨_, rfl⟩
  rw [hCC] at hC ⊢
  have nC : H9 C = none := by rw [← hCC]; exact Ib.free
  obtain ⟨m, hn, _⟩ := Ib.loc
  have hn : s9.heap.Ns C m := by rw [← hCC]; exact hn
  obtain ⟨oC, es, ep, hoC, rC⟩ := hn
  have cS : C ∉ frs X.stack := fun hb => by
    obtain ⟨_, o, ho, _⟩ := Ib.ok.funs.mem hb
    exact absurd (Heap.lt_size ho) (by rw [hC]; exact Nat.lt_irrefl _)
  have hBC : B.get? C = some oC := ub.keep C oC hoC nC cS
  have nC' : H' C = none := ub.free C oC hoC nC
  have fC : FpOk X pins H' C := I3.fpOk (Nat.le_of_eq hC.symm) nC'
  have flx := fl
  rw [hst] at fl
  rw [noteFrame_frame hcf]
  refine HandSPX.looks_onZ Zc.steady (by rw [I3.ok.frames, hst]) hfr fl fun h1 held up => ?_
  obtain ⟨stB, hen, hl, oe, vs, T, oT, ts, he, hz, hd, h1v, hnT, hTe, hT, hdT, h3⟩ := held
  refine ⟨m, ⟨oC, es, ep, stB C oC hBC, rC⟩, fun h' sb cenv e1 e2 => ?_⟩
  have aC : a ≠ C := fun z => by rw [z, hBC] at hen; cases hen
  have TC : T ≠ C := fun z => by rw [z, hBC] at hnT; cases hnT
  have he' : h'.get? a = some oe := (sb.2 a aC).trans he
  have hT' : h'.get? T = some oT := (sb.2 T TC).trans hT
  have hcfr : cenv.frame = some X.env.locals := by rw [e2, hcf, hfr]
  have hL : C ≠ X.env.locals := fC.2.1
  -- the state without it
  have G0 : ∃ G : Heap, (∀ b o, G.get? b = some o → b ≠ C ∧ s10.heap.get? b = some o ∧ ((B.get? b).isSome = true ∨ b ∈ frs X.stack)) ∧ Inv X pins σ H' { s9 with heap := G, gens := s10.gens, drawn := s10.drawn, toks := s10.toks } := by
    obtain ⟨G, g1, g2⟩ := restrict s10.heap fun b => (B.get? b).isSome || decide (b ∈ frs X.stack)
    have st : B.StaysIn s10.heap := flx.1
    have gB : ∀ b o, B.get? b = some o → G.get? b = some o := fun b o e => by
      rw [g1 b (by simp [e])]
      exact st b o e
    have gF : ∀ b, b ∈ frs X.stack → G.get? b = s10.heap.get? b := fun b hb => g1 b (by simp [hb])
    have og : ∀ b o, G.get? b = some o → s10.heap.get? b = some o ∧ ((B.get? b).isSome = true ∨ b ∈ frs X.stack) := fun b o e => by
      cases q : ((B.get? b).isSome || decide (b ∈ frs X.stack)) with
      | false => rw [g2 b q] at e; cases e
      | true =>
        rw [g1 b q] at e
        exact ⟨e, by simpa [Bool.or_eq_true] using q⟩
    have IG : Inv X pins σ H' { s9 with heap := G, gens := s10.gens, drawn := s10.drawn, toks := s10.toks } := by
      refine I9.call (ch := []) ⟨fun b o e n hb _ => gB b o (ub.keep b o e n hb), fun b o e n hb _ => ?_, fun b o e n _ => ub.free b o e n, fun b o e _ => ?_, ub.tups, ub.frzs, ub.tbls⟩ (hok.kept gB) ag (fun _ z => nomatch z)
      · obtain ⟨sl, q⟩ := ub.slot b o e hb
        exact ⟨sl, by rw [gF b hb]; exact q⟩
      · by_cases hb : b ∈ frs X.stack
        · obtain ⟨sl, q⟩ := ub.slot b o e hb
          exact ⟨_, by rw [gF b hb]; exact q⟩
        · obtain ⟨o', q⟩ := ub.there b o e hb
          exact ⟨o', gB b o' q⟩
    obtain ⟨G', k1, k2⟩ := restrict G fun b => b != C
    have IG' := IG.turned (it := C) (t' := s10.toks) (h' := G') (fun b o hb e => by rw [k1 b (by simp [hb])]; exact e) nC' hL fC.2.2.2.1 fC.2.2.2.2.1 fC.2.2.2.2.2
    refine ⟨G', fun b o e => ?_, IG'⟩
    by_cases hb : b = C
    · rw [k2 b (by simp [hb])] at e; cases e
    · rw [k1 b (by simp [hb])] at e
      exact ⟨hb, og b o e⟩
  obtain ⟨G, og, IG⟩ := G0
  obtain ⟨B', b1, b2⟩ := restrict B fun b => b != C
  have bB : ∀ b o, B'.get? b = some o → b ≠ C ∧ B.get? b = some o := fun b o e => by
    by_cases hb : b = C
    · rw [b2 b (by simp [hb])] at e; cases e
    · rw [b1 b (by simp [hb])] at e; exact ⟨hb, e⟩
  have bN : ∀ b, B.get? b = none → B'.get? b = none := fun b e => by
    cases q : B'.get? b with
    | none => rfl
    | some o => rw [(bB b o q).2] at e; cases e
  unfold PySem.passOn setFlight
  refine wpAny_bind (wpAny_field he' hd h1v ?_)
  rw [if_neg (show ¬ ((Value.ref T == Value.none) = true) from by simp)]
  refine wpAny_bind (wpAny_bind (wpAny_field he' hd h1v ?_))
  rw [if_pos (show (Value.ref T != Value.none) = true from by simp), hcfr]
  refine wpAny_setField hT' hdT (Array.getElem?_eq_some_iff.mp h3).1 ?_
  refine wpAny_throw (tk _ _ ?_)
  have other : ∀ b, b ≠ T → (h'.update T (Obj.mapFields (·.setIfInBounds 3 (rawInt X.env.locals)))).get? b = h'.get? b := fun b hb => Heap.get?_update_other _ _ (Ne.symm hb)
  have dT := Obj.data_mapFields hdT (·.setIfInBounds 3 (rawInt X.env.locals))
  have atT := Heap.get?_update_self (Obj.mapFields (·.setIfInBounds 3 (rawInt X.env.locals))) hT' (Obj.isFreed_of_fields dT)
  show XE X W (.ref a) { heap := h'.update T (Obj.mapFields (·.setIfInBounds 3 (rawInt X.env.locals))), gens := s10.gens, drawn := s10.drawn, toks := s10.toks, os := s10.os }
  generalize hu : h'.update T (Obj.mapFields (·.setIfInBounds 3 (rawInt X.env.locals))) = h2 at *
  have kp : ∀ b o, b ≠ C → h1.get? b = some o → (∀ vs, o.data ≠ .fields vs) → h2.get? b = some o := fun b o hb e nf => by
    rw [other b (fun z => by rw [z, hT] at e; cases e; exact nf ts hdT), sb.2 b hb]
    exact e
  refine ⟨a, B', _, pins, σ, H', cls, d, rfl, IG, fun b o e hb => ?_, fun b o e nf => ?_, .inr (.inr ⟨fun b o e => ?_, bN a hen, ?_, oe, vs, T, _, _, ?_, hz, hd, h1v, bN T hnT, hTe, atT, dT, ?_⟩), na, os, ag, hW _ _ _ hE⟩
  · obtain ⟨q1, q2, q3⟩ := og b o e
    rcases q3 with q3 | q3
    · obtain ⟨o', q⟩ := Option.isSome_iff_exists.mp q3
      have z := flx.1 b o' q
      rw [q2] at z; cases z
      rw [b1 b (by simp [q1])]
      exact q
    · exact absurd q3 hb
  · obtain ⟨q1, q2, q3⟩ := og b o e
    obtain ⟨sl, q⟩ := up b o q2 nf
    exact ⟨sl, kp b { o with slots := sl } q1 q nf⟩
  · obtain ⟨q1, q2⟩ := bB b o e
    rw [other b (fun z => by rw [z, hnT] at q2; cases q2), sb.2 b q1]
    exact stB b o q2
  · rw [hst]
    have sh : ∀ l : List Env, h1.FunFrames B l → (∀ b ∈ frs l, b ≠ C) → h2.FunFrames B' l := by
      intro l
      induction l with
      | nil => intro _ _; trivial
      | cons e l ih =>
        intro hl hc
        obtain ⟨hk, ⟨L, o, hf, hn, ho, hd⟩, hr⟩ := hl
        refine ⟨hk, ⟨L, o, hf, bN L hn, kp L o (hc L ?_) ho hd, hd⟩, ih hr fun b hb => hc b ?_⟩
        · exact List.mem_filterMap.mpr ⟨e, List.mem_cons_self .., hf⟩
        · obtain ⟨e', m1, m2⟩ := List.mem_filterMap.mp hb
          exact List.mem_filterMap.mpr ⟨e', List.mem_cons_of_mem _ m1, m2⟩
    refine sh _ hl fun b hb z => cS ?_
    rw [← z, hst]
    exact hb
  · rw [other a (Ne.symm hTe)]; exact he'
  · rw [Array.getElem?_setIfInBounds_self_of_lt (Array.getElem?_eq_some_iff.mp h3).1]

/-! ### the comprehension -/
abbrev Cx.blkX (X : Cx) (s : Shared) (H : Hp) (scope : Scope) (ce : Env) (fp : List Addr) (xe : Value → Shared → Prop) : Cx := (X.blk s H scope ce fp).wish xe
/-- as tLc; the elements' wish is the outer one, at the slots behind the block -/
def tLcX (wi : TI) (g : TG) (tt : TT) (te : WX → TE) (vs : List Nat) (W : WX) : TE := fun σ H Q => wi σ H fun J H1 => ∀ D, H1 D = none → ∃ Wi : Nat → Nat → Hp → Prop, (∃ m, Wi 0 m (upd H1 D (.lst []))) ∧
  ∀ i m H, Wi i m H → (J.stop i H ∧ Q (.ref D) H) ∨ (J.go i H ∧ ∃ Nx : Hp → Prop, (∀ H', Nx H' → ∃ m', m' < m ∧ Wi (i + 1) m' H') ∧ ∀ x H', J.yld i H x H' → g x (wipe σ vs) H' fun σ2 H2 => wipe σ2 vs = wipe σ vs ∧
    tt σ2 H2 fun b H3 => if b = true then te (fun cls d _ H' => W cls d σ H') σ2 H3 fun y H4 => ∃ acc, H4 D = some (.lst acc) ∧ acc.length < sizeLine ∧ Nx (upd H4 D (.lst (acc ++ [y]))) else Nx H3)
theorem pe_lcX {X : Cx} {W : WX} {elt tg iter : Expr} {ifs : List Expr} {scope : Scope} {own : List (Str × Nat)} {pos : Pos} {wi : TI} {g : TG} {tt : TT} {te : WX → TE} (hc : X.calm = true) (hN : X.N.Nodup) (hi : PI X tg iter wi) (ok : BlkOk X.N X.env.scope scope own)
    (hg : ∀ (s : Shared) (H : Hp) (C : Addr) (cl : List (Str × Addr)) (fp : List Addr), PG (X.blk s H scope (compEnvC scope cl C X.env) fp) tg g) (ht : ∀ (s : Shared) (H : Hp) (C : Addr) (cl : List (Str × Addr)) (fp : List Addr), PTs (X.blk s H scope (compEnvC scope cl C X.env) fp) ifs tt)
    (he : ∀ (s : Shared) (H : Hp) (C : Addr) (cl : List (Str × Addr)) (fp : List Addr) (xe : Value → Shared → Prop) (Wb : WX), (∀ σ, PassesAt (CX X.prog X.w) (X.blkX s H scope (compEnvC scope cl C X.env) fp xe) σ (WE Wb σ)) → PE (X.blkX s H scope (compEnvC scope cl C X.env) fp xe) elt (te Wb))
    (tk : Takes X W) (hst : X.stack = X.env :: X.outer) (hfr : X.env.frame = some X.env.locals) (hs : ∀ x, foldedSetIterable iter X.env x = pure x := by intro _; rfl) :
    PE X (.ListComp elt [⟨tg, iter, ifs, 0⟩] scope pos) (tLcX wi g tt te (own.map (·.2)) W) := by
  refine ⟨fun pins s σ H Q I h => ?_⟩
  rw [eval_ListComp]
  have hfree : ∀ y ∈ scope.names, y.2 = .free → ∃ c, X.env.cells.lookup y.1 = some c := fun y hy e => by
    rcases ok.free y hy e with k | k
    · exact I.ok.has _ (.inl k)
    · exact I.ok.has _ (.inr k)
  refine comp_freeX rfl hs (closure_ok hfree) ok.kind (fun y hy e => by rw [ok.uniq y hy, e]) (thn (hi.run pins s σ H _ I h) fun xv s1 hx => thn hx fun itv s2 h2 => ?_)
  obtain ⟨it, fp, tn, J, H2, e, I2, T, st2, f2, q⟩ := h2
  subst e
  refine wpAny_newObj_type (newEnv_comp ?_) (by show 0 ≤ sizeLine; decide)
  generalize hD : s2.heap.objs.size = D
  have hDn : H2 D = none := I2.hok.fresh (Nat.le_of_eq hD)
  obtain ⟨Wi, ⟨m0, w0⟩, turn⟩ := q D hDn
  generalize hs3 : ({ s2 with heap := s2.heap.push { cls := .type "list", data := .seq ([] : List Value).toArray } } : Shared) = s3
  have I3 : Inv X pins σ (upd H2 D (.lst [])) s3 := by
    rw [← hs3]
    refine I2.laid (t' := s2.toks) (fun b o e => Heap.get?_push_of_some _ e) (Nat.le_of_eq hD) ⟨Nat.zero_le _, [], 0, .nil, ?_⟩
    rw [← hD]
    exact Heap.get?_push_size _ rfl
  have h3 : s3.heap = s2.heap.push { cls := .type "list", data := .seq ([] : List Value).toArray } := by rw [← hs3]
  have f3 : ∀ b ∈ fp, FpOk X pins (upd H2 D (.lst [])) b ∧ b < s3.heap.objs.size := fun b hb => by
    obtain ⟨o, e, _⟩ := T.obj _ _ st2 b hb
    have hlt := Heap.lt_size e
    refine ⟨⟨?_, (f2 b hb).2⟩, by rw [h3, Heap.size_push]; exact Nat.lt_succ_of_lt hlt⟩
    rw [upd_ne (by rw [← hD]; exact Nat.ne_of_lt hlt)]
    exact (f2 b hb).1
  have st3 : tn 0 s3.heap := T.keep _ _ _ st2 fun b _ o e => by rw [h3]; exact Heap.get?_push_of_some _ e
  have I4 := block_start I3 ok hN f3
  have pg := hg s3 (upd H2 D (.lst [])) s3.heap.objs.size (cellsFrom (s3.heap.objs.size + 1) scope.names (cloFrom X.env.cells scope.names [])) fp
  have pt := ht s3 (upd H2 D (.lst [])) s3.heap.objs.size (cellsFrom (s3.heap.objs.size + 1) scope.names (cloFrom X.env.cells scope.names [])) fp
  have pe := he s3 (upd H2 D (.lst [])) s3.heap.objs.size (cellsFrom (s3.heap.objs.size + 1) scope.names (cloFrom X.env.cells scope.names [])) fp
  show codeAny _ _ (.compStart (.ListComp elt [⟨tg, iter, ifs, 0⟩] scope pos) 0 (.ref it) (.ref D) (compEnvC scope (cellsFrom (s3.heap.objs.size + 1) scope.names (cloFrom X.env.cells scope.names [])) s3.heap.objs.size X.env)) (compPostX (model X.prog X.w) X.A X.xe _ (.ref D) s3.heap.objs.size X.env.frame) { s3 with heap := pushCells (s3.heap.push { cls := .type "dict", data := .dict #[] }) scope.names }
  have nfp : ∀ b ∈ fp, (upd H2 D (.lst [])) b = none := fun b hb => (f3 b hb).1.1
  generalize hce : compEnvC scope (cellsFrom (s3.heap.objs.size + 1) scope.names (cloFrom X.env.cells scope.names [])) s3.heap.objs.size X.env = ce at I4 pg pt pe ⊢
  have cL : ce.locals = s3.heap.objs.size := by subst hce; rfl
  have cF : ce.frame = X.env.frame := by subst hce; rfl
  generalize hH3 : upd H2 D (.lst []) = H3 at I3 I4 pg pt pe w0 nfp f3
  generalize hs4 : ({ s3 with heap := pushCells (s3.heap.push { cls := .type "dict", data := .dict #[] }) scope.names } : Shared) = s4 at I4 ⊢
  have st4 : tn 0 s4.heap := T.keep _ _ _ st3 fun b _ o e => by rw [← hs4]; exact pushCells_keeps _ _ _ _ (Heap.get?_push_of_some _ e)
  have stat : ∀ {σ' : St} {H' : Hp} {s' : Shared}, Inv (X.blk s3 H3 scope ce fp) [] σ' H' s' → (∀ b ∈ fp, H' b = none) → ∀ b ∈ fp, FpOk (X.blk s3 H3 scope ce fp) [] H' b := fun {σ' H' s'} I' hn b hb =>
    ⟨hn b hb, (I'.ok.exf b hb).1, I'.ok.exfs b hb, .inl hb, fun x c e => (I'.ok.exf b hb).2 x c e, fun p hp => absurd (show p ∈ ([] : List (Addr × Obj)) ++ [] from hp) (by simp)⟩
  have loop : codeAny (model X.prog X.w) X.A (.compLoop (.ListComp elt [⟨tg, iter, ifs, 0⟩] scope pos) 0 (.ref it) (.ref D) ce) (compPostX (model X.prog X.w) X.A X.xe (fun u s' => ∃ v H', Inv X pins σ H' s' ∧ RelV v u ∧ Q v H') (.ref D) s3.heap.objs.size X.env.frame) s4 := by
    refine compLoop_any (fun n s' => ∃ i H', Inv (X.blk s3 H3 scope ce fp) [] (wipe σ (own.map (·.2))) H' s' ∧ tn i s'.heap ∧ (∀ b ∈ fp, H' b = none) ∧ Wi i n H') ?_ m0 ⟨0, H3, I4, st4, nfp, w0⟩
    rintro n s5 ⟨i, H5, I5, st5, n5, w5⟩
    rcases turn i n H5 w5 with ⟨stop, qq⟩ | ⟨go, Nx, hNx, step⟩
    · have td := T.done (X.blk s3 H3 scope ce fp) rfl rfl rfl hc i [] s5 _ H5 (fun _ _ => False) I5 (stat I5 n5) st5 stop
      refine thnF td fun r s6 ⟨hr, I6⟩ => ?_
      subst hr
      have I7 : Inv X pins σ H5 s6 := I3.call' (ch := fp) I6.os I6.base I6.hok I6.bare fun b hb => ⟨(f3 b hb).1.2.2.2.1, (f3 b hb).1.2.1, (f3 b hb).1.2.2.2.2.1, (f3 b hb).1.2.2.2.2.2⟩
      have nC : H5 s3.heap.objs.size = none := by
        have z : H5 ce.locals = none := I6.free
        rw [cL] at z
        exact z
      obtain ⟨m, hn, _⟩ := I6.loc
      have hn : s6.heap.Ns ce.locals m := hn
      rw [cL] at hn
      refine ⟨m, hn, fun h'' sb => ?_⟩
      obtain ⟨p0, p1, p2, p3, p4, p5⟩ := I3.fpOk (Nat.le_refl _) nC
      exact ⟨.ref D, H5, I7.turned (t' := s6.toks) (fun b o hb e => (sb.2 b hb).trans e) p0 p1 p3 p4 p5, rfl, qq⟩
    · have ti := T.item (X.blk s3 H3 scope ce fp) rfl rfl rfl hc i [] s5 _ H5 (fun _ _ => False) I5 (stat I5 n5) st5 go
      refine thnF ti fun r s6 ⟨u, hr, h6⟩ => ?_
      subst hr
      refine thnF h6 fun _ s7 ⟨x, H7, I7, r7, y7, st7, n7⟩ => ?_
      have I7' := I7.pinned (stat I7 n7) (T.obj _ _ st7)
      refine thnF (pg.run _ s7 _ H7 x u _ I7' r7 (step x H7 y7)) fun _ s8 ⟨σ8, H8, I8, hw8, q8⟩ => ?_
      refine thnF (pt.run _ s8 σ8 H8 _ I8 q8) fun b s9 ⟨H9, I9, q9⟩ => ?_
      have fin : ∀ {s' : Shared} {H' : Hp}, Inv (X.blk s3 H3 scope ce fp) ([] ++ pinsAt fp s7.heap) σ8 H' s' → Nx H' → ∃ m, m < n ∧ ∃ i H', Inv (X.blk s3 H3 scope ce fp) [] (wipe σ (own.map (·.2))) H' s' ∧ tn i s'.heap ∧ (∀ b ∈ fp, H' b = none) ∧ Wi i m H' := fun {s' H'} I' nx => by
        obtain ⟨m', hm, w'⟩ := hNx H' nx
        have pin' : ∀ b ∈ fp, ∀ o, s7.heap.get? b = some o → s'.heap.get? b = some o ∧ H' b = none := fun b hb o e =>
          let z := I'.pin (b, o) (List.mem_append_right _ (List.mem_append_right _ (mem_pinsAt hb e)))
          ⟨z.1, z.2.1⟩
        have hl : (wipe σ (own.map (·.2))).length = σ8.length := by rw [← hw8, wipe_length]
        refine ⟨m', hm, i + 1, H', (I'.unpinned (pins := [])).weak hl (fun j v e => ?_), T.keep _ _ _ st7 fun b hb o e => (pin' b hb o e).1, fun b hb => ?_, w'⟩
        · rw [← hw8] at e
          exact (wipe_some e).1
        · obtain ⟨o, e, _⟩ := T.obj _ _ st7 b hb
          exact (pin' b hb o e).2
      cases b with
      | false =>
        simp only [Bool.false_eq_true, if_false] at q9 ⊢
        exact fin I9 q9
      | true =>
        simp only [if_true] at q9 ⊢
        have run := (pe (fun u s' => ∃ pb σb H9 s9, Inv (X.blk s3 H3 scope ce fp) pb σb H9 s9 ∧ CX X.prog X.w X.stack H9 s9 (fun cls d H' => W cls d σ H') u s') (fun cls d _ H' => W cls d σ H')
          (fun σb pb H9 s9 u s' Ib c => ⟨pb, σb, H9, s9, Ib.unwish, c⟩)).run _ s9 σ8 H9 _ (I9.wish _) q9
        refine wpAny_mono run (fun z s10 ⟨yv, H10, I10, r10, acc, hD10, hz10, nx⟩ => ?_) fun u s10 ⟨pb, σb, H9', s9', Ib, c⟩ => ?_
        · exact app_ok (X := X.blk s3 H3 scope ce fp) I10.unwish hD10 hz10 r10 fun s11 I11 => fin I11 nx
        · have z := blk_exc (Ex := fun e s' => (compPostX (model X.prog X.w) X.A X.xe (fun u s' => ∃ v H', Inv X pins σ H' s' ∧ RelV v u ∧ Q v H') (.ref D) s3.heap.objs.size X.env.frame) (.error e) s') I3 Ib (fun b hb => (f3 b hb).1) cL cF hst hfr tk (fun _ _ _ h => h) c
          unfold notedBy
          rw [cL] at z
          rw [cF] at z
          exact wpAny_mono z (fun _ _ q => q) fun _ _ q => q
  exact codeAny_compStart_list loop (T.self X.A 0 _ _ _ st4 loop)
end L2
set_option Elab.async false
set_option linter.all false
set_option maxRecDepth 100000
set_option maxHeartbeats 4000000
/-! DL, part zj: a comprehension whose elements may raise, over data. -/
namespace DL
open PySem PySem.Spec PyProof.Rows L2

def frz1 : S → S
  | .fr d => .fr d
  | .rf a => .rf a
  | _ => .un
/-- what is still known when the block has been left by an exception -/
def frzE (E : List S) : List S := E.map frz1
section
variable {C : Ctx} {ps ps2 : Sg} {Ep Ep2 : List S} {Z Z' : Addr → Prop} {σ σ2 : Sg} {E E2 : List S} {H H' : Hp}
theorem At.thaw (w : At C ps Ep Z σ E H) (st : Stp Z H Z' H') (w2 : At C ps2 Ep2 Z' σ2 E2 H') : At C [] [] Z' σ (frzE E) H' := by
  obtain ⟨hn, τ, hl, F, f⟩ := w
  obtain ⟨_, _, _, F2, f2⟩ := w2
  have hl' : (σ ++ τ).length = (frzE E).length := by rw [List.length_append, hl]; exact (List.length_map ..).symm
  refine ⟨hn, τ, by rw [← List.length_append]; exact hl', fun _ => [], ?_, fun i a h => (by cases h), fun i t a e _ h => (by cases h), fun i t a e _ h => (by cases h), fun i t e => ?_, f2.fr, f2.z0, f2.zn, f2.zt, f2.kt, f2.fl, fun j b n e => ?_⟩
  · rw [List.append_nil, List.append_nil]
    refine ⟨hl', fun i s e => ?_, fun _ _ => rfl, fun _ => List.nodup_nil, fun i j a h => (by cases h)⟩
    have e : (E.map frz1)[i]? = some s := e
    rw [List.getElem?_map] at e
    obtain ⟨s0, e0, rfl⟩ := Option.map_eq_some_iff.mp e
    have hi := (List.getElem?_eq_some_iff.mp e0).1
    have hi2 : i < (σ ++ τ).length := by rw [List.length_append]; omega
    cases s0 with
    | fr d =>
      have r := f.sl.rep i _ (up_get e0)
      obtain ⟨_, v, ev, rv⟩ := r
      rw [getD_left hi2] at ev
      exact ⟨rfl, v, ev, rv.mono st⟩
    | rf a =>
      have r := f.sl.rep i _ (up_get e0)
      obtain ⟨_, ev⟩ := r
      rw [getD_left hi2] at ev
      exact ⟨rfl, ev⟩
    | un => rfl
    | ow t => rfl
    | mu t => rfl
    | nw a n => rfl
    | nm a n => rfl
  · rw [List.append_nil] at e
    have e : (E.map frz1)[i]? = some (.mu t) := e
    rw [List.getElem?_map] at e
    obtain ⟨s0, e0, es⟩ := Option.map_eq_some_iff.mp e
    cases s0 <;> cases es
  · rw [List.append_nil] at e
    have e : (E.map frz1)[j]? = some (.nm b n) := e
    rw [List.getElem?_map] at e
    obtain ⟨s0, e0, es⟩ := Option.map_eq_some_iff.mp e
    cases s0 <;> cases es
end
def Pass (X : Cx) (W : WX) : Prop := ∀ σ, PassesAt (L2.CX X.prog X.w) X σ (WE W σ)
theorem Pass.imp {X : Cx} {W W' : WX} (p : Pass X W) (h : ∀ c d σ H, W' c d σ H → W c d σ H) : Pass X W' := fun σ pins H s e s' I ⟨a, B, H', cls, d, e1, q1, q2, q3, q4, q5, q6, q7⟩ =>
  p σ pins H s e s' I ⟨a, B, H', cls, d, e1, q1, q2, q3, q4, q5, q6, h _ _ _ _ q7⟩
section
variable {C : Ctx} {X : Cx} {pos : Pos} {k n : Nat} {f : Addr} {fd : FuncData} {prs : List Str} {sx : SpX} {x : Str} {p : Pos} {e : Expr} {es : List Expr} {ta : TAm} {Wd : WdX} {st : Stmt}
/-- a call within such an element -/
theorem dcallp (G : FnOk X.prog X.w X.K X.mg X.base (L2.CX X.prog X.w) k f fd prs (spX X.K n sx)) (Dn' : Dn X.K X.mg x st prs f fd) (pa : Pass X (wxOf C Wd)) (hr : Room k X.A) (ha : DM C X (e :: es) ta) (hg : Gl X x := by rfl) (hn : n = (e :: es).length := by rfl) (hK : X.K = C.K := by rfl)
    (hdb : (x == ("__debug__" : Str)) = false := by decide) (he : starEach (e :: es) X.env = (false, eval e X.env) :: starEach es X.env := by rfl) (hpl : (backTo pos (starEach es X.env)).any (·.1) = false := by rfl) :
    DE C X (.Call (.Name x p) (e :: es) [] pos) (tCallXD sx Wd ta) := (pe_callSD G hr hg Dn'.m Dn'.F.kp Dn'.b .nil pa ha hdb he hpl).imp fun σ H Q ⟨ps, Ep, E, Z, Qd, w, h, post⟩ => by
  subst hn
  rw [hK]
  refine callX_imp (Qr := fun r E' => match r with | .fr d => Qd d E' | _ => False) w h fun r E' Z' H' v R st q => ?_
  cases r with
  | fr d => exact post d E' Z' H' v R.1 st R.2 q
  | un => cases q
  | ow t => cases q
  | mu t => cases q
  | rf a => cases q
  | nw a n => cases q
  | nm a n => cases q
end
section
variable {C : Ctx} {X : Cx} {Wd : WdX}
def tLcXD (t : TIt) (g : TGD) (tt : TB) (te : WdX → TD) (own : List Nat) (Wd : WdX) : TN := fun E Q => t E fun ds E1 => ∃ I : Nat → List D → List S → Prop, I 0 [] (wipeE E1 own) ∧
  (∀ (i : Nat) d acc E', ds[i]? = some d → I i acc E' → g d E' fun E2 => tt E2 fun b E3 => brB b (te (fun x _ => Wd x (frzE E1)) E3 fun y E4 => acc.length < sizeLine ∧ I (i + 1) (acc ++ [y]) (wipeE E4 own)) (I (i + 1) acc (wipeE E3 own))) ∧
  ∀ acc E', I ds.length acc E' → (∀ j ∈ own, E'[j]? = some .un ∨ E'[j]? = none) → Q (.lst acc) E'
/-- an element's reading, at its own floor -/
def teX (C : Ctx) (te : WdX → TD) : WX → TE := fun Wb σ H Q => ∃ fZ fH Wd', (∀ cls d σ' H', wxOf (C.on fZ fH) Wd' cls d σ' H' → Wb cls d σ' H') ∧ teOf (C.on fZ fH) (te Wd') σ H Q
theorem lcX_imp {t : TIt} {g : TGD} {tt : TB} {te : WdX → TD} {own : List Nat} {gs : List Nat} (hgs : ∀ j ∈ gs, j ∈ own) (σ : Sg) (H : Hp) (Q : VK) (h : neOf C (tLcXD t g tt te own Wd) σ H Q) : tLcX (tiOf C t) (tgOf C gs g) (ttOf C tt) (teX C te) own (wxOf C Wd) σ H Q := by
  obtain ⟨ps, Ep, E, Z, _, w, h, post⟩ := h
  refine ⟨ps, Ep, E, Z, _, w, h, fun J ds E1 Z1 H1 w1 st1 wk ⟨I, i0, step, fin⟩ D' hD => ?_⟩
  obtain ⟨stp, wp⟩ := w1.push hD (vs := []) (ds := []) .nil
  refine ⟨fun i m H' => m = ds.length - i ∧ i ≤ ds.length ∧ ∃ E' Z' acc, At C (ps ++ [some (.ref D')]) (Ep ++ [.ow (.lst acc)]) Z' (L2.wipe σ own) E' H' ∧ Stp Z1 H1 Z' H' ∧ I i acc E' ∧ ∀ j ∈ own, E'[j]? = some .un ∨ E'[j]? = none,
    ⟨_, rfl, Nat.zero_le _, _, Z1, [], wp.wipe own, stp, i0, wipeE_un _ _⟩, ?_⟩
  rintro i m H' ⟨rfl, hle, E', Z', acc, w', st', hi', hun⟩
  by_cases hlt : i < ds.length
  · obtain ⟨go, yl⟩ := wk.go Z' _ E' H' _ _ st' w' trivial i _ (List.getElem?_eq_getElem hlt)
    refine .inr ⟨go, fun H2 => ∃ E2 Z2 acc, At C (ps ++ [some (.ref D')]) (Ep ++ [.ow (.lst acc)]) Z2 (L2.wipe σ own) E2 H2 ∧ Stp Z1 H1 Z2 H2 ∧ I (i + 1) acc E2 ∧ ∀ j ∈ own, E2[j]? = some .un ∨ E2[j]? = none,
      fun H2 ⟨E2, Z2, acc2, w2, st2, h2, u2⟩ => ⟨ds.length - (i + 1), by omega, rfl, hlt, E2, Z2, acc2, w2, st2, h2, u2⟩, fun x H3 y => ?_⟩
    obtain ⟨hh, rx⟩ := yl x H3 y
    have w3 : At C (ps ++ [some (.ref D')]) (Ep ++ [.ow (.lst acc)]) Z' (L2.wipe σ own) E' H3 ∧ Stp Z' H' Z' H3 := by
      rcases hh with e | ⟨p, o, hp, e⟩
      · subst e; exact ⟨w', Stp.refl _ _⟩
      · subst e; exact ⟨w'.new hp, Stp.new w'.zt hp⟩
    have stA := st'.trans w3.2
    refine ⟨_, _, E', Z', _, _, w3.1, rx, step i _ acc E' (List.getElem?_eq_getElem hlt) hi', fun σ2 E2 w2 k2 h2 => ?_⟩
    have hl2 : σ2.length = (L2.wipe σ own).length := k2.1
    have ww : L2.wipe σ2 own = L2.wipe σ own := by
      rw [wipe_eq (σ := L2.wipe σ own) (fun j hj => k2.2 j fun m => hj (hgs j m)) hl2]
      refine wipe_eq (fun j hj => wipe_out hj) (wipe_length σ own)
    refine ⟨ww, _, _, E2, Z', _, w2, h2, fun b E3 Z3 H4 w4 st4 h4 => ?_⟩
    cases b with
    | true =>
      rw [if_pos rfl]
      replace h4 := h4.t
      refine ⟨Z1, H1, fun x _ => Wd x (frzE E1), ?imp, _, _, E3, Z3, _, w4.floor (stA.trans st4), h4, ?nx⟩
      case imp =>
        rintro cls d σ' H5 ⟨ps', Ep', Z5, E5, x5, w5, xr, hw⟩
        have s15 : Stp Z1 H1 Z5 H5 := w5.fl
        have w6 : At C ps' Ep' Z5 σ' E5 H5 := w5.floor (gZ := C.fZ) (gH := C.fH) (w1.fl.trans s15)
        exact ⟨_, _, Z5, _, x5, w1.thaw s15 w6, xr, hw⟩
      case nx =>
        rintro d E5 Z5 H5 v w5 st5 r5 ⟨hz, h5⟩
        have w5' : At C _ _ Z5 σ2 E5 H5 := w5.floor (gZ := C.fZ) (gH := C.fH) (w4.fl.trans st5)
        obtain ⟨vs, e6, l6, st6, w6⟩ := w5'.snocP r5
        refine ⟨vs, e6, by rw [l6]; exact hz, wipeE E5 own, Z5, acc ++ [d], ?_, stA.trans (st4.trans (st5.trans st6)), h5, wipeE_un _ _⟩
        rw [← ww]
        exact w6.wipe own
    | false =>
      rw [if_neg Bool.false_ne_true]
      replace h4 := h4.f
      refine ⟨wipeE E3 own, Z3, acc, ?_, stA.trans st4, h4, wipeE_un _ _⟩
      rw [← ww]
      exact w4.wipe own
  · have e : i = ds.length := by omega
    subst e
    refine .inl ⟨wk.stop Z' _ E' H' _ _ st' w' trivial _ (Nat.le_refl _), post _ E' Z' H' _ (w'.resig (wipe_length σ own).symm fun j s ej hs => ?_) (st1.trans st') (fin acc E' hi' hun)⟩
    have hj : j ∉ own := fun m => by
      rcases hun j m with z | z
      · rw [ej] at z; cases z; exact hs rfl
      · rw [ej] at z; cases z
    exact (wipe_out hj).symm
theorem dn_lcX {elt tg iter : Expr} {ifs : List Expr} {scope : Scope} {own : List (Str × Nat)} {pos : Pos} {t : TIt} {g : TGD} {tt : TB} {te : WdX → TD} {gs : List Nat} (hN : X.N.Nodup) (tk : Takes X (wxOf C Wd)) (hi : DI C X tg iter t) (ok : BlkOk X.N X.env.scope scope own)
    (hg : ∀ (s : Shared) (H : Hp) (a : Addr) (cl : List (Str × Addr)) (fp : List Addr), DG C (X.blk s H scope (compEnvC scope cl a X.env) fp) gs tg g) (ht : ∀ (s : Shared) (H : Hp) (a : Addr) (cl : List (Str × Addr)) (fp : List Addr), PTs (X.blk s H scope (compEnvC scope cl a X.env) fp) ifs (ttOf C tt))
    (he : ∀ (s : Shared) (H : Hp) (a : Addr) (cl : List (Str × Addr)) (fp : List Addr) (xe : Value → Shared → Prop) (fZ : Addr → Prop) (fH : Hp) (Wd' : WdX), Pass (X.blkX s H scope (compEnvC scope cl a X.env) fp xe) (wxOf (C.on fZ fH) Wd') → DE (C.on fZ fH) (X.blkX s H scope (compEnvC scope cl a X.env) fp xe) elt (te Wd'))
    (hc : X.calm = true := by rfl) (hgs : ∀ j ∈ gs, j ∈ own.map (·.2) := by decide) (hst : X.stack = X.env :: X.outer := by rfl) (hfr : X.env.frame = some X.env.locals := by rfl) (hs : ∀ x, foldedSetIterable iter X.env x = pure x := by intro _; rfl) :
    DN C X (.ListComp elt [⟨tg, iter, ifs, 0⟩] scope pos) (tLcXD t g tt te (own.map (·.2)) Wd) :=
  (pe_lcX (te := teX C te) hc hN hi ok hg ht (fun s H a cl fp xe Wb pb => ⟨fun pins s' σ H' Q I ⟨fZ, fH, Wd', imp, q⟩ => (he s H a cl fp xe fZ fH Wd' (Pass.imp pb imp)).run pins s' σ H' Q I q⟩) tk hst hfr hs).imp (lcX_imp hgs)
end
end DL
set_option maxRecDepth 100000
/-! DL, part zk: // by a number of any sign. -/
namespace DL
open PySem PySem.Spec PyProof.Rows L2
section
variable {C : Ctx} {X : Cx}
theorem o_fdivN : OpR X (binaryOp .FloorDiv) (rI CDivN fun i j => .int (i.fdiv j)) ∧ Meets C (oIc CDivN (iInt fun i j => i.fdiv j)) (rI CDivN fun i j => .int (i.fdiv j)) := ⟨op_fdivN, meets_Ic (fun _ _ _ _ _ => .int _) fun _ _ h => h⟩
end
end DL
set_option Elab.async false
set_option linter.all false
set_option maxRecDepth 100000
set_option maxHeartbeats 4000000
/-! DL, part zl: small facts for walks. -/
namespace DL
open PySem PySem.Spec PyProof.Rows L2
theorem kit_int_int : kitB "int" "int" = some true := by decide +kernel
theorem kit_int_bool : kitB "int" "bool" = some false := by decide +kernel
theorem kit_int_str : kitB "int" "str" = some false := by decide +kernel
theorem kit_int_tuple : kitB "int" "tuple" = some false := by decide +kernel
theorem kit_int_list : kitB "int" "list" = some false := by decide +kernel
theorem kit_bool_int : kitB "bool" "int" = some true := by decide +kernel
theorem kit_bool_bool : kitB "bool" "bool" = some true := by decide +kernel
theorem kit_bool_str : kitB "bool" "str" = some false := by decide +kernel
theorem kit_bool_tuple : kitB "bool" "tuple" = some false := by decide +kernel
theorem kit_bool_list : kitB "bool" "list" = some false := by decide +kernel
theorem kit_NoneType_int : kitB "NoneType" "int" = some false := by decide +kernel
theorem kit_NoneType_bool : kitB "NoneType" "bool" = some false := by decide +kernel
theorem kit_NoneType_str : kitB "NoneType" "str" = some false := by decide +kernel
theorem kit_NoneType_tuple : kitB "NoneType" "tuple" = some false := by decide +kernel
theorem kit_NoneType_list : kitB "NoneType" "list" = some false := by decide +kernel
theorem kit_str_int : kitB "str" "int" = some false := by decide +kernel
theorem kit_str_bool : kitB "str" "bool" = some false := by decide +kernel
theorem kit_str_str : kitB "str" "str" = some true := by decide +kernel
theorem kit_str_tuple : kitB "str" "tuple" = some false := by decide +kernel
theorem kit_str_list : kitB "str" "list" = some false := by decide +kernel
theorem kit_tuple_int : kitB "tuple" "int" = some false := by decide +kernel
theorem kit_tuple_bool : kitB "tuple" "bool" = some false := by decide +kernel
theorem kit_tuple_str : kitB "tuple" "str" = some false := by decide +kernel
theorem kit_tuple_tuple : kitB "tuple" "tuple" = some true := by decide +kernel
theorem kit_tuple_list : kitB "tuple" "list" = some false := by decide +kernel
theorem kit_list_int : kitB "list" "int" = some false := by decide +kernel
theorem kit_list_bool : kitB "list" "bool" = some false := by decide +kernel
theorem kit_list_str : kitB "list" "str" = some false := by decide +kernel
theorem kit_list_tuple : kitB "list" "tuple" = some false := by decide +kernel
theorem kit_list_list : kitB "list" "list" = some true := by decide +kernel
theorem eqv_int (i j : Int) : (D.int i).eqv (.int j) = decide (i = j) := by
  show (i == j) = _
  by_cases h : i = j <;> simp [h]
theorem eqv_str (a b : Str) : (D.str a).eqv (.str b) = decide (a = b) := by
  show (a == b) = _
  by_cases h : a = b <;> simp [h]
theorem eqv_bl (a b : Bool) : (D.bl a).eqv (.bl b) = decide (a = b) := by
  cases a <;> cases b <;> rfl
theorem shp_str {x : Str} (h : x.length ≤ sizeLine) (hc : ∀ (i : Nat) (q : i < x.cps.size), x.cps[i] < 1114112) : (D.str x).shp = true := by
  have e : (PyData.str x).canLay0 = true := by simp [PyData.canLay0, PyData.strOk, h]; exact hc
  unfold D.shp SeqAt.shaped D.py
  rw [e]
  simp [PyData.depth]
theorem shp_int (x : Int) : (D.int x).shp = true := rfl
theorem shp_bl (x : Bool) : (D.bl x).shp = true := rfl
theorem shp_non : D.non.shp = true := rfl
end DL
set_option Elab.async false
set_option linter.all false
set_option maxRecDepth 100000
set_option maxHeartbeats 4000000
/-! DL, part zm: == and != that tell plain things apart at once. -/
namespace DL
open PySem PySem.Spec PyProof.Rows L2
section
variable {C : Ctx} {X : Cx}
/-- == : ints, truth values, texts, None by themselves; else data of any depth -/
def eqG (x y : D) (k : Bool → Prop) : Prop := match x, y with
  | .int i, .int j => k (decide (i = j))
  | .str a, .str b => k (decide (a = b))
  | .bl a, .bl b => k (decide (a = b))
  | .non, .non => k true
  | .non, .int _ => k false
  | .int _, .non => k false
  | .non, .str _ => k false
  | .str _, .non => k false
  | .int _, .str _ => k false
  | .str _, .int _ => k false
  | .bl _, .str _ => k false
  | .str _, .bl _ => k false
  | .non, .bl _ => k false
  | .bl _, .non => k false
  | x, y => (x.shp = true ∧ y.shp = true) ∧ k (x.eqv y)
def oEqG : O2 := fun x y q => eqG x y fun b => q (.bl b)
def oNeG : O2 := fun x y q => eqG x y fun b => q (.bl (!b))
def rEqG (K : PySem.W.Frag) : R2 := fun x y H Q => rEq x y H Q ∨ rEqD K x y H Q
def rNeG (K : PySem.W.Frag) : R2 := fun x y H Q => rNe x y H Q ∨ rNeD K x y H Q
theorem eqG_of {Z : Addr → Prop} {H : Hp} {v w : V} {x y : D} {k : Bool → Prop} (rx : Rep C.K Z H v x) (ry : Rep C.K Z H w y) (h : eqG x y k) :
    (scal v w = true ∧ k (decide (v = w))) ∨ (x.shp = true ∧ y.shp = true) ∧ k (x.eqv y) := by
  unfold eqG at h
  split at h
  case h_1 => cases rx; cases ry; exact .inl ⟨rfl, by simpa using h⟩
  case h_2 => cases rx; cases ry; exact .inl ⟨rfl, by simpa using h⟩
  case h_3 => cases rx; cases ry; exact .inl ⟨rfl, by simpa using h⟩
  case h_4 => cases rx; cases ry; exact .inl ⟨rfl, h⟩
  case h_5 => cases rx; cases ry; exact .inl ⟨rfl, h⟩
  case h_6 => cases rx; cases ry; exact .inl ⟨rfl, h⟩
  case h_7 => cases rx; cases ry; exact .inl ⟨rfl, h⟩
  case h_8 => cases rx; cases ry; exact .inl ⟨rfl, h⟩
  case h_9 => cases rx; cases ry; exact .inl ⟨rfl, h⟩
  case h_10 => cases rx; cases ry; exact .inl ⟨rfl, h⟩
  case h_11 => cases rx; cases ry; exact .inl ⟨rfl, h⟩
  case h_12 => cases rx; cases ry; exact .inl ⟨rfl, h⟩
  case h_13 => cases rx; cases ry; exact .inl ⟨rfl, h⟩
  case h_14 => cases rx; cases ry; exact .inl ⟨rfl, h⟩
  case h_15 => exact .inr h
theorem o_eqG (hu : X.A.units + 64 < cLine) (hK : X.K = C.K := by rfl) : OpR X (compareOp .Eq) (rEqG X.K) ∧ Meets C oEqG (rEqG X.K) := ⟨op_eq.or (op_eqD hu), fun Z H v w x y q Q rx ry h k => by
  rw [hK]
  rcases eqG_of rx ry h with ⟨s, h⟩ | ⟨s, h⟩
  · exact .inl ⟨s, k _ _ (.bl _) h⟩
  · exact .inr ⟨_, _, rx.dp (shp_lay s.1), ry.dp (shp_lay s.2), s.1, s.2, k _ _ (.bl _) h⟩⟩
theorem o_neG (hu : X.A.units + 64 < cLine) (hK : X.K = C.K := by rfl) : OpR X (compareOp .NotEq) (rNeG X.K) ∧ Meets C oNeG (rNeG X.K) := ⟨op_ne.or (op_neD hu), fun Z H v w x y q Q rx ry h k => by
  rw [hK]
  rcases eqG_of rx ry h with ⟨s, h⟩ | ⟨s, h⟩
  · exact .inl ⟨s, k _ _ (.bl _) h⟩
  · exact .inr ⟨_, _, rx.dp (shp_lay s.1), ry.dp (shp_lay s.2), s.1, s.2, k _ _ (.bl _) h⟩⟩
end
end DL
namespace DL
open PySem PySem.Spec PyProof.Rows L2
theorem cmL {i j : Int} (h : (decide (-(2 ^ 64) < i) && decide (i < 2 ^ 64)) = true) : CMul i j := .inl (by simpa using h)
theorem cmR {i j : Int} (h : (decide (-(2 ^ 64) < j) && decide (j < 2 ^ 64)) = true) : CMul i j := .inr (by simpa using h)
theorem cmLb {i j : Int} (h : -(2 ^ 64) < i ∧ i < 2 ^ 64) : CMul i j := .inl h
theorem cmRb {i j : Int} (h : -(2 ^ 64) < j ∧ j < 2 ^ 64) : CMul i j := .inr h
end DL
namespace DL
theorem qd_eq {Qd : S → List S → Prop} {d d' : D} {E E' : List S} (q : Qd (.fr d) E) (h : d = d') (hE : E = E') : Qd (.fr d') E' := by subst h; subst hE; exact q
end DL
namespace DL
open PySem PySem.Spec PyProof.Rows L2
theorem fn_neverX {P : Program} {w : World} {K : Frg} {mg : Str → Option Value} {base : Heap} {CX : CXT} {k n : Nat} {f : Addr} {fd : FuncData} {ps : List Str} {sx : SpX} (h : ∀ a q w, ¬ sx a q w) : FnOk P w K mg base CX k f fd ps (spX K n sx) :=
  ⟨fun vs H Q E ⟨_, _, _, _, _, _, _, _, _, _, q, _⟩ => (h _ _ _ q).elim, fun A outer s H args us vs Q E _ _ _ _ ⟨_, _, _, _, _, _, _, _, _, _, q, _⟩ => (h _ _ _ q).elim⟩
end DL
set_option Elab.async false
set_option linter.all false
set_option maxRecDepth 100000
set_option maxHeartbeats 4000000
/-! DL, part zn: small lemmas on lists. -/
namespace DL
open PySem PySem.Spec PyProof.Rows L2
theorem map_at {α : Type} {f : α → D} {l : List α} {i : Nat} {d : D} (h : (l.map f)[i]? = some d) : ∃ z, d = f z ∧ l[i]? = some z := by
  rw [List.getElem?_map] at h
  cases e : l[i]? with
  | none => rw [e] at h; cases h
  | some z => rw [e] at h; cases h; exact ⟨z, rfl, rfl⟩
/-- data that may be compared, of nesting at most n -/
def D.shpn (n : Nat) (d : D) : Prop := d.py.canLay0 = true ∧ d.py.depth ≤ n
theorem D.shpn.shp {n : Nat} {d : D} (h : d.shpn n) (hn : n ≤ 64 := by decide) : d.shp = true := by
  unfold D.shp SeqAt.shaped
  rw [h.1, decide_eq_true (Nat.le_trans h.2 hn)]
  rfl
theorem D.shpn.mono {n m : Nat} {d : D} (h : d.shpn n) (hn : n ≤ m) : d.shpn m := ⟨h.1, Nat.le_trans h.2 hn⟩
theorem shpn_all {n : Nat} : ∀ {ds : List D}, (∀ d ∈ ds, d.shpn n) → PyData.canLayAll0 (D.pys ds) = true ∧ PyData.depthAll (D.pys ds) ≤ n
  | [], _ => ⟨rfl, Nat.zero_le _⟩
  | d :: ds, h => by
    obtain ⟨a, b⟩ := h d List.mem_cons_self
    obtain ⟨a2, b2⟩ := shpn_all fun d hd => h d (List.mem_cons_of_mem _ hd)
    refine ⟨?_, ?_⟩
    · show (PyData.canLay0 d.py && PyData.canLayAll0 (D.pys ds)) = true
      rw [a, a2]; rfl
    · show max d.py.depth (PyData.depthAll (D.pys ds)) ≤ n
      exact Nat.max_le.mpr ⟨b, b2⟩
theorem shpn_tup {n : Nat} {ds : List D} (h : ∀ d ∈ ds, d.shpn n) : (D.tup ds).shpn (n + 1) := ⟨(shpn_all h).1, Nat.succ_le_succ (shpn_all h).2⟩
theorem shpn_lst {n : Nat} {ds : List D} (h : ∀ d ∈ ds, d.shpn n) : (D.lst ds).shpn (n + 1) := ⟨(shpn_all h).1, Nat.succ_le_succ (shpn_all h).2⟩
theorem shpn_int (i : Int) : (D.int i).shpn 0 := ⟨rfl, Nat.zero_le _⟩
theorem shpn_bl (i : Bool) : (D.bl i).shpn 0 := ⟨rfl, Nat.zero_le _⟩
theorem shpn_non : D.non.shpn 0 := ⟨rfl, Nat.zero_le _⟩
theorem shpn_str {x : Str} (h : (D.str x).shp = true) : (D.str x).shpn 0 := ⟨shp_lay h, Nat.zero_le _⟩
theorem shpn_ints (zs : List Int) : (D.tup (zs.map D.int)).shpn 1 := shpn_tup fun d hd => by obtain ⟨z, _, rfl⟩ := List.mem_map.mp hd; exact shpn_int z
theorem shpn_intsL (zs : List Int) : (D.lst (zs.map D.int)).shpn 1 := shpn_lst fun d hd => by obtain ⟨z, _, rfl⟩ := List.mem_map.mp hd; exact shpn_int z
theorem eqv_self {d : D} (h : d.shp = true) : d.eqv d = true := SeqAt.eqv_refl d.py (shp_lay h)
theorem dec_self {α : Type} [DecidableEq α] (x : α) : decide (x = x) = true := decide_eq_true rfl
theorem ndec_self {α : Type} [DecidableEq α] (x : α) : (!decide (x = x)) = false := by rw [dec_self]; rfl
theorem at_zero {α : Type} {x : α} {xs : List α} : L2.atI (x :: xs) 0 = some x := by
  unfold L2.atI L2.ixN
  rw [if_pos (by decide), if_pos (by simp)]
  rfl
theorem at_nat {α : Type} {xs : List α} {i : Nat} {x : α} (h : xs[i]? = some x) : L2.atI xs (i : Int) = some x := by
  have hi := (List.getElem?_eq_some_iff.mp h).1
  unfold L2.atI L2.ixN
  rw [if_pos (by omega), if_pos (by omega)]
  simpa using h
theorem take_snoc {α : Type} {l : List α} {i : Nat} {z : α} (h : l[i]? = some z) : l.take (i + 1) = l.take i ++ [z] := by
  rw [List.take_add_one, h]; rfl
theorem lt_of_get {α : Type} {l : List α} {i : Nat} {z : α} (h : l[i]? = some z) : i < l.length := (List.getElem?_eq_some_iff.mp h).1
end DL
set_option Elab.async false
set_option linter.all false
set_option maxRecDepth 100000
set_option maxHeartbeats 4000000
/-! DL, part zo: == and != of dicts of data; is of truth values. -/
namespace DL
open PySem PySem.Spec PyProof.Rows L2
def hitsD (ls : List Key) (es : List D) : List Key → List D → Bool
  | k :: ks, d :: ds => match getK ls es k with
    | some e => d.eqv e && hitsD ls es ks ds
    | none => false
  | _, _ => true
def dicEq (ks : List Key) (ds : List D) (ls : List Key) (es : List D) : Bool := ks.length == ls.length && hitsD ls es ks ds
section
variable {C : Ctx} {X : Cx} {pins : List (Addr × Obj)} {σ : Sg} {H : Hp} {s : Shared}
theorem getK_mem {k : Key} {d : D} : ∀ {ks : List Key} {ds : List D}, getK ks ds k = some d → d ∈ ds
  | k0 :: ks, d0 :: ds, h => by
    unfold getK at h
    split at h
    · cases h; exact List.mem_cons_self
    · exact List.mem_cons_of_mem _ (getK_mem h)
  | [], _, h => by cases h
  | _ :: _, [], h => by cases h
theorem hits_D {K : Frg} {Z : Addr → Prop} (hK : X.K = K) (I : Inv X pins σ H s) (hu : X.A.units + 65 < cLine) {ls : List (Key × V)} {vb : List (Key × Value)} (rb : KV ls vb) {es : List D} (re : Reps K Z H (ls.map (·.2)) es) (se : ∀ e ∈ es, e.shp = true) :
    ∀ {ks : List (Key × V)} {va : List (Key × Value)}, KV ks va → ∀ {ds : List D}, Reps K Z H (ks.map (·.2)) ds → (∀ d ∈ ds, d.shp = true) → PySem.W.KeqHits X.A.in1 s vb va (hitsD (ls.map (·.1)) es (ks.map (·.1)) ds) := by
  intro ks va ra
  unfold KV at ra
  induction ra with
  | nil => intro ds rd _; cases rd; exact .nil
  | @cons p q ps qs h t ih =>
    intro ds rd sd
    obtain ⟨key, v⟩ := q
    obtain ⟨h1, h2⟩ := h
    cases rd with
    | @cons _ _ d ds rd1 rds =>
      have h1' : p.1 = key := h1
      have gk := getK_rep (k := p.1) re
      show PySem.W.KeqHits X.A.in1 s vb ((key, v) :: qs) (match getK (ls.map (·.1)) es p.1 with
        | some e => d.eqv e && hitsD (ls.map (·.1)) es (ps.map (·.1)) ds
        | none => false)
      have rr := rb.val p.1
      cases hg : getK (ls.map (·.1)) es p.1 with
      | none =>
        rw [hg] at gk
        rw [show valV ls p.1 = none from gk] at rr
        refine .miss ?_
        rw [← h1']
        cases q : valueAt vb p.1 with
        | none => rfl
        | some z => rw [q] at rr; cases rr
      | some e =>
        rw [hg] at gk
        obtain ⟨u, eu, ru⟩ := gk
        rw [eu] at rr
        obtain ⟨y, hy, ry⟩ := rr.some_of
        rw [h1'] at hy
        have sd1 := sd d List.mem_cons_self
        have se1 := se e (getK_mem hg)
        subst hK
        obtain ⟨as, r1⟩ := Dp.reads I d.py p.2 v (rd1.dp (shp_lay sd1)) h2
        obtain ⟨bs, r2⟩ := Dp.reads I e.py u y (ru.dp (shp_lay se1)) ry
        exact .hit hy (SeqAt.eqAt_reads d.py e.py X.A.in1 s v y as bs r1 r2 (SeqAt.canLay_of_shaped sd1) (SeqAt.canLay_of_shaped se1) (SeqAt.room_of_shaped sd1 (by show X.A.units + 1 + 64 < cLine; omega))) (ih rds fun d hd => sd d (List.mem_cons_of_mem _ hd))
end
section
variable {C : Ctx} {X : Cx}
/-- two dicts that stand, what they hold is data -/
def rDq (K : Frg) (f : Bool → Bool) : R2 := fun x y H Q => ∃ Z a b ks ls ds es, x = .ref a ∧ y = .ref b ∧ H a = some (.dK ks) ∧ H b = some (.dK ls) ∧ Reps K Z H (ks.map (·.2)) ds ∧ Reps K Z H (ls.map (·.2)) es ∧
  (∀ d ∈ ds, d.shp = true) ∧ (∀ d ∈ es, d.shp = true) ∧ Q (.bl (f (dicEq (ks.map (·.1)) ds (ls.map (·.1)) es))) H
theorem op_dq (hu : X.A.units + 65 < cLine) : OpR X (compareOp .Eq) (rDq X.K id) := by
  intro pins s σ H x y v u Q I rx ry ⟨Z, a, b, ks, ls, ds, es, e1, e2, ha, hb, ra, rb, sa, sb, q⟩
  subst e1 e2
  cases (show v = Value.ref a from rx)
  cases (show u = Value.ref b from ry)
  obtain ⟨_, ya, va, kva, da⟩ := (show ObjOk X.prog X.w H s.heap a (.dK ks) from I.hok a _ ha)
  obtain ⟨_, yb, vb, kvb, db⟩ := (show ObjOk X.prog X.w H s.heap b (.dK ls) from I.hok b _ hb)
  refine PySem.W.keq_eq (knd := mixKind X.prog X.w) (r := hitsD (ls.map (·.1)) es (ks.map (·.1)) ds) ya yb da db (by omega) (fun _ => hits_D rfl I hu kvb rb sb kva ra sa) ?_
  refine ⟨.bl _, H, I, rfl, ?_⟩
  rw [← kva.length, ← kvb.length]
  unfold dicEq at q
  rw [List.length_map, List.length_map] at q
  exact q
theorem op_dqn (hu : X.A.units + 65 < cLine) : OpR X (compareOp .NotEq) (rDq X.K not) := by
  intro pins s σ H x y v u Q I rx ry ⟨Z, a, b, ks, ls, ds, es, e1, e2, ha, hb, ra, rb, sa, sb, q⟩
  subst e1 e2
  cases (show v = Value.ref a from rx)
  cases (show u = Value.ref b from ry)
  obtain ⟨_, ya, va, kva, da⟩ := (show ObjOk X.prog X.w H s.heap a (.dK ks) from I.hok a _ ha)
  obtain ⟨_, yb, vb, kvb, db⟩ := (show ObjOk X.prog X.w H s.heap b (.dK ls) from I.hok b _ hb)
  refine PySem.W.keq_ne (knd := mixKind X.prog X.w) (r := hitsD (ls.map (·.1)) es (ks.map (·.1)) ds) ya yb da db (by omega) (fun _ => hits_D rfl I hu kvb rb sb kva ra sa) ?_
  refine ⟨.bl _, H, I, rfl, ?_⟩
  rw [← kva.length, ← kvb.length]
  unfold dicEq at q
  rw [List.length_map, List.length_map] at q
  exact q
/-- == of anything: dicts of data too -/
def eqA (x y : D) (k : Bool → Prop) : Prop := match x, y with
  | .dic ks ds, .dic ls es => (∀ d ∈ ds, d.shp = true) ∧ (∀ d ∈ es, d.shp = true) ∧ k (dicEq ks ds ls es)
  | x, y => eqG x y k
def oEqA : O2 := fun x y q => eqA x y fun b => q (.bl b)
def oNeA : O2 := fun x y q => eqA x y fun b => q (.bl (!b))
theorem meets_A {o : O2} {f : Bool → Bool} {rG : R2} (hG : Meets C (fun x y q => eqG x y fun b => q (.bl (f b))) rG) : Meets C (fun x y q => eqA x y fun b => q (.bl (f b))) (fun x y H Q => rG x y H Q ∨ rDq C.K f x y H Q) := fun Z H v w x y q Q rx ry h k => by
  have h : eqA x y fun b => q (.bl (f b)) := h
  unfold eqA at h
  split at h
  · obtain ⟨sa, sb, h⟩ := h
    cases rx with
    | dic zx hx ex rsx =>
      cases ry with
      | dic zy hy ey rsy =>
        subst ex ey
        exact .inr ⟨Z, _, _, _, _, _, _, rfl, rfl, hx, hy, rsx, rsy, sa, sb, k _ _ (.bl _) h⟩
  · exact .inl (hG Z H v w x y q Q rx ry h k)
theorem o_eqA (hu : X.A.units + 65 < cLine) (hK : X.K = C.K := by rfl) : OpR X (compareOp .Eq) (fun x y H Q => rEqG X.K x y H Q ∨ rDq X.K id x y H Q) ∧ Meets C oEqA (fun x y H Q => rEqG X.K x y H Q ∨ rDq X.K id x y H Q) :=
  ⟨(o_eqG (C := C) (by omega) hK).1.or (op_dq hu), by rw [hK]; exact meets_A (o := oEqA) (f := id) (hK ▸ (o_eqG (C := C) (X := X) (by omega) hK).2)⟩
theorem o_neA (hu : X.A.units + 65 < cLine) (hK : X.K = C.K := by rfl) : OpR X (compareOp .NotEq) (fun x y H Q => rNeG X.K x y H Q ∨ rDq X.K not x y H Q) ∧ Meets C oNeA (fun x y H Q => rNeG X.K x y H Q ∨ rDq X.K not x y H Q) :=
  ⟨(o_neG (C := C) (by omega) hK).1.or (op_dqn hu), by rw [hK]; exact meets_A (o := oNeA) (f := not) (hK ▸ (o_neG (C := C) (X := X) (by omega) hK).2)⟩
/-- is, is not: None, True, False -/
def oIsA : O2 := fun x y q => match y, x with
  | .non, x => q (.bl x.isN)
  | .bl b, .bl a => q (.bl (decide (a = b)))
  | _, _ => False
def oIsntA : O2 := fun x y q => match y, x with
  | .non, x => q (.bl (!x.isN))
  | .bl b, .bl a => q (.bl (!decide (a = b)))
  | _, _ => False
theorem o_isA : OpR X (compareOp .Is) (fun x y H Q => (y = .non ∧ Q (.bl (decide (x = .non))) H) ∨ rIsB x y H Q) ∧ Meets C oIsA (fun x y H Q => (y = .non ∧ Q (.bl (decide (x = .non))) H) ∨ rIsB x y H Q) := ⟨(o_is (C := C)).1.or op_isBl, fun Z H v w x y q Q rx ry h k => by
  unfold oIsA at h
  split at h
  · cases ry; exact .inl ⟨rfl, by rw [rx.isN]; exact k _ _ (.bl _) h⟩
  · cases rx; cases ry; exact .inr ⟨_, _, rfl, rfl, k _ _ (.bl _) h⟩
  · cases h⟩
theorem o_isntA : OpR X (compareOp .IsNot) (fun x y H Q => (y = .non ∧ Q (.bl (!decide (x = .non))) H) ∨ rNotB x y H Q) ∧ Meets C oIsntA (fun x y H Q => (y = .non ∧ Q (.bl (!decide (x = .non))) H) ∨ rNotB x y H Q) := ⟨(o_isnt (C := C)).1.or op_notBl, fun Z H v w x y q Q rx ry h k => by
  unfold oIsntA at h
  split at h
  · cases ry; exact .inl ⟨rfl, by rw [rx.isN]; exact k _ _ (.bl _) h⟩
  · cases rx; cases ry; exact .inr ⟨_, _, rfl, rfl, k _ _ (.bl _) h⟩
  · cases h⟩
end
end DL
set_option Elab.async false
set_option linter.all false
set_option maxRecDepth 100000
set_option maxHeartbeats 4000000
/-! DS, part a: texts: slices, join, split, str(x), int(text), signs of a text, order of texts. -/
namespace DL
open PySem PySem.Spec PyProof.Rows L2
section
variable {C : Ctx} {X : Cx} {pos : Pos}
/-! ### slices -/
def tSlS (t : TD) (lo hi : TOD) : TD := fun E Q => t E fun d E1 => lo E1 fun l E2 => hi E2 fun u E3 => match d with
  | .str z => z.length ≤ sizeLine ∧ Q (.str (cutS z l u)) E3
  | _ => False
theorem de_slS {e : Expr} {lo hi : Option Expr} {t : TD} {tl th : TOD} {p2 pos : Pos} (he : DE C X e t) (hl : PO X lo (toOf C tl)) (hh : PO X hi (toOf C th)) : DE C X (.Subscript e (.Slice lo hi none p2) pos) (tSlS t tl th) :=
  (pe_slice sl_str he hl hh).imp fun σ H Q ⟨ps, Ep, E, Z, Qd, w, h, post⟩ => ⟨ps, Ep, E, Z, _, w, h, fun d E1 Z1 H1 v w1 st1 r1 h1 => ⟨ps, Ep, E1, Z1, _, w1, h1, fun l E2 Z2 H2 w2 st2 h2 => ⟨ps, Ep, E2, Z2, _, w2, h2, fun u E3 Z3 H3 w3 st3 h3 => by
    split at h3
    · cases r1
      exact ⟨_, rfl, h3.1, post _ E3 Z3 H3 _ w3 (st1.trans (st2.trans st3)) (.str _) h3.2⟩
    · cases h3⟩⟩⟩
/-! ### join -/
/-- the texts of a list of data -/
def D.strs : List D → Option (List Str)
  | [] => some []
  | .str x :: ds => (D.strs ds).map (x :: ·)
  | _ :: _ => none
theorem D.strs_map (ys : List Str) : D.strs (ys.map D.str) = some ys := by
  induction ys with
  | nil => rfl
  | cons y ys ih => show (D.strs (ys.map D.str)).map _ = _; rw [ih]; rfl
theorem Reps.strs {K : Frg} {Z : Addr → Prop} {H : Hp} : ∀ {ds : List D} {vs : List V} {ys : List Str}, Reps K Z H vs ds → D.strs ds = some ys → vs = ys.map V.str
  | [], _, _, .nil, e => by cases e; rfl
  | .str x :: ds, _, ys, .cons h t, e => by
    obtain ⟨zs, e1, e2⟩ := Option.map_eq_some_iff.mp (show (D.strs ds).map (x :: ·) = some ys from e)
    subst e2
    cases h
    rw [Reps.strs t e1]; rfl
  | .non :: _, _, _, _, e => by cases e
  | .bl _ :: _, _, _, _, e => by cases e
  | .int _ :: _, _, _, _, e => by cases e
  | .tup _ :: _, _, _, _, e => by cases e
  | .lst _ :: _, _, _, _, e => by cases e
  | .scr _ :: _, _, _, _, e => by cases e
  | .dic _ _ :: _, _, _, _, e => by cases e
  | .dit _ _ :: _, _, _, _, e => by cases e
  | .obj _ _ _ :: _, _, _, _, e => by cases e
  | .kon _ :: _, _, _, _, e => by cases e
def jnOk (a : Str) (ys : List Str) : Prop := (ys.map (·.length)).sum + ys.length * a.length ≤ 16777216
def tJoin (to te : TD) : TD := fun E Q => to E fun s E1 => match s with
  | .str a => te E1 fun l E2 => (match l with
    | .lst ds => (match D.strs ds with | some ys => jnOk a ys ∧ Q (.str (Txt.join a ys)) E2 | none => False)
    | .tup ds => (match D.strs ds with | some ys => jnOk a ys ∧ Q (.str (Txt.join a ys)) E2 | none => False)
    | _ => False)
  | _ => False
theorem de_join {o e : Expr} {to te : TD} {apos pos : Pos} (ho : DE C X o to) (he : DB C X e te) (hs : starEach [e] X.env = [(false, eval e X.env)] := by rfl) (hb : attributeBase o "join" X.env (eval o X.env) = eval o X.env := by rfl) (hl : (apos.endLine == pos.line) = true := by rfl) (hK : X.K = C.K := by rfl) :
    DE C X (.Call (.Attribute o "join" apos) [e] [] pos) (tJoin to te) := (pe_join ho he hs hb hl).imp fun σ H Q ⟨ps, Ep, E, Z, Qd, w, h, post⟩ => ⟨ps, Ep, E, Z, _, w, h, fun d E1 Z1 H1 v w1 st1 r1 h1 => by
  rw [hK]
  split at h1
  · rename_i a
    cases r1
    refine ⟨⟨a, rfl⟩, ps, Ep, E1, Z1, _, w1, h1, fun l E2 Z2 H2 u w2 st2 r2 h2 => ?_⟩
    split at h2
    · split at h2
      · rename_i e2
        obtain ⟨p, vs, rfl, hq, rs⟩ := r2.lst
        have := rs.strs e2
        subst this
        exact ⟨a, p, _, rfl, rfl, .inl hq, h2.1, post _ E2 Z2 H2 _ w2 (st1.trans st2) (.str _) h2.2⟩
      · cases h2
    · split at h2
      · rename_i e2
        obtain ⟨p, vs, rfl, hq, rs⟩ := r2.tup
        have := rs.strs e2
        subst this
        exact ⟨a, p, _, rfl, rfl, .inr hq, h2.1, post _ E2 Z2 H2 _ w2 (st1.trans st2) (.str _) h2.2⟩
      · cases h2
    · cases h2
  · cases h1⟩
/-! ### split -/
def tSplit (to te : TD) : TN := fun E Q => to E fun s E1 => match s with
  | .str a => te E1 fun b E2 => (match b with
    | .str b => ((b.length == 0) = false ∧ a.length + 2 ≤ sizeLine) ∧ Q (.lst ((Txt.split a b).map .str)) E2
    | _ => False)
  | _ => False
theorem reps_txts {K : Frg} {Z : Addr → Prop} {H : Hp} (ys : List Str) : Reps K Z H (ys.map V.str) (ys.map D.str) := by
  induction ys with
  | nil => exact .nil
  | cons y ys ih => exact .cons (.str _) ih
theorem dn_split {o e : Expr} {to te : TD} {apos pos : Pos} (ho : DE C X o to) (he : DE C X e te) (hs : starEach [e] X.env = [(false, eval e X.env)] := by rfl) (hb : attributeBase o "split" X.env (eval o X.env) = eval o X.env := by rfl) (hl : (apos.endLine == pos.line) = true := by rfl) :
    DN C X (.Call (.Attribute o "split" apos) [e] [] pos) (tSplit to te) := (pe_split ho he hs hb hl).imp fun σ H Q ⟨ps, Ep, E, Z, Qd, w, h, post⟩ => ⟨ps, Ep, E, Z, _, w, h, fun d E1 Z1 H1 v w1 st1 r1 h1 => by
  split at h1
  · rename_i a
    cases r1
    refine ⟨⟨a, rfl⟩, ps, Ep, E1, Z1, _, w1, h1, fun l E2 Z2 H2 u w2 st2 r2 h2 => ?_⟩
    split at h2
    · rename_i b
      cases r2
      refine ⟨a, b, rfl, rfl, h2.1.1, h2.1.2, fun p hp => ?_⟩
      obtain ⟨st3, w3⟩ := w2.push hp (reps_txts (K := C.K) (Z := Z2) (H := H2) (Txt.split a b))
      exact post _ E2 Z2 _ _ w3 (st1.trans (st2.trans st3)) h2.2
    · cases h2
  · cases h1⟩
/-! ### the signs of a text -/
def signs (x : Str) : List D := x.cps.toList.map fun c => .str ⟨#[c]⟩
def tiStr (t : TD) : TIt := fun E Q => t E fun d E1 => match d with
  | .str x => Q (signs x) E1
  | _ => False
theorem walks_str {Z : Addr → Prop} {H : Hp} (x : Str) : Walks C (Its x) Z H (signs x) (fun _ _ => True) :=
  ⟨fun Z2 σ2 E2 H2 ps Ep st w _ i hi => by
    show x.cps.size ≤ i
    unfold signs at hi
    rw [List.length_map, Array.length_toList] at hi
    exact hi, fun Z2 σ2 E2 H2 ps Ep st w _ i d e => by
    unfold signs at e
    rw [List.getElem?_map] at e
    obtain ⟨c, e1, rfl⟩ := Option.map_eq_some_iff.mp e
    rw [Array.getElem?_toList] at e1
    refine ⟨(Array.getElem?_eq_some_iff.mp e1).1, fun v H3 y => ?_⟩
    obtain ⟨y1, c', y2, y3⟩ := y
    rw [e1] at y2
    cases y2
    subst y1 y3
    exact ⟨.inl rfl, .str _⟩⟩
theorem di_str {tg l : Expr} {t : TD} (hl : DE C X l t) : DI C X tg l (tiStr t) := (pi_str hl).imp fun σ H R ⟨ps, Ep, E, Z, Qd, w, h, post⟩ => by
  refine ⟨ps, Ep, E, Z, _, w, h, fun d E1 Z1 H1 v w1 st1 r1 h1 => ?_⟩
  split at h1
  · cases r1
    exact ⟨_, rfl, post _ _ E1 Z1 H1 w1 st1 (walks_str _) h1⟩
  · cases h1
/-! ### str(x), int(text) -/
def oStrOf : D → (D → Prop) → Prop := fun d q => match d with
  | .int i => i.natAbs.log2 < 1920 ∧ q (.str (toString i))
  | .str a => q (.str a)
  | _ => False
def rStrOf : List V → Hp → VK → Prop := fun xs H Q => (∃ i, xs = [.int i] ∧ i.natAbs.log2 < 1920 ∧ Q (.str (toString i)) H) ∨ ∃ a, xs = [.str a] ∧ Q (.str a) H
theorem b_str : CallR X (.type "str") rStrOf ∧ Meets1 C oStrOf rStrOf := ⟨call_str_int.or SkE.call_str_str, fun Z H v d q Q r h k => by
  unfold oStrOf at h
  split at h
  · cases r.int
    exact .inl ⟨_, rfl, h.1, k _ _ (.str _) h.2⟩
  · cases r.str
    exact .inr ⟨_, rfl, k _ _ (.str _) h⟩
  · cases h⟩
def oIntOf : D → (D → Prop) → Prop := fun d q => match d with
  | .str a => a.length ≤ 640 ∧ (match PySem.intText? a with | some n => q (.int n) | none => False)
  | _ => False
theorem b_intT : CallR X (.type "int") (fun xs H Q => ∃ a n, xs = [.str a] ∧ PySem.intText? a = some n ∧ a.length ≤ 640 ∧ Q (.int n) H) ∧ Meets1 C oIntOf (fun xs H Q => ∃ a n, xs = [.str a] ∧ PySem.intText? a = some n ∧ a.length ≤ 640 ∧ Q (.int n) H) := ⟨call_int_str, fun Z H v d q Q r h k => by
  unfold oIntOf at h
  split at h
  · cases r.str
    obtain ⟨h1, h2⟩ := h
    split at h2
    · rename_i e
      exact ⟨_, _, rfl, e, h1, k _ _ (.int _) h2⟩
    · cases h2
  · cases h⟩
/-! ### order of ints and of texts -/
def strLt (a b : Str) : Bool := decide (a.cps.toList < b.cps.toList)
def oRel (f : Int → Int → Bool) (g : Str → Str → Bool) : O2 := fun x y q => match x, y with
  | .int i, .int j => q (.bl (f i j))
  | .str a, .str b => q (.bl (g a b))
  | _, _ => False
def rRel (f : Int → Int → Bool) (g : Str → Str → Bool) : R2 := fun x y H Q => (∃ i j, x = .int i ∧ y = .int j ∧ Q (.bl (f i j)) H) ∨ ∃ a b, x = .str a ∧ y = .str b ∧ Q (.bl (g a b)) H
theorem meets_rel (f : Int → Int → Bool) (g : Str → Str → Bool) : Meets C (oRel f g) (rRel f g) := fun Z H v w x y q Q rx ry h k => by
  unfold oRel at h
  split at h
  · cases rx; cases ry; exact .inl ⟨_, _, rfl, rfl, k _ _ (.bl _) h⟩
  · cases rx; cases ry; exact .inr ⟨_, _, rfl, rfl, k _ _ (.bl _) h⟩
  · cases h
theorem o_leS : OpR X (compareOp .LtE) (rRel (fun i j => decide (i ≤ j)) fun a b => !strLt b a) ∧ Meets C (oRel (fun i j => decide (i ≤ j)) fun a b => !strLt b a) (rRel (fun i j => decide (i ≤ j)) fun a b => !strLt b a) := ⟨op_le.or op_le_str, meets_rel _ _⟩
theorem o_ltS : OpR X (compareOp .Lt) (rRel (fun i j => decide (i < j)) strLt) ∧ Meets C (oRel (fun i j => decide (i < j)) strLt) (rRel (fun i j => decide (i < j)) strLt) := ⟨op_lt.or op_lt_str, meets_rel _ _⟩
theorem o_geS : OpR X (compareOp .GtE) (rRel (fun i j => decide (j ≤ i)) fun a b => !strLt a b) ∧ Meets C (oRel (fun i j => decide (j ≤ i)) fun a b => !strLt a b) (rRel (fun i j => decide (j ≤ i)) fun a b => !strLt a b) := ⟨op_ge.or op_ge_str, meets_rel _ _⟩
theorem o_gtS : OpR X (compareOp .Gt) (rRel (fun i j => decide (j < i)) fun a b => strLt b a) ∧ Meets C (oRel (fun i j => decide (j < i)) fun a b => strLt b a) (rRel (fun i j => decide (j < i)) fun a b => strLt b a) := ⟨op_gt.or op_gt_str, meets_rel _ _⟩
/-! ### constants of the module: texts, tuples of texts -/
/-- what a name of the module stands for -/
def Cst (K : Frg) (mg : Str → Option Value) (x : Str) (d : D) : Prop := ∃ v u, mg x = some u ∧ L2.RelV v u ∧ ∀ Z H, Rep K Z H v d
theorem de_cstR {x : Str} {d : D} {pos : Pos} (h : Cst C.K X.mg x d) (hg : Gl X x := by rfl) (hd : (x == ("__debug__" : Str)) = false := by decide) : DE C X (.Name x pos) (tc d) :=
  let ⟨_, _, hm, rv, r⟩ := h
  de_glob hg hm rv r hd
theorem cst_str {K : Frg} {mg : Str → Option Value} {x y : Str} {t : Tok} (h : mg x = some (.str y t)) : Cst K mg x (.str y) := ⟨.str y, _, h, ⟨t, rfl⟩, fun _ _ => .str y⟩
theorem cst_int {K : Frg} {mg : Str → Option Value} {x : Str} {i : Int} {t : Tok} (h : mg x = some (.int i t)) : Cst K mg x (.int i) := ⟨.int i, _, h, ⟨t, rfl⟩, fun _ _ => .int i⟩
theorem cst_txts {K : Frg} {mg : Str → Option Value} {x : Str} {a : Addr} {ys : List Str} {od : Option Addr} {its : Array Value} {n : Nat} {sl : Array (Option Value)} (h : mg x = some (.ref a)) (hl : K.lookup a = some ⟨.type "tuple", od, .seq its n, sl⟩) (hv : L2.Vals (ys.map V.str) its.toList) (hs : its.size ≤ sizeLine) : Cst K mg x (.tup (ys.map .str)) :=
  ⟨.ref a, _, h, rfl, fun _ _ => .tup (.inr ⟨_, _, _, hl, rfl, rfl, hs, hv⟩) (reps_txts ys)⟩
/-! ### one sign in a text -/
def oInC : O2 := fun x c q => match x, c with
  | .str z, .str y => (match z.cps.toList with | [c] => q (.bl (decide (c ∈ y.cps.toList))) | _ => False)
  | _, _ => False
def rInC : R2 := fun x y H Q => ∃ (c : Nat) (z : Str), x = .str ⟨#[c]⟩ ∧ y = .str z ∧ Q (.bl (decide (c ∈ z.cps.toList))) H
theorem meets_inC : Meets C oInC rInC := fun Z H v w x y q Q rx ry h k => by
  unfold oInC at h
  split at h
  · rename_i z y
    split at h
    · rename_i c e
      cases rx; cases ry
      have : z = (⟨#[c]⟩ : Str) := by
        obtain ⟨l⟩ := z
        obtain ⟨l⟩ := l
        have e : l = [c] := e
        subst e; rfl
      subst this
      exact ⟨c, _, rfl, rfl, k _ _ (.bl _) h⟩
    · cases h
  · cases h
theorem de_inC {a b : Expr} {ta tb : TD} {pos : Pos} (ha : DE C X a ta) (hb : DE C X b tb) (hm : behindInMarks .In b = false := by rfl) : DE C X (.Compare a [.In] [b] pos) (tOp2 oInC ta tb) :=
  (pe_cmpR op_in_sign ha hb hm).imp fun σ H Q h => op2_imp meets_inC σ H Q h
end
end DL
set_option Elab.async false
set_option linter.all false
set_option maxRecDepth 100000
set_option maxHeartbeats 4000000
/-! DS, part b: an own exception class of three fields. -/
namespace DL
open PySem PySem.Spec PyProof.Rows L2
def spE3 (C : Addr) (f g h : Str) : Sp := fun vs H Q _ => ∃ (a : Addr) (y1 y2 y3 : V), vs = [.ref a, y1, y2, y3] ∧ H a = some (exo a C none) ∧ ∀ dx, H dx = none → dx ≠ a → Q .non (upd (upd H dx (exd dx [(h, y3), (g, y2), (f, y1)])) a (exo a C (some dx)))
structure E3 (K : Frg) (mg : Str → Option Value) (x f g h : Str) (C fI : Addr) (fd : FuncData) (y1 y2 y3 : Str) : Prop where
  T : OexC K C
  m : mg x = some (.ref C)
  iC : PySem.W.findIn K (.ref C) "__init__" = some (some (.ref fI))
  tI : PySem.W.typeIn K (.ref fI) = some (.type "function")
  b : Binds K fd ["self", y1, y2, y3] []
  no1 : PySem.W.findIn K (.ref C) f = some none
  no2 : PySem.W.findIn K (.ref C) g = some none
  no3 : PySem.W.findIn K (.ref C) h = some none
  xf : XfC K C
  G : ∀ (P : Program) (w : World) (base : Heap), FnOk P w K mg base CX0 1 fI fd ["self", y1, y2, y3] (spE3 C f g h)
theorem init3 {P : Program} {w : World} {K : Frg} {mg : Str → Option Value} {base : Heap} {qual : Str} {st : Stmt} {fI C : Addr} {fd : FuncData} {f g h y1 y2 y3 : Str} {p1 p2 p3 p4 q1 q2 q3 q4 r1 r2 r3 r4 : Pos} (F : Fun K "__init__" qual st fI fd)
    (hb : defBody st = [.Assign [.Attribute (.Name "self" p1) f p2] (.Name y1 p3) p4, .Assign [.Attribute (.Name "self" q1) g q2] (.Name y2 q3) q4, .Assign [.Attribute (.Name "self" r1) h r2] (.Name y3 r3) r4])
    (S' : FnScope ["self", y1, y2, y3] ["self", y1, y2, y3] (defScope st)) (T : OexC K C) (no1 : PySem.W.findIn K (.ref C) f = some none) (no2 : PySem.W.findIn K (.ref C) g = some none) (no3 : PySem.W.findIn K (.ref C) h = some none)
    (hv0 : Vis (defScope st) "self") (hv1 : Vis (defScope st) y1) (hv2 : Vis (defScope st) y2) (hv3 : Vis (defScope st) y3) (hd1 : (y1 == ("__debug__" : Str)) = false) (hc1 : (y1 == ("__classdict__" : Str)) = false)
    (hd2 : (y2 == ("__debug__" : Str)) = false) (hc2 : (y2 == ("__classdict__" : Str)) = false) (hd3 : (y3 == ("__debug__" : Str)) = false) (hc3 : (y3 == ("__classdict__" : Str)) = false) : FnOk P w K mg base CX0 1 fI fd ["self", y1, y2, y3] (spE3 C f g h) := by
  refine F.ok S' (fun vs H Q E h => ?_) (fun cdv A outer s H vs Q E hr h => ?_)
  · obtain ⟨a, v1, v2, v3, rfl, _⟩ := h
    rfl
  · obtain ⟨a, v1, v2, v3, rfl, ha, k⟩ := h
    rw [hb]
    refine ⟨_, pss_cons (ps_ost (pe_var (i := 0) rfl hv0 (by decide) (by decide)) (pe_var (i := 1) rfl hv1 hd1 hc1) rfl) (pss_cons (ps_ost (pe_var (i := 0) rfl hv0 (by decide) (by decide)) (pe_var (i := 2) rfl hv2 hd2 hc2) rfl) (pss_one (ps_ost (pe_var (i := 0) rfl hv0 (by decide) (by decide)) (pe_var (i := 3) rfl hv3 hd3 hc3) rfl))), ?_⟩
    refine ⟨v1, rfl, .ref a, rfl, a, C, rfl, T, no1, .inl ⟨ha, fun dx h1 h2 => ?_⟩⟩
    refine ⟨v2, rfl, .ref a, rfl, a, C, rfl, T, no2, .inr ⟨dx, [(f, v1)], upd_same, by rw [upd_ne h2, upd_same], Nat.le_of_ble_eq_true rfl, ?_⟩⟩
    refine ⟨v3, rfl, .ref a, rfl, a, C, rfl, T, no3, .inr ⟨dx, [(g, v2), (f, v1)], by rw [upd_ne (Ne.symm h2), upd_same], upd_same, Nat.le_of_ble_eq_true rfl, ?_⟩⟩
    have e : upd (upd (upd (upd H dx (exd dx [(f, v1)])) a (exo a C (some dx))) dx (exd dx [(g, v2), (f, v1)])) dx (exd dx [(h, v3), (g, v2), (f, v1)]) = upd (upd H dx (exd dx [(h, v3), (g, v2), (f, v1)])) a (exo a C (some dx)) := by
      funext b
      by_cases q1 : b = dx
      · subst q1; rw [upd_same, upd_ne h2, upd_same]
      · rw [upd_ne q1, upd_ne q1]
        by_cases q2 : b = a
        · subst q2; rw [upd_same, upd_same]
        · rw [upd_ne q2, upd_ne q1, upd_ne q2, upd_ne q1]
    have := k dx h1 h2
    rw [← e] at this
    exact this
section
variable {C : Ctx} {X : Cx} {pos p1 p : Pos} {x f g h y1 y2 y3 : Str} {Cc fI : Addr} {fd : FuncData} {e1 e2 e3 : Expr} {t1 t2 t3 : TD} {Wd : WdX}
/-- raise C(e1, e2, e3) -/
def dRaise3 (Wd : WdX) (Cc : Addr) (f g h : Str) (t : TL) : TSD := fun _ E => t E fun ds E1 => match ds with
  | [d1, d2, d3] => Wd ⟨Cc, [h, g, f], [d3, d2, d1]⟩ E1
  | _ => False
theorem ds_raise3 (M : E3 X.K X.mg x f g h Cc fI fd y1 y2 y3) (tk : Takes X (wxOf C Wd)) (hr : Room 2 X.A) {t : TL} (he : DA C X [e1, e2, e3] t) (hc : X.calm = true := by rfl) (hg : Gl X x := by rfl) (hK : X.K = C.K := by rfl) (hdb : (x == ("__debug__" : Str)) = false := by decide) (hs : starEach [e1, e2, e3] X.env = (false, eval e1 X.env) :: starEach [e2, e3] X.env := by rfl)
    (hpl : (backTo p1 (starEach [e2, e3] X.env)).any (·.1) = false := by rfl) : DS C X (.Raise (some (.Call (.Name x p) [e1, e2, e3] [] p1)) none pos) (dRaise3 Wd Cc f g h t) :=
  (ps_raise hc tk (pmk_oex M.T M.iC M.tI (M.G X.prog X.w X.base) hr M.b .nil pass0 hg M.m he hdb hs hpl)).imp fun Dn σ H ⟨ps, Ep, E, Z, Dd, w, hh, ft⟩ =>
    ⟨ps, Ep, E, Z, _, w, hh, fun ds E1 Z1 H1 vs w1 st1 r1 n1 h1 => by
      split at h1
      · rename_i d1 d2 d3
        match vs, r1 with
        | [v1, v2, v3], .cons r1 (.cons r2 (.cons r3 .nil)) =>
        refine ⟨by show 3 ≤ 1000; decide, fun a ha => ⟨a, v1, v2, v3, rfl, upd_same, fun dx hdx hne => ?_⟩⟩
        have hd1 : H1 dx = none := by rw [upd_ne hne] at hdx; exact hdx
        refine ⟨rfl, dx, _, upd_same, by rw [upd_ne hne, upd_same], hd1, ?_⟩
        generalize hf : ([(h, v3), (g, v2), (f, v1)] : List (Str × V)) = fs
        have eH : upd (del (upd (upd (upd H1 a (exo a Cc none)) dx (exd dx fs)) a (exo a Cc (some dx))) a) dx (.xd fs) = upd H1 dx (.xd fs) := by
          funext b
          by_cases h1 : b = dx
          · subst h1; rw [upd_same, upd_same]
          · rw [upd_ne h1, upd_ne h1]
            by_cases h2 : b = a
            · subst h2; rw [del_same, ha]
            · rw [del_ne h2, upd_ne h2, upd_ne h1, upd_ne h2]
        show wxOf C Wd _ _ σ _
        rw [eH]
        have w2 := w1.new (o := .xd fs) hd1
        obtain ⟨st3, w3⟩ := w2.keep upd_same (fun k => k) (w1.h0 hd1)
        have st2 : Stp Z1 H1 Z1 (upd H1 dx (.xd fs)) := Stp.new w1.zt hd1
        subst hf
        exact ⟨ps, Ep, _, E1, ⟨Cc, [h, g, f], [d3, d2, d1]⟩, w3, ⟨rfl, dx, _, rfl, .inr rfl, upd_same, rfl, .cons (r3.mono (st2.trans st3)) (.cons (r2.mono (st2.trans st3)) (.cons (r1.mono (st2.trans st3)) .nil))⟩, h1⟩
      · cases h1⟩
end
end DL
set_option Elab.async false
set_option linter.all false
set_option maxRecDepth 100000
set_option maxHeartbeats 4000000
/-! DS, part c: a text times an int. -/
namespace DL
open PySem PySem.Spec PyProof.Rows L2
section
variable {C : Ctx} {X : Cx} {pos : Pos}
def oMulS : O2 := fun x y q => match x, y with
  | .str a, .int n => MulOk a n ∧ q (.str (Txt.mul a n))
  | _, _ => False
def rMulS : R2 := fun x y H Q => ∃ a n, x = .str a ∧ y = .int n ∧ MulOk a n ∧ Q (.str (Txt.mul a n)) H
theorem o_mulS : OpR X (binaryOp .Mult) rMulS ∧ Meets C oMulS rMulS := ⟨fun pins s σ H x y v u Q I rx ry h => by
  obtain ⟨a, n, rfl, rfl, hz, q⟩ := h
  obtain ⟨t, rfl⟩ := rx
  obtain ⟨t', rfl⟩ := ry
  exact PySem.SB.mul hz (fun t' tk => ⟨.str _, H, I.tok _, ⟨_, rfl⟩, q⟩), fun Z H v w x y q Q rx ry h k => by
  unfold oMulS at h
  split at h
  · cases rx; cases ry; exact ⟨_, _, rfl, rfl, h.1, k _ _ (.str _) h.2⟩
  · cases h⟩
theorem o_inC : OpR X (compareOp .In) rInC ∧ Meets C oInC rInC := ⟨op_in_sign, meets_inC⟩
/-! ### the script: its length, its items -/
def oLenS : D → (D → Prop) → Prop := fun d q => match d with
  | .scr ds => q (.int ds.length)
  | _ => False
theorem b_lenS (hK : X.K = C.K := by rfl) : CallR X (.builtin "len") (rLen X.K) ∧ Meets1 C oLenS (rLen X.K) := ⟨call_len_seq.or call_len_str, fun Z H v d q Q r h k => by
  rw [hK]
  unfold oLenS at h
  split at h
  · obtain ⟨a, vs, rfl, hs, rs⟩ := r.scr
    refine .inl ⟨a, vs, rfl, .inl hs, k _ _ ?_ h⟩
    rw [rs.length]; exact .int _
  · cases h⟩
def oIxS : O2 := fun x y q => match x, y with
  | .scr ds, .int i => (match atI ds i with | some d => q d | none => False)
  | _, _ => False
theorem meets_ixS : Meets C oIxS (rIx C.K) := fun Z H v w x y q Q rx ry h k => by
  unfold oIxS at h
  split at h
  · split at h
    · rename_i e
      cases ry
      cases rx with
      | scr hs rs =>
        obtain ⟨v, e1, r⟩ := rs.atI e
        exact .inl ⟨_, _, _, v, rfl, rfl, hs.sq, e1, k _ _ r h⟩
    · cases h
  · cases h
theorem de_ixS {a b : Expr} {ta tb : TD} {pos : Pos} (ha : DE C X a ta) (hb : DE C X b tb) (hs : PlainIx b := by exact fun _ _ => rfl) (hK : X.K = C.K := by rfl) : DE C X (.Subscript a b pos) (tOp2 oIxS ta tb) :=
  (pe_ix ix_seq ha hb hs).imp fun σ H Q h => by
    rw [hK]
    exact op2_imp meets_ixS σ H Q h
end
theorem mulok {x : Str} {n : Int} (hx : x.length = 1) (h0 : 0 ≤ n) (h : n ≤ 1000) : MulOk x n := by
  obtain ⟨k, rfl⟩ := Int.eq_ofNat_of_zero_le h0
  refine ⟨?_, fun h1 _ => ?_, fun h1 _ => ?_⟩
  · rw [decide_eq_false (by omega), decide_eq_false (by omega)]; rfl
  · rw [hx]
    have : (1 : Int) ≤ (2 ^ 63 - 1) / (k : Int) := by
      rw [Int.le_ediv_iff_mul_le (by omega)]; omega
    omega
  · rw [hx]
    unfold Builtin.Str.tooLong
    have : k ≤ sizeLine := Nat.le_trans (show k ≤ 1000 by omega) (Nat.le_of_ble_eq_true rfl)
    simp
    omega
theorem foldl_reps (a : Array Nat) (n : Nat) (b : Array Nat) : ((List.replicate n a).foldl (· ++ ·) b).toList = b.toList ++ (List.replicate n a.toList).flatten := by
  induction n generalizing b with
  | zero => simp
  | succ n ih => rw [List.replicate_succ, List.foldl_cons, ih]; simp [List.replicate_succ]
theorem mul_tl {x : Str} {c n : Nat} (hx : TL.tl x = [c]) : TL.tl (Txt.mul x (n : Int)) = List.replicate n c := by
  have hl : x.length = 1 := by rw [TL.len_tl, hx]; rfl
  unfold Txt.mul
  by_cases h1 : (n : Int) < 1
  · rw [if_pos h1]
    have : n = 0 := by omega
    subst this; rfl
  · rw [if_neg h1]
    by_cases h2 : ((n : Int) == 1 || x.length == 0) = true
    · rw [if_pos h2, hx]
      rw [hl] at h2
      have : n = 1 := by simp at h2; omega
      subst this; rfl
    · rw [if_neg h2]
      show (List.foldl (· ++ ·) #[] (List.replicate n x.cps)).toList = _
      rw [foldl_reps]
      have hc : x.cps.toList = [c] := hx
      rw [hc]
      simp
/-! ### text tools -/
theorem len_sz {n : Nat} (h : n ≤ 100000) : n ≤ sizeLine := Nat.le_trans h (Nat.le_of_ble_eq_true rfl)
theorem len_lz {n : Nat} (h : n < 100000) : n < sizeLine := Nat.lt_of_lt_of_le h (Nat.le_of_ble_eq_true rfl)
/-- a text of plain signs -/
def asc (x : Str) : Prop := ∀ c, c ∈ TL.tl x → c < 128
theorem asc_shp {x : Str} (h : asc x) (hl : x.length ≤ 10000) : (D.str x).shp = true := shp_str (len_sz (by omega)) fun i q => Nat.lt_trans (h _ (by show x.cps[i] ∈ x.cps.toList; exact Array.mem_toList_iff.mpr (Array.getElem_mem q))) (by decide)
theorem tl_cut (x : Str) (lo hi : Option Int) : TL.tl (cutS x lo hi) = (List.drop (HT.sIx x.length 0 lo) (TL.tl x)).take (HT.sIx x.length x.length hi - HT.sIx x.length 0 lo) := rfl
theorem tl_cut2 {x : Str} {s e : Nat} (h1 : s ≤ x.length) : TL.tl (cutS x (some (s : Int)) (some (e : Int))) = ((TL.tl x).drop s).take (e - s) := by
  have hl := TL.len_tl x
  rw [tl_cut]
  have e1 : HT.sIx x.length 0 (some (s : Int)) = s := by unfold HT.sIx; dsimp only; rw [if_neg (by omega), Int.toNat_natCast, Nat.min_eq_left h1]
  have e2 : HT.sIx x.length x.length (some (e : Int)) = min e x.length := by unfold HT.sIx; dsimp only; rw [if_neg (by omega), Int.toNat_natCast]
  rw [e1, e2]
  by_cases h : e ≤ x.length
  · rw [Nat.min_eq_left h]
  · rw [Nat.min_eq_right (by omega), List.take_of_length_le (by rw [List.length_drop]; omega), List.take_of_length_le (by rw [List.length_drop]; omega)]
theorem cut_len (x : Str) (lo hi : Option Int) : (cutS x lo hi).length ≤ x.length := cutS_length x lo hi
theorem asc_cut {x : Str} (h : asc x) (lo hi : Option Int) : asc (cutS x lo hi) := fun c hc => h c (List.mem_of_mem_drop (List.mem_of_mem_take (by rw [tl_cut] at hc; exact hc)))
theorem app_len (a b : Str) : (a ++ b).length = a.length + b.length := by rw [TL.len_tl, TL.tl_append, List.length_append, ← TL.len_tl, ← TL.len_tl]
theorem asc_app {a b : Str} (h : asc a) (h2 : asc b) : asc (a ++ b) := fun c hc => by
  rw [TL.tl_append] at hc
  exact (List.mem_append.mp hc).elim (h c) (h2 c)
/-! ### numbers as texts -/
def nt (i : Int) : Str := Str.ofString (toString i)
theorem tl_nat (n : Nat) : TL.tl (nt n) = TL.numL n := TL.tl_num n
theorem tl_neg {i : Int} (h : i < 0) : TL.tl (nt i) = 45 :: TL.numL i.natAbs := by
  obtain ⟨n, rfl⟩ : ∃ n : Nat, i = Int.negSucc n := ⟨(-i - 1).toNat, by omega⟩
  show TL.tl (Str.ofString (toString (Int.negSucc n))) = _
  rw [TL.tl_ofString]
  have e : toString (Int.negSucc n) = "-" ++ toString (n + 1) := rfl
  rw [e, String.toList_append, List.map_append]
  have := TL.tl_num (n + 1)
  rw [TL.tl_ofString] at this
  show (45 :: []) ++ _ = _
  exact congrArg (45 :: ·) this
theorem tl_pos {i : Int} (h : 0 ≤ i) : TL.tl (nt i) = TL.numL i.natAbs := by
  obtain ⟨n, rfl⟩ := Int.eq_ofNat_of_zero_le h
  exact tl_nat n
theorem nt_log {n : Int} (h : n.natAbs < 10 ^ 18) : n.natAbs.log2 < 1920 := by
  have h2 : n.natAbs < 2 ^ 64 := Nat.lt_trans h (by decide)
  by_cases hz : n.natAbs = 0
  · rw [hz]; decide
  · exact Nat.lt_of_lt_of_le ((Nat.log2_lt hz).mpr h2) (by decide)
theorem num_len {n k : Nat} (hk : 0 < k) (h : n < 10 ^ k) : (nt (n : Int)).length ≤ k := by
  rw [TL.len_tl, tl_nat]; exact TL.numL_len hk h
theorem asc_nt (n : Int) : asc (nt n) := fun c hc => by
  by_cases h : c < 128
  · exact h
  · exfalso
    by_cases hi : n < 0
    · rw [tl_neg hi, List.mem_cons] at hc
      exact hc.elim (by omega) (TL.numL_free (by omega))
    · rw [tl_pos (by omega)] at hc; exact TL.numL_free (by omega) hc
/-- no zero in front -/
theorem numL_front : ∀ n : Nat, 10 ≤ n → (TL.numL n).head? ≠ some 48 := fun n => by
  induction n using Nat.strongRecOn with
  | _ n ih =>
    intro h
    rw [TL.numL_step h]
    by_cases h2 : n / 10 < 10
    · rw [TL.numL_lt h2]
      show some (48 + n / 10) ≠ some 48
      intro e
      have : 48 + n / 10 = 48 := Option.some.inj e
      omega
    · have := ih (n / 10) (by omega) (by omega)
      intro e
      apply this
      cases q : TL.numL (n / 10) with
      | nil => exact absurd q (TL.numL_ne _)
      | cons a l => rw [q] at e; exact e
/-! ### lists of ints -/
theorem snoc_int (ms : List Int) (z : Int) : ms.map D.int ++ [D.int z] = (ms ++ [z]).map D.int := by rw [List.map_append]; rfl
theorem snoc_int2 (ms : List Int) (y z : Int) : ms.map D.int ++ [D.int y] ++ [D.int z] = (ms ++ [y, z]).map D.int := by rw [snoc_int, snoc_int, List.append_assoc]; rfl
theorem at_ints {ns : List Int} {i : Int} (h0 : 0 ≤ i) (h : i < ns.length) : ∃ z, atI (ns.map D.int) i = some (.int z) := by
  obtain ⟨n, rfl⟩ := Int.eq_ofNat_of_zero_le h0
  exact ⟨ns[n]'(by omega), at_nat (by rw [List.getElem?_map, List.getElem?_eq_getElem (by omega)]; rfl)⟩
theorem wdiv {i j : Int} (h : 0 < j) (hb : j < 1099511627776) : CDivW i j := wide_div (b := 41) h (by omega) (by decide) (by decide)
/-! ### two rows of the same data -/
def okD : Nat → D → Bool
  | _, .non => true
  | _, .bl _ => true
  | _, .int _ => true
  | _, .str x => (D.str x).shp
  | k + 1, .tup ds => ds.all (okD k) && decide (ds.length ≤ 100000)
  | k + 1, .lst ds => ds.all (okD k) && decide (ds.length ≤ 100000)
  | _, _ => false
theorem atI_n0 {ds : List D} {i : Nat} {d : D} (h : ds[i]? = some d) : atI ds (0 + (i : Int)) = some d := by
  rw [Int.zero_add]; exact at_nat h
theorem all_at {ds : List D} {p : D → Bool} (h : ds.all p = true) {i : Nat} {d : D} (e : ds[i]? = some d) : p d = true := List.all_eq_true.mp h d (List.mem_of_getElem? e)
end DL
set_option Elab.async false
set_option linter.all false
set_option maxRecDepth 100000
set_option maxHeartbeats 4000000
/-! DH, part a: exceptions whose context is None; defs called in an except suite. -/
namespace DL
open PySem PySem.Spec PyProof.Rows L2
/-! ### calls that may raise -/
section
variable {C : Ctx} {X : Cx} {pos : Pos} {k n : Nat} {f : Addr} {fd : FuncData} {prs : List Str} {sx : SpX} {x : Str} {p : Pos} {e : Expr} {es : List Expr} {ta : TAm} {Wd : WdX} {st : Stmt}
theorem takes_noN : L2N.Takes X (wxOf C noX) := fun _ _ ⟨_, _, _, _, _, _, _, _, _, _, _, _, _, _, _, _, h⟩ => by
  obtain ⟨_, _, _, _, _, _, _, h⟩ := h
  exact h.elim
theorem dcallxN (G : FnOk X.prog X.w X.K X.mg X.base (L2N.CX X.prog X.w) k f fd prs (spX X.K n sx)) (Dn' : Dn X.K X.mg x st prs f fd) (tk : L2N.Takes X (wxOf C Wd)) (hr : Room k X.A) (ha : DM C X (e :: es) ta) (hg : Gl X x := by rfl) (hn : n = (e :: es).length := by rfl) (hK : X.K = C.K := by rfl)
    (hdb : (x == ("__debug__" : Str)) = false := by decide) (he : starEach (e :: es) X.env = (false, eval e X.env) :: starEach es X.env := by rfl) (hpl : (backTo pos (starEach es X.env)).any (·.1) = false := by rfl) :
    DE C X (.Call (.Name x p) (e :: es) [] pos) (tCallXD sx Wd ta) := (pe_callSD G hr hg Dn'.m Dn'.F.kp Dn'.b .nil (fun σ => L2N.passAt tk σ) ha hdb he hpl).imp fun σ H Q ⟨ps, Ep, E, Z, Qd, w, h, post⟩ => by
  subst hn
  rw [hK]
  refine callX_imp (Qr := fun r E' => match r with | .fr d => Qd d E' | _ => False) w h fun r E' Z' H' v R st q => ?_
  cases r with
  | fr d => exact post d E' Z' H' v R.1 st R.2 q
  | un => cases q
  | ow t => cases q
  | mu t => cases q
  | rf a => cases q
  | nw a n => cases q
  | nm a n => cases q
theorem dcallnxN (G : FnOk X.prog X.w X.K X.mg X.base (L2N.CX X.prog X.w) k f fd prs (spX X.K n sx)) (Dn' : Dn X.K X.mg x st prs f fd) (tk : L2N.Takes X (wxOf C Wd)) (hr : Room k X.A) (ha : DM C X (e :: es) ta) (hg : Gl X x := by rfl) (hn : n = (e :: es).length := by rfl) (hK : X.K = C.K := by rfl)
    (hdb : (x == ("__debug__" : Str)) = false := by decide) (he : starEach (e :: es) X.env = (false, eval e X.env) :: starEach es X.env := by rfl) (hpl : (backTo pos (starEach es X.env)).any (·.1) = false := by rfl) :
    DN C X (.Call (.Name x p) (e :: es) [] pos) (tCallXN sx Wd ta) := (pe_callSD G hr hg Dn'.m Dn'.F.kp Dn'.b .nil (fun σ => L2N.passAt tk σ) ha hdb he hpl).imp fun σ H Q ⟨ps, Ep, E, Z, Qd, w, h, post⟩ => by
  subst hn
  rw [hK]
  refine callX_imp (Qr := fun r E' => match r with | .ow t => Qd t E' | _ => False) w h fun r E' Z' H' v R st q => ?_
  cases r with
  | ow t => exact post t E' Z' H' v R st q
  | un => cases q
  | fr d => cases q
  | mu t => cases q
  | rf a => cases q
  | nw a n => cases q
  | nm a n => cases q
end
section
variable {P : Program} {w : World} {K : Frg} {mg : Str → Option Value} {base : Heap}
theorem fn_DXN {x qual : Str} {st : Stmt} {f : Addr} {fd : FuncData} {N prs : List Str} {k : Nat} {sx : SpX} (F : Fun K x qual st f fd) (S' : FnScope N prs (defScope st)) {t : WdX → TSD}
    (hb : ∀ (H0 : Hp) (Fm : Foot) (Z0 : Addr → Prop) (vs : List V) (cdv : Value) (A : Around) (outer : List Env) (s : Shared) (H : Hp) (Ex : XK) (Wd : WdX), Room k (A.deeper (envOfC qual (defScope st) s.heap.objs.size f cdv)) →
      L2N.Takes (cxOf (L2N.CX P w) P w K mg base N qual (defScope st) f cdv A outer s H Ex) (wxOf ⟨K, H0, Fm, Z0, vs, Z0, H0, N.length⟩ Wd) →
      PassesOwn (model P w) (A.deeper (envOfC qual (defScope st) s.heap.objs.size f cdv)) (envOfC qual (defScope st) s.heap.objs.size f cdv) (cxOf (L2N.CX P w) P w K mg base N qual (defScope st) f cdv A outer s H Ex).xe →
      DSs ⟨K, H0, Fm, Z0, vs, Z0, H0, N.length⟩ (cxOf (L2N.CX P w) P w K mg base N qual (defScope st) f cdv A outer s H Ex) (defBody st) (t Wd))
    (ht : ∀ args Qd Wd, args.length = prs.length → sx args Qd Wd → t (xEnd prs.length Wd) (dEnd prs.length Qd) (args ++ List.replicate (N.length - prs.length) .un)) :
    FnOk P w K mg base (L2N.CX P w) (k + 1) f fd prs (spX K prs.length sx) := by
  obtain ⟨oc, od, kV, doc, pm, an, cdv, ct, osl, rfl, lk, hcd⟩ := F.ex
  refine fn_of lk hcd S' (fun vs H Q E h => ?_) fun A outer s H vs Q E hr h => ?_
  · obtain ⟨_, _, _, _, _, h, _⟩ := h
    exact h
  · obtain ⟨Z, args, F', Qd, Wd, hv, sl, nz, zt, no, h, post, postx⟩ := h
    have la : args.length = prs.length := by
      have := sl.len
      rw [List.length_map] at this
      omega
    have hNp : prs.length ≤ N.length := by have := congrArg List.length S'.pre; rw [List.length_take] at this; omega
    have w0 := start_at (K := K) (N := N) (prs := prs) hv la sl nz zt no hNp
    refine ⟨_, hb H F' Z vs cdv A outer s H E (xEnd prs.length Wd) hr ((L2N.takes_of (X := cxOf (L2N.CX P w) P w K mg base N qual (defScope st) f cdv A outer s H E) (E := E) rfl rfl rfl rfl).imp fun cls d σ H' hx => ?_) (passes_of rfl), ?_⟩
    · obtain ⟨ps, Ep, Z', E', x, wA, xr, le, hw⟩ := hx
      obtain ⟨q, _⟩ := (ResAt.ends (C := ⟨K, H, F', Z, vs, Z, H, N.length⟩) (r := .fr .non) (v := .non) hv le ⟨wA.drops, .non⟩).reN 0
      exact postx x _ Z' H' cls d q xr hw
    · refine ⟨[], [], _, Z, _, w0, ht args Qd Wd la h, ⟨fun σ' E' Z' H' w' st' ⟨le, q⟩ => ?_, fun _ _ _ _ _ _ q => q, fun _ _ _ _ _ _ q => q, fun r σ' E' Z' H' v w' st' ⟨le, q⟩ => ?_, rfl, rfl⟩⟩
      · exact post (.fr .non) _ Z' H' .non ((ResAt.ends (C := ⟨K, H, F', Z, vs, Z, H, N.length⟩) (r := .fr .non) hv le ⟨w', .non⟩).reN 0) q
      · exact post r _ Z' H' v ((ResAt.ends (C := ⟨K, H, F', Z, vs, Z, H, N.length⟩) hv le w').reN 0) q
end
/-! ### try: body, except x as n: suite -/
section
variable {C : Ctx} {X : Cx} {body su : List Stmt} {b0 : Stmt} {pos np hp : Pos} {tb : WdX → TSD} {t : EX → Addr → TSD} {Wd : WdX} {x n : Str} {c : Value}
theorem ds_tryN (hN : X.N.Nodup) (tk : L2N.Takes X (wxOf C Wd)) (hb : ∀ (fZ : Addr → Prop) (fH : Hp) (Wd' : WdX) (pn : List (Addr × Obj)) (xe : Value → Shared → Prop), L2N.Takes (X.tr pn xe) (wxOf (C.on fZ fH) Wd') → PassesOwn (model X.prog X.w) X.A X.env xe → DSs (C.on fZ fH) (X.tr pn xe) body (tb Wd'))
    (i : Nat) (hc : Names X x c) (hsu : ∀ (a : Addr) (oe : Obj) (cls : Value) (d : Option Addr) (pn : List (Addr × Obj)) (fZ : Addr → Prop) (fH : Hp) (ex : EX), L2N.Zn cls d oe → (∃ vs, oe.data = .fields vs) → XRep C.K fZ fH cls d ex → DSs (C.on fZ fH) (X.suite a ((a, oe) :: pn)) (b0 :: su) (t ex a))
    (hi : X.N[i]? = some n := by rfl) (hlt : i < C.n := by exact Nat.le_of_ble_eq_true rfl) (hl : X.env.kindOf n = some .local := by rfl) (hs : X.stack = X.env :: X.outer := by rfl) (hf : X.env.frame = some X.env.locals := by rfl) (hK : X.K = C.K := by rfl) {K : Frg} (hK2 : C.K = K := by rfl) :
    DS C X (.Try body [.ExceptHandler (some (.Name x np)) (some n) (b0 :: su) hp] [] [] pos) (dTry K tb [(c, some i, t)] Wd) := by
  subst hK2
  exact (L2N.ps_try_as (ts := tsSu C t) (tb := fun W Dn σ H => ∃ fZ fH Wd', (∀ cls d σ H, wxOf (C.on fZ fH) Wd' cls d σ H → W cls d σ H) ∧ tsOf (C.on fZ fH) (tb Wd') Dn σ H) hs hf hN hi hl hc tk
    (fun W pn xe tk' hp => ⟨fun pins s σ H D I ⟨fZ, fH, Wd', imp, q⟩ => (hb fZ fH Wd' pn xe (tk'.imp imp) hp).run pins s σ H D I q⟩)
    (fun a oe cls d pn hz hfl => ⟨fun pins s σ H D I ⟨fZ, fH, x, xr, q⟩ => (hsu a oe cls d pn fZ fH x hz hfl xr).run pins s σ H D I q⟩)).imp fun Dn σ H ⟨ps, Ep, E, Z, Dd, w, h, f⟩ => by
    obtain ⟨e1, e2⟩ := f.e
    subst e1 e2
    rw [hK]
    have wi := wish_of (Wd := Wd) f w.fl [(c, some i, t)] (fun c hc j e => by
      rw [List.mem_singleton] at hc
      subst hc
      cases e
      exact hlt)
    refine ⟨Z, H, xHs C.K Wd Dd [(c, some i, t)], fun cls d σ H h => wi cls d σ H h, [], [], E, Z, Dd, w.floor (gZ := Z) (gH := H) (Stp.refl _ _), h, ?_⟩
    exact ⟨fun σ5 E5 Z5 H5 w5 s5 q5 => f.nx σ5 E5 Z5 H5 (w5.floor (gZ := C.fZ) (gH := C.fH) (w.fl.trans s5)) s5 q5, fun σ5 E5 Z5 H5 w5 s5 q5 => f.bk σ5 E5 Z5 H5 (w5.floor (gZ := C.fZ) (gH := C.fH) (w.fl.trans s5)) s5 q5,
      fun σ5 E5 Z5 H5 w5 s5 q5 => f.ct σ5 E5 Z5 H5 (w5.floor (gZ := C.fZ) (gH := C.fH) (w.fl.trans s5)) s5 q5, fun r5 σ5 E5 Z5 H5 v5 w5 s5 q5 => f.rt r5 σ5 E5 Z5 H5 v5 (w5.floor (gZ := C.fZ) (gH := C.fH) (w.fl.trans s5)) s5 q5, rfl, rfl⟩
theorem hot_suite {a : Addr} {oe : Obj} {cls : Value} {d : Option Addr} {pn : List (Addr × Obj)} (hz : L2N.Zn cls d oe) (hf : ∃ vs, oe.data = .fields vs) : L2H.HotC (X.suite a ((a, oe) :: pn)) := by
  obtain ⟨vs, e⟩ := hf
  exact ⟨(a, oe), ⟨rfl, vs, e, hz.2.2 vs e⟩, List.mem_cons_self⟩
end
/-! ### what a def promises in a suite; its rule, its call -/
section
variable {P : Program} {w : World} {K : Frg} {mg : Str → Option Value} {base : Heap}
theorem fn_DH {x qual : Str} {st : Stmt} {f : Addr} {fd : FuncData} {N prs : List Str} {k : Nat} {sd : SpD} (F : Fun K x qual st f fd) (S' : FnScope N prs (defScope st)) {t : TSD}
    (hb : ∀ (H0 : Hp) (Fm : Foot) (Z0 : Addr → Prop) (vs : List V) (cdv : Value) (A : Around) (outer : List Env) (s : Shared) (H : Hp) (Ex : XK) (p : Addr × Obj), L2H.RoomH k (A.deeper (envOfC qual (defScope st) s.heap.objs.size f cdv)) →
      L2H.HotC (L2H.cxH CX0 P w K mg base N qual (defScope st) f cdv A outer s H Ex p).nox →
      DSs ⟨K, H0, Fm, Z0, vs, Z0, H0, N.length⟩ (L2H.cxH CX0 P w K mg base N qual (defScope st) f cdv A outer s H Ex p).nox (defBody st) t)
    (ht : ∀ args Qd, args.length = prs.length → sd args Qd → t (dEnd prs.length Qd) (args ++ List.replicate (N.length - prs.length) .un)) :
    L2H.FnH P w K mg base CX0 (k + 1) f fd prs (spD K prs.length sd) := by
  obtain ⟨oc, od, kV, doc, pm, an, cdv, ct, osl, rfl, lk, hcd⟩ := F.ex
  refine L2H.fn_ofH lk hcd S' (fun vs H Q E h => ?_) fun A outer s H vs Q E p hot hr h => ?_
  · obtain ⟨_, _, _, _, h, _⟩ := h
    exact h
  · obtain ⟨Z, args, F', Qd, hv, sl, nz, zt, no, h, post⟩ := h
    have la : args.length = prs.length := by
      have := sl.len
      rw [List.length_map] at this
      omega
    have hNp : prs.length ≤ N.length := by have := congrArg List.length S'.pre; rw [List.length_take] at this; omega
    have w0 := start_at (K := K) (N := N) (prs := prs) hv la sl nz zt no hNp
    refine ⟨_, (hb H F' Z vs cdv A outer s H E p hr ⟨p, ⟨hot.1, hot.2⟩, List.mem_singleton.mpr rfl⟩).nox, ?_⟩
    refine ⟨[], [], _, Z, _, w0, ht args Qd la h, ⟨fun σ' E' Z' H' w' st' ⟨le, q⟩ => ?_, fun _ _ _ _ _ _ q => q, fun _ _ _ _ _ _ q => q, fun r σ' E' Z' H' v w' st' ⟨le, q⟩ => ?_, rfl, rfl⟩⟩
    · exact post (.fr .non) _ Z' H' .non ((ResAt.ends (C := ⟨K, H, F', Z, vs, Z, H, N.length⟩) (r := .fr .non) hv le ⟨w', .non⟩).reN 0) q
    · exact post r _ Z' H' v ((ResAt.ends (C := ⟨K, H, F', Z, vs, Z, H, N.length⟩) hv le w').reN 0) q
theorem fn_neverH {x qual : Str} {st : Stmt} {f : Addr} {fd : FuncData} {N prs : List Str} {k : Nat} {sd : SpD} (F : Fun K x qual st f fd) (S' : FnScope N prs (defScope st)) (no : ∀ args Q, sd args Q → False) : L2H.FnH P w K mg base CX0 (k + 1) f fd prs (spD K prs.length sd) := by
  obtain ⟨oc, od, kV, doc, pm, an, cdv, ct, osl, rfl, lk, hcd⟩ := F.ex
  refine L2H.fn_ofH lk hcd S' (fun vs H Q E h => ?_) fun A outer s H vs Q E p hot hr h => ?_
  · obtain ⟨_, _, _, _, h, _⟩ := h
    exact h
  · obtain ⟨Z, args, F', Qd, hv, sl, nz, zt, _, h, post⟩ := h
    exact (no _ _ h).elim
end
section
variable {C : Ctx} {X : Cx} {pos : Pos} {k n : Nat} {f : Addr} {fd : FuncData} {prs : List Str} {sd : SpD} {x : Str} {p : Pos} {e : Expr} {es : List Expr} {ta : TAm} {st : Stmt}
theorem callH_imp {σ : Sg} {H : Hp} {Q : VK} {ps : Sg} {Ep : List S} {E : List S} {Z : Addr → Prop} {Qr : S → List S → Prop} (w : At C ps Ep Z σ E H)
    (h : ta E fun as E1 => apart (msOf as) = true ∧ sd (as.map (argS E1)) fun r Em => Qr r (backL as Em 0 E1))
    (post : ∀ r E' Z' H' v, ResAt C ps Ep Z' σ E' H' v r → Stp Z H Z' H' → Qr r E' → Q v H') : tCallS (spD C.K n sd) (fun _ => E0) (tamOf C n ta) σ H Q :=
  ⟨ps, Ep, E, Z, _, w, h, fun as E1 Z1 H1 vs w1 st1 ok hn ⟨ap, h1⟩ => by
    obtain ⟨hn1, τ, hl1, F, f⟩ := w1.zero
    obtain ⟨g1, g2, g3⟩ := call_go f hl1 ok.lift ap
    refine ⟨Z1, _, _, _, by rw [ok.length]; exact hn, g1, g2, f.zt, argS_no, h1, fun r Em Z' H' v R q => ?_⟩
    obtain ⟨st2, R2⟩ := g3 r Em Z' H' v R
    exact post r _ Z' H' v (R2.to hn1) (st1.trans st2) q⟩
theorem dcallH (G : L2H.FnH X.prog X.w X.K X.mg X.base CX0 k f fd prs (spD X.K n sd)) (Dn' : Dn X.K X.mg x st prs f fd) (hr : L2H.RoomH k X.A) (hc : L2H.HotC X) (ha : DM C X (e :: es) ta) (hg : Gl X x := by rfl) (hn : n = (e :: es).length := by rfl) (hK : X.K = C.K := by rfl)
    (hdb : (x == ("__debug__" : Str)) = false := by decide) (he : starEach (e :: es) X.env = (false, eval e X.env) :: starEach es X.env := by rfl) (hpl : (backTo pos (starEach es X.env)).any (·.1) = false := by rfl) :
    DE C X (.Call (.Name x p) (e :: es) [] pos) (tCallD sd ta) := (L2H.pe_callH (E := fun _ => E0) G hr hc hg Dn'.m Dn'.F.kp Dn'.b (fun σ _ _ _ _ _ _ h => h.elim) ha hdb he hpl).imp fun σ H Q ⟨ps, Ep, E, Z, Qd, w, h, post⟩ => by
  subst hn
  rw [hK]
  refine callH_imp (Qr := fun r E' => match r with | .fr d => Qd d E' | _ => False) w h fun r E' Z' H' v R st q => ?_
  cases r with
  | fr d => exact post d E' Z' H' v R.1 st R.2 q
  | un => cases q
  | ow t => cases q
  | mu t => cases q
  | rf a => cases q
  | nw a n => cases q
  | nm a n => cases q
/-! ### for over range in a suite -/
abbrev DIH (C : Ctx) (X : Cx) (tg e : Expr) (t : TIt) : Prop := L2H.PIH X tg e (tiOf C t)
theorem di_range1H {tg a : Expr} {t : TD} {p pos : Pos} (hg : Gl X "range") (hm : X.mg "range" = none) (ha : DE C X a t) (hs : starEach [a] X.env = [(false, eval a X.env)] := by rfl) : DIH C X tg (.Call (.Name "range" p) [a] [] pos) (tiRng1 t) := by
  refine ⟨fun pins s σ H R I q => (L2H.pi_range1H hg hm (pa_cons ha pa_nil hs) hs).run pins s σ H R I ?_⟩
  obtain ⟨ps, Ep, E, Z, Qd, w, h, post⟩ := q
  refine ⟨ps, Ep, E, Z, _, w, h, fun d E1 Z1 H1 v w1 st1 r1 h1 => ?_⟩
  split at h1
  · obtain ⟨⟨_, _, k1, k2⟩, h1⟩ := h1
    cases r1
    refine ⟨_, rfl, k1, k2, post _ _ E1 Z1 H1 w1 st1 ?_ h1⟩
    have := walks_rng (C := C) (Z := Z1) (H := H1) 0 (by assumption)
    rw [Int.sub_zero] at this
    exact this
  · cases h1
theorem ds_forH {gs : List Nat} {tg iter : Expr} {body : List Stmt} {t : TIt} {g : TGD} {tb : TSD} (hp : PassesOwn (model X.prog X.w) X.A X.env X.xe) (hc : L2H.HotC X) (hi : DIH C X tg iter t) (hg : DG C X gs tg g) (hb : DSs C X body tb)
    (hs : ∀ x, foldedSetIterable iter X.env x = pure x := by intro _; rfl) : DS C X (.For tg iter body [] pos) (dFor t g tb) := (L2H.ps_forH hp hc hi hg hb hs).imp fun Dn σ H ⟨ps, Ep, E, Z, Dd, w, h, f⟩ =>
  ⟨ps, Ep, E, Z, _, w, h, fun J ds E1 Z1 H1 w1 st1 wk ⟨I, i0, step, fin⟩ => by
    refine ⟨fun i m σ' H' => m = ds.length - i ∧ i ≤ ds.length ∧ ∃ E' Z', At C ps Ep Z' σ' E' H' ∧ Stp Z1 H1 Z' H' ∧ I i E', ⟨_, rfl, Nat.zero_le _, E1, Z1, w1, Stp.refl _ _, i0⟩, ?_⟩
    rintro i m σ' H' ⟨rfl, hle, E', Z', w', st', hi'⟩
    by_cases hlt : i < ds.length
    · obtain ⟨go, yl⟩ := wk.go Z' σ' E' H' ps Ep st' w' trivial i _ (List.getElem?_eq_getElem hlt)
      refine .inr ⟨go, fun σ2 H2 => ∃ E2 Z2, At C ps Ep Z2 σ2 E2 H2 ∧ Stp Z1 H1 Z2 H2 ∧ I (i + 1) E2, fun σ2 H2 ⟨E2, Z2, w2, st2, h2⟩ => ⟨ds.length - (i + 1), by omega, rfl, hlt, E2, Z2, w2, st2, h2⟩, fun x H3 y => ?_⟩
      obtain ⟨hh, rx⟩ := yl x H3 y
      have w3 : At C ps Ep Z' σ' E' H3 ∧ Stp Z' H' Z' H3 := by
        rcases hh with e | ⟨p, o, hp, e⟩
        · subst e; exact ⟨w', Stp.refl _ _⟩
        · subst e; exact ⟨w'.new hp, Stp.new w'.zt hp⟩
      refine ⟨ps, Ep, E', Z', _, _, w3.1, rx, step i _ E' (List.getElem?_eq_getElem hlt) hi', fun σ2 E2 w2 _ h2 => ⟨ps, Ep, E2, Z', _, w2, h2, ?_⟩⟩
      have stA := st'.trans w3.2
      exact ⟨fun σ5 E5 Z5 H5 w5 st5 h5 => ⟨E5, Z5, w5, stA.trans st5, h5⟩, fun σ5 E5 Z5 H5 w5 st5 h5 => f.nx σ5 E5 Z5 H5 w5 (st1.trans (stA.trans st5)) h5, fun σ5 E5 Z5 H5 w5 st5 h5 => ⟨E5, Z5, w5, stA.trans st5, h5⟩,
        fun r σ5 E5 Z5 H5 v w5 st5 h5 => f.rt r σ5 E5 Z5 H5 v w5 (st1.trans (stA.trans st5)) h5, f.e⟩
    · have e : i = ds.length := by omega
      subst e
      exact .inl ⟨wk.stop Z' σ' E' H' ps Ep st' w' trivial _ (Nat.le_refl _), f.nx σ' E' Z' H' w' (st1.trans st') (fin E' hi')⟩⟩
theorem u65_ofH {k : Nat} {A : Around} (h : L2H.RoomH k A) : A.units + 65 < cLine := by have := h.un; omega
theorem u70_ofH {k : Nat} {A : Around} (h : L2H.RoomH k A) : A.units + 70 < cLine := by have := h.un; omega
end
/-! ### making and raising an exception of an own class, its context None -/
section
variable {X : Cx} {x : Str} {e : Expr} {es : List Expr} {ta : TA} {p pos : Pos} {C fI : Addr} {k : Nat} {fd : FuncData} {prs : List Str} {sp : Sp}
theorem pmk_oexN {CX : CXT} (T : OexC X.K C) (iC : PySem.W.findIn X.K (.ref C) "__init__" = some (some (.ref fI))) (tI : PySem.W.typeIn X.K (.ref fI) = some (.type "function")) (F1 : FnOk X.prog X.w X.K X.mg X.base CX k fI fd prs sp) (hr : Room (k + 1) X.A) (hb : Binds X.K fd prs [])
    (hx : Passes CX X (fun _ _ _ => False)) (hg : Gl X x) (hm : X.mg x = some (.ref C)) (ha : PA X (e :: es) ta) (hdb : (x == ("__debug__" : Str)) = false := by decide) (he : starEach (e :: es) X.env = (false, eval e X.env) :: starEach es X.env := by rfl)
    (hpl : (backTo pos (starEach es X.env)).any (·.1) = false := by rfl) : L2N.PMk X (.Call (.Name x p) (e :: es) [] pos) (tMkO C sp [] ta) := by
  intro pins s σ H Q I hq0
  have ⟨nm, q, N, bs, bm, sn, sub, ab, col, dd, z0, z1, z2, z3, z5, hC, hbm⟩ := T.cls
  refine wpAny_Call_Name_kw (ld_glob I hg hm (PySem.W.callWith_K (h₀ := X.base) I.ok.mod.kin T.kC (thn (ha.run pos pins s σ H _ I hq0) ?_) he hpl) hdb)
  rintro us ⟨hp, gs, dr, tk, os⟩ ⟨vs, H1, I1, rv, hz, hq1⟩
  refine ⟨I1.kIn, ?_⟩
  generalize ea : hp.objs.size + 1 = a
  have la : hp.objs.size ≤ a := by omega
  have free := I1.hok.fresh la
  have hq := hq1 a free
  rw [List.append_nil] at hq
  have keeps : ∀ b o, hp.get? b = some o → ((hp.push (PySem.W.kdv_tup us)).push (PySem.HandSPX.excO C hp.objs.size)).get? b = some o :=
    fun b o eb => Heap.get?_push_of_some _ (Heap.get?_push_of_some _ eb)
  have there : ((hp.push (PySem.W.kdv_tup us)).push (PySem.HandSPX.excO C hp.objs.size)).get? a = some (PySem.HandSPX.excO C hp.objs.size) := by
    subst ea
    heap_get
  have I2 := I1.laid (t' := tk) (a := a) (o := exo a C none) (h' := (hp.push (PySem.W.kdv_tup us)).push (PySem.HandSPX.excO C hp.objs.size)) keeps la (exo_ok there)
  have rv2 : Vals (V.ref a :: vs) (Value.ref a :: us) := .cons rfl rv
  have len : (Value.ref a :: us ++ []).length = prs.length := by
    have e2 := rv2.length
    rw [F1.len _ _ _ _ hq] at e2
    rw [List.append_nil]
    exact e2.symm
  have short : us.length ≤ sizeLine := by
    rw [← Paired.length rv, sizeLine_eq]
    omega
  have bd := hb _ (Value.ref a :: us) I2.kIn len
  rw [List.append_nil] at bd
  subst ea
  refine wpAny_call (PySem.HandSPX.call_own PySem.F.excBase_ValueError (fun Y => PySem.HandSPX.refsVE_contains Y bm hbm) (I1.kIn _ _ hC) (PySem.W.looks_findIn I1.kIn iC) (fun self => PySem.W.bind_fn I1.kIn self tI) short ?_)
  refine codeAny_mono (F1.run _ X.stack _ _ ⟨Value.ref (hp.objs.size + 1) :: us, []⟩ (Value.ref (hp.objs.size + 1) :: us) _ _ (fun _ _ _ => False) (hr.make C us []) (I2.env0.make C us []) bd rv2 hq) fun r s' out => ?_
  match r, out with
  | .error er, out => exact hx pins σ _ _ er s' I2 out
  | .ok (.ret u), ⟨v, H2, os2, bare2, un2, hok2, rv3, ev, d, fs, e3, e4, e5, q2⟩ =>
    subst ev
    obtain ⟨h2, g2, d2, t2, o2⟩ := s'
    have ⟨t0, G, J, kG, ge, ho, na⟩ := mk_end0 (d2 := d2) (t2 := t2) I1 la keeps un2 hok2 os2 bare2 e3 e4 e5
    exact ⟨rv3, _, _, _, ⟨G, g2, d2, t2, o2⟩, _, .ref C, some d, rfl, J, kG, ge, ho, ⟨rfl, rfl, fun vs hv => by cases hv; rfl⟩, rfl, rfl, na, rfl, bare2, raises_own T.exC T.tyC, q2⟩
  | .ok .next, out => exact out.elim
  | .ok .brk, out => exact out.elim
  | .ok .cont, out => exact out.elim
end
section
variable {C : Ctx} {X : Cx} {pos p1 p : Pos} {x f g h y1 y2 y3 : Str} {Cc fI : Addr} {fd : FuncData} {e1 e2 e3 : Expr} {Wd : WdX}
theorem ds_raise3N (M : E3 X.K X.mg x f g h Cc fI fd y1 y2 y3) (tk : L2N.Takes X (wxOf C Wd)) (hr : Room 2 X.A) {t : TL} (he : DA C X [e1, e2, e3] t) (hc : X.calm = true := by rfl) (hg : Gl X x := by rfl) (hK : X.K = C.K := by rfl) (hdb : (x == ("__debug__" : Str)) = false := by decide) (hs : starEach [e1, e2, e3] X.env = (false, eval e1 X.env) :: starEach [e2, e3] X.env := by rfl)
    (hpl : (backTo p1 (starEach [e2, e3] X.env)).any (·.1) = false := by rfl) : DS C X (.Raise (some (.Call (.Name x p) [e1, e2, e3] [] p1)) none pos) (dRaise3 Wd Cc f g h t) :=
  (L2N.ps_raise hc tk (pmk_oexN M.T M.iC M.tI (M.G X.prog X.w X.base) hr M.b pass0 hg M.m he hdb hs hpl)).imp fun Dn σ H ⟨ps, Ep, E, Z, Dd, w, hh, ft⟩ =>
    ⟨ps, Ep, E, Z, _, w, hh, fun ds E1 Z1 H1 vs w1 st1 r1 n1 h1 => by
      split at h1
      · rename_i d1 d2 d3
        match vs, r1 with
        | [v1, v2, v3], .cons r1 (.cons r2 (.cons r3 .nil)) =>
        refine ⟨by show 3 ≤ 1000; decide, fun a ha => ⟨a, v1, v2, v3, rfl, upd_same, fun dx hdx hne => ?_⟩⟩
        have hd1 : H1 dx = none := by rw [upd_ne hne] at hdx; exact hdx
        refine ⟨rfl, dx, _, upd_same, by rw [upd_ne hne, upd_same], hd1, ?_⟩
        generalize hf : ([(h, v3), (g, v2), (f, v1)] : List (Str × V)) = fs
        have eH : upd (del (upd (upd (upd H1 a (exo a Cc none)) dx (exd dx fs)) a (exo a Cc (some dx))) a) dx (.xd fs) = upd H1 dx (.xd fs) := by
          funext b
          by_cases h1 : b = dx
          · subst h1; rw [upd_same, upd_same]
          · rw [upd_ne h1, upd_ne h1]
            by_cases h2 : b = a
            · subst h2; rw [del_same, ha]
            · rw [del_ne h2, upd_ne h2, upd_ne h1, upd_ne h2]
        show wxOf C Wd _ _ σ _
        rw [eH]
        have w2 := w1.new (o := .xd fs) hd1
        obtain ⟨st3, w3⟩ := w2.keep upd_same (fun k => k) (w1.h0 hd1)
        have st2 : Stp Z1 H1 Z1 (upd H1 dx (.xd fs)) := Stp.new w1.zt hd1
        subst hf
        exact ⟨ps, Ep, _, E1, ⟨Cc, [h, g, f], [d3, d2, d1]⟩, w3, ⟨rfl, dx, _, rfl, .inr rfl, upd_same, rfl, .cons (r3.mono (st2.trans st3)) (.cons (r2.mono (st2.trans st3)) (.cons (r1.mono (st2.trans st3)) .nil))⟩, h1⟩
      · cases h1⟩
end
end DL
set_option Elab.async false
set_option linter.all false
set_option maxRecDepth 100000
set_option maxHeartbeats 4000000
namespace K00
open PySem PySem.Spec PyProof.Rows L2 DL
def topS (i : Nat) : Stmt := PySem.Challenge.pw_retroact_k00_tokens_of_a_line.main.body.getD i (.Pass ⟨0, 0, 0, 0⟩)
abbrev s_l_draws : Stmt := topS 16
abbrev N_l_draws : List Str := ["_law_script", "_law_draws_here", "_law_cell", "_law_seed", "_law_k", "_law_number", "_law_first"]
theorem sc_l_draws : FnScope N_l_draws ["_law_script"] (defScope s_l_draws) := ⟨rfl, rfl, rfl, by decide +kernel, rfl, by decide +kernel, by decide +kernel⟩
abbrev s_l_take : Stmt := topS 17
abbrev N_l_take : List Str := ["_law_draws_here", "_law_bound"]
theorem sc_l_take : FnScope N_l_take ["_law_draws_here", "_law_bound"] (defScope s_l_take) := ⟨rfl, rfl, rfl, by decide +kernel, rfl, by decide +kernel, by decide +kernel⟩
abbrev s_l_piece : Stmt := topS 19
abbrev N_l_piece : List Str := ["_law_draws_here", "_law_kind", "_law_word", "_law_k"]
theorem sc_l_piece : FnScope N_l_piece ["_law_draws_here"] (defScope s_l_piece) := ⟨rfl, rfl, rfl, by decide +kernel, rfl, by decide +kernel, by decide +kernel⟩
abbrev s_l_same : Stmt := topS 18
abbrev N_l_same : List Str := ["_law_actual", "_law_due", "_law_k"]
theorem sc_l_same : FnScope N_l_same ["_law_actual", "_law_due"] (defScope s_l_same) := ⟨rfl, rfl, rfl, by decide +kernel, rfl, by decide +kernel, by decide +kernel⟩
abbrev s_behind : Stmt := topS 11
abbrev N_behind : List Str := ["line", "start", "allowed", "at"]
theorem sc_behind : FnScope N_behind ["line", "start", "allowed"] (defScope s_behind) := ⟨rfl, rfl, rfl, by decide +kernel, rfl, by decide +kernel, by decide +kernel⟩
abbrev s_token_end : Stmt := topS 13
abbrev N_token_end : List Str := ["line", "start"]
theorem sc_token_end : FnScope N_token_end ["line", "start"] (defScope s_token_end) := ⟨rfl, rfl, rfl, by decide +kernel, rfl, by decide +kernel, by decide +kernel⟩
abbrev s_check_token : Stmt := topS 12
abbrev N_check_token : List Str := ["kind", "text", "number", "column", "has_zero"]
theorem sc_check_token : FnScope N_check_token ["kind", "text", "number", "column"] (defScope s_check_token) := ⟨rfl, rfl, rfl, by decide +kernel, rfl, by decide +kernel, by decide +kernel⟩
abbrev s_tokens : Stmt := topS 14
abbrev N_tokens : List Str := ["line", "number", "found", "start", "kind", "end"]
theorem sc_tokens : FnScope N_tokens ["line", "number"] (defScope s_tokens) := ⟨rfl, rfl, rfl, by decide +kernel, rfl, by decide +kernel, by decide +kernel⟩
abbrev s_l_grows : Stmt := topS 21
abbrev N_l_grows : List Str := ["_law_left", "_law_right", "_law_letters", "_law_digits", "_law_last"]
theorem sc_l_grows : FnScope N_l_grows ["_law_left", "_law_right"] (defScope s_l_grows) := ⟨rfl, rfl, rfl, by decide +kernel, rfl, by decide +kernel, by decide +kernel⟩
abbrev s_l_bad : Stmt := topS 20
abbrev N_l_bad : List Str := ["_law_draws_here", "_law_rows"]
theorem sc_l_bad : FnScope N_l_bad ["_law_draws_here"] (defScope s_l_bad) := ⟨rfl, rfl, rfl, by decide +kernel, rfl, by decide +kernel, by decide +kernel⟩
abbrev s_law : Stmt := topS 22
abbrev N_law : List Str := ["_law_script", "_law_draws_here", "_law_pieces", "_law_number", "_law_at", "_law_line", "_law_due", "_law_bad_here", "_law_before", "_law_k", "e", "_law_spaces"]
theorem sc_law : FnScope N_law ["_law_script"] (defScope s_law) := ⟨rfl, rfl, rfl, by decide +kernel, rfl, by decide +kernel, by decide +kernel⟩
structure Tx (K : Frg) (mg : Str → Option Value) where
  f_l_draws : Addr
  fd_l_draws : FuncData
  d_l_draws : Dn K mg "_law_draws" s_l_draws ["_law_script"] f_l_draws fd_l_draws
  f_l_take : Addr
  fd_l_take : FuncData
  d_l_take : Dn K mg "_law_take" s_l_take ["_law_draws_here", "_law_bound"] f_l_take fd_l_take
  f_l_piece : Addr
  fd_l_piece : FuncData
  d_l_piece : Dn K mg "_law_piece" s_l_piece ["_law_draws_here"] f_l_piece fd_l_piece
  f_l_same : Addr
  fd_l_same : FuncData
  d_l_same : Dn K mg "_law_same" s_l_same ["_law_actual", "_law_due"] f_l_same fd_l_same
  f_behind : Addr
  fd_behind : FuncData
  d_behind : Dn K mg "behind" s_behind ["line", "start", "allowed"] f_behind fd_behind
  f_token_end : Addr
  fd_token_end : FuncData
  d_token_end : Dn K mg "token_end" s_token_end ["line", "start"] f_token_end fd_token_end
  f_check_token : Addr
  fd_check_token : FuncData
  d_check_token : Dn K mg "check_token" s_check_token ["kind", "text", "number", "column"] f_check_token fd_check_token
  f_tokens : Addr
  fd_tokens : FuncData
  d_tokens : Dn K mg "tokens" s_tokens ["line", "number"] f_tokens fd_tokens
  f_l_grows : Addr
  fd_l_grows : FuncData
  d_l_grows : Dn K mg "_law_grows" s_l_grows ["_law_left", "_law_right"] f_l_grows fd_l_grows
  f_l_bad : Addr
  fd_l_bad : FuncData
  d_l_bad : Dn K mg "_law_bad" s_l_bad ["_law_draws_here"] f_l_bad fd_l_bad
  f_law : Addr
  fd_law : FuncData
  d_law : Dn K mg "law" s_law ["_law_script"] f_law fd_law
  x_TextError : Addr
  xi_TextError : Addr
  xd_TextError : FuncData
  c_TextError : DL.E3 K mg "TextError" "line" "column" "reason" x_TextError xi_TextError xd_TextError "line" "column" "reason"
  e_TextError : PySem.W.exmOne K (.ref x_TextError) (.ref x_TextError) = some true
  v_LETTERS : Cst K mg "LETTERS" (.str "abcdefghijklmnopqrstuvwxyz")
  v_DIGITS : Cst K mg "DIGITS" (.str "0123456789")
  v_SHORT_SIGNS : Cst K mg "SHORT_SIGNS" (.str "<=>+-*/(),")
  v_LONG_SIGNS : Cst K mg "LONG_SIGNS" (.tup ([("<=" : Str), ">="].map .str))
  v_MOST_LETTERS : Cst K mg "MOST_LETTERS" (.int (12))
  v_MOST_DIGITS : Cst K mg "MOST_DIGITS" (.int (10))
  v_GREATEST : Cst K mg "GREATEST" (.int (1000000000))
  m_len : mg "len" = none
  m_int : mg "int" = none
  m_range : mg "range" = none
  m_list : mg "list" = none
  m_abs : mg "abs" = none
  m_reversed : mg "reversed" = none
  m_isinstance : mg "isinstance" = none
  m_tuple : mg "tuple" = none
  m_bool : mg "bool" = none
  m_str : mg "str" = none
variable {P : Program} {w : World} {K : Frg} {mg : Str → Option Value} {base : Heap}
end K00
set_option Elab.async false
set_option linter.all false
set_option maxRecDepth 100000
set_option maxHeartbeats 4000000
/-! k00, the plain law: tokens of a row of signs. -/
namespace K00
open PySem PySem.Spec PyProof.Rows L2 DL
/-! ### signs -/
def abc : List Nat := TL.tl "abcdefghijklmnopqrstuvwxyz"
def dig : List Nat := TL.tl "0123456789"
def sgs : List Nat := TL.tl "<=>+-*/(),"
def inn (al : List Nat) (c : Nat) : Bool := decide (c ∈ al)
theorem abc_eq : abc = (List.range 26).map (97 + ·) := by unfold abc; decide +kernel
theorem dig_eq : dig = (List.range 10).map (48 + ·) := by unfold dig; decide +kernel
theorem sgs_eq : sgs = [60, 61, 62, 43, 45, 42, 47, 40, 41, 44] := by unfold sgs; decide +kernel
theorem in_abc (c : Nat) : inn abc c = true ↔ 97 ≤ c ∧ c ≤ 122 := by
  unfold inn
  rw [decide_eq_true_eq, abc_eq, List.mem_map]
  constructor
  · rintro ⟨a, h, rfl⟩
    have := List.mem_range.mp h
    omega
  · intro h
    exact ⟨c - 97, List.mem_range.mpr (by omega), by omega⟩
theorem in_dig (c : Nat) : inn dig c = true ↔ 48 ≤ c ∧ c ≤ 57 := by
  unfold inn
  rw [decide_eq_true_eq, dig_eq, List.mem_map]
  constructor
  · rintro ⟨a, h, rfl⟩
    have := List.mem_range.mp h
    omega
  · intro h
    exact ⟨c - 48, List.mem_range.mpr (by omega), by omega⟩
theorem in_sgs (c : Nat) : inn sgs c = true ↔ c ∈ [60, 61, 62, 43, 45, 42, 47, 40, 41, 44] := by
  unfold inn
  rw [decide_eq_true_eq, sgs_eq]
theorem not_abc {c : Nat} (h : c < 97 ∨ 122 < c) : inn abc c = false := by
  cases e : inn abc c with
  | false => rfl
  | true => have := (in_abc c).mp e; omega
theorem not_dig {c : Nat} (h : c < 48 ∨ 57 < c) : inn dig c = false := by
  cases e : inn dig c with
  | false => rfl
  | true => have := (in_dig c).mp e; omega
theorem yes_abc {c : Nat} (h : 97 ≤ c ∧ c ≤ 122) : inn abc c = true := (in_abc c).mpr h
theorem yes_dig {c : Nat} (h : 48 ≤ c ∧ c ≤ 57) : inn dig c = true := (in_dig c).mpr h
/-! ### one token -/
inductive Kd where
  | word | number | sign
  deriving DecidableEq
def Kd.s : Kd → Str
  | .word => "word"
  | .number => "number"
  | .sign => "sign"
/-- how many signs of the front stand in the row -/
def run (al l : List Nat) : Nat := (l.takeWhile (inn al)).length
def long (l : List Nat) : Bool := match l with
  | 60 :: 61 :: _ => true
  | 62 :: 61 :: _ => true
  | _ => false
/-- the token that begins a row: its kind and its length -/
def tend (l : List Nat) : Option Kd × Nat := match l with
  | [] => (none, 1)
  | c :: r => if inn abc c then (some .word, run abc (c :: r)) else if inn dig c then (some .number, run dig (c :: r))
    else if long (c :: r) then (some .sign, 2) else if inn sgs c then (some .sign, 1) else (none, 1)
def tk (k : Kd) (t : List Nat) : Bool := match k with
  | .word => decide (t.length ≤ 12)
  | .number => !(decide (1 < t.length) && (t.head? == some 48)) && decide (t.length ≤ 10) && decide (NumText.digitsVal t ≤ 1000000000)
  | .sign => true
abbrev Tk := Str × Str × Nat
def Tk.d (t : Tk) : D := .tup [.str t.1, .str t.2.1, .int t.2.2]
def ofL (l : List Nat) : Str := ⟨l.toArray⟩
theorem tl_ofL (l : List Nat) : TL.tl (ofL l) = l := rfl
theorem ofL_tl (x : Str) : ofL (TL.tl x) = x := by obtain ⟨⟨l⟩⟩ := x; rfl
def pushT (t : Tk) : Except (Nat × Str) (List Tk) → Except (Nat × Str) (List Tk)
  | .ok l => .ok (t :: l)
  | .error e => .error e
def scan (l : List Nat) (s : Nat) : Except (Nat × Str) (List Tk) := match l with
  | [] => .ok []
  | c :: r => if c = 32 then scan r (s + 1) else match (tend (c :: r)).1 with
    | none => .error (s + 1, "character")
    | some k => if tk k ((c :: r).take (tend (c :: r)).2) then pushT (k.s, ofL ((c :: r).take (tend (c :: r)).2), s + 1) (scan (r.drop ((tend (c :: r)).2 - 1)) (s + (tend (c :: r)).2)) else .error (s + 1, k.s)
  termination_by l.length
  decreasing_by
    · simp
    · simp; omega
theorem run_pos {al : List Nat} {c : Nat} {r : List Nat} (h : inn al c = true) : 1 ≤ run al (c :: r) := by
  unfold run; rw [List.takeWhile_cons_of_pos h, List.length_cons]; omega
theorem tend_pos (l : List Nat) : 1 ≤ (tend l).2 := by
  unfold tend
  split
  · exact Nat.le_refl _
  · split
    · exact run_pos ‹_›
    · split
      · exact run_pos ‹_›
      · split
        · decide
        · split <;> decide
theorem run_le (al l : List Nat) : run al l ≤ l.length := by
  unfold run
  exact (List.takeWhile_sublist _).length_le
theorem long_len {l : List Nat} (h : long l = true) : 2 ≤ l.length := by
  unfold long at h
  split at h
  · simp
  · simp
  · cases h
theorem tend_le {l : List Nat} (h : l ≠ []) : (tend l).2 ≤ l.length := by
  cases l with
  | nil => exact absurd rfl h
  | cons c r =>
    show (if _ then _ else _ : Option Kd × Nat).2 ≤ _
    split
    · exact run_le _ _
    · split
      · exact run_le _ _
      · split
        · exact long_len ‹_›
        · split <;> simp
theorem scan_nil (s : Nat) : scan [] s = .ok [] := by rw [scan]
theorem scan_sp (l : List Nat) (s : Nat) : scan (32 :: l) s = scan l (s + 1) := by rw [scan, if_pos rfl]
theorem drop_pred {c : Nat} {r : List Nat} {k : Nat} (h : 1 ≤ k) : r.drop (k - 1) = (c :: r).drop k := by
  obtain ⟨j, rfl⟩ : ∃ j, k = j + 1 := ⟨k - 1, by omega⟩
  rfl
theorem scan_none {c : Nat} {r : List Nat} (s : Nat) (h : c ≠ 32) (e : (tend (c :: r)).1 = none) : scan (c :: r) s = .error (s + 1, "character") := by
  rw [scan, if_neg h, e]
theorem scan_bad {c : Nat} {r : List Nat} (s : Nat) {k : Kd} (h : c ≠ 32) (e : (tend (c :: r)).1 = some k) (b : tk k ((c :: r).take (tend (c :: r)).2) = false) : scan (c :: r) s = .error (s + 1, k.s) := by
  rw [scan, if_neg h, e]
  dsimp only
  rw [b]
  rfl
theorem scan_tk {c : Nat} {r : List Nat} (s : Nat) {k : Kd} (h : c ≠ 32) (e : (tend (c :: r)).1 = some k) (b : tk k ((c :: r).take (tend (c :: r)).2) = true) :
    scan (c :: r) s = pushT (k.s, ofL ((c :: r).take (tend (c :: r)).2), s + 1) (scan ((c :: r).drop (tend (c :: r)).2) (s + (tend (c :: r)).2)) := by
  rw [scan, if_neg h, e]
  dsimp only
  rw [b, drop_pred (tend_pos _)]
  rfl
theorem scan_sps (n : Nat) (l : List Nat) (s : Nat) : scan (List.replicate n 32 ++ l) s = scan l (s + n) := by
  induction n generalizing s with
  | zero => rfl
  | succ n ih => rw [List.replicate_succ, List.cons_append, scan_sp, ih]; congr 1; omega
/-! ### pieces -/
/-- what is found does not grow into what follows -/
def grows (x l : List Nat) : Bool := match x.getLast?, l.head? with
  | some a, some b => inn abc a && inn abc b || inn dig a && inn dig b || (decide (x = [60]) || decide (x = [62])) && decide (b = 61)
  | _, _ => false
theorem run_app {al x l : List Nat} (hx : x.all (inn al) = true) (hl : ∀ c, l.head? = some c → inn al c = false) : run al (x ++ l) = x.length := by
  unfold run
  have : (x ++ l).takeWhile (inn al) = x := by
    rw [List.takeWhile_append_of_pos (fun a ha => List.all_eq_true.mp hx a ha)]
    have : l.takeWhile (inn al) = [] := by
      cases l with
      | nil => rfl
      | cons c l => rw [List.takeWhile_cons_of_neg (by rw [hl c rfl]; decide)]
    rw [this, List.append_nil]
  rw [this]
def SIGNS : List (List Nat) := [[60, 61], [62, 61], [60], [61], [62], [43], [45], [42], [47], [40], [41], [44]]
/-- a piece's signs belong to its kind -/
def isK (k : Kd) (x : List Nat) : Prop := match k with
  | .word => x ≠ [] ∧ x.all (inn abc) = true
  | .number => x ≠ [] ∧ x.all (inn dig) = true
  | .sign => x ∈ SIGNS
theorem isK.ne {k : Kd} {x : List Nat} (h : isK k x) : x ≠ [] := by
  cases k with
  | word => exact h.1
  | number => exact h.1
  | sign => intro e; subst e; exact absurd (show [] ∈ SIGNS from h) (by decide)
theorem grow_last {x l : List Nat} (g : grows x l = false) {al : List Nat} (hal : al = abc ∨ al = dig) (hn : x ≠ []) (hx : x.all (inn al) = true) : ∀ c, l.head? = some c → inn al c = false := fun c hc => by
  unfold grows at g
  rw [List.getLast?_eq_some_getLast hn, hc] at g
  have ha := List.all_eq_true.mp hx _ (List.getLast_mem hn)
  simp only [Bool.or_eq_false_iff] at g
  rcases hal with rfl | rfl
  · have := g.1.1; rw [ha] at this; simpa using this
  · have := g.1.2; rw [ha] at this; simpa using this
theorem tend_k {k : Kd} {x l : List Nat} (h : isK k x) (g : grows x l = false) : ∃ c r, x ++ l = c :: r ∧ c ≠ 32 ∧ tend (c :: r) = (some k, x.length) := by
  cases k with
  | word =>
    obtain ⟨hn, hx⟩ := h
    cases x with
    | nil => exact absurd rfl hn
    | cons c y =>
      have hc := List.all_eq_true.mp hx c List.mem_cons_self
      refine ⟨c, y ++ l, rfl, by have := (in_abc c).mp hc; omega, ?_⟩
      unfold tend
      dsimp only
      rw [if_pos hc, ← List.cons_append, run_app hx (grow_last g (.inl rfl) hn hx)]
  | number =>
    obtain ⟨hn, hx⟩ := h
    cases x with
    | nil => exact absurd rfl hn
    | cons c y =>
      have hc := List.all_eq_true.mp hx c List.mem_cons_self
      have hr := (in_dig c).mp hc
      refine ⟨c, y ++ l, rfl, by omega, ?_⟩
      unfold tend
      dsimp only
      rw [not_abc (by omega), hc, ← List.cons_append, run_app hx (grow_last g (.inr rfl) hn hx)]
      rfl
  | sign =>
    have h : x ∈ SIGNS := h
    have one : ∀ a, a ∈ [60, 61, 62, 43, 45, 42, 47, 40, 41, 44] → x = [a] → (a = 60 ∨ a = 62 → ∀ c, l.head? = some c → c ≠ 61) → ∃ c r, x ++ l = c :: r ∧ c ≠ 32 ∧ tend (c :: r) = (some .sign, x.length) := fun a ha e hl => by
      subst e
      refine ⟨a, l, rfl, by simp only [List.mem_cons, List.not_mem_nil, or_false] at ha; omega, ?_⟩
      have ha2 := ha
      simp only [List.mem_cons, List.not_mem_nil, or_false] at ha2
      have nl : long (a :: l) = false := by
        unfold long
        split
        · rename_i r e
          cases e
          exact absurd rfl (hl (.inl rfl) 61 rfl)
        · rename_i r e
          cases e
          exact absurd rfl (hl (.inr rfl) 61 rfl)
        · rfl
      unfold tend
      dsimp only
      rw [not_abc (by omega), not_dig (by omega), nl, (in_sgs a).mpr ha]
      rfl
    have gl : ∀ a, x = [a] → (a = 60 ∨ a = 62) → ∀ c, l.head? = some c → c ≠ 61 := fun a e ha c hc q => by
      subst e; subst q
      unfold grows at g
      rw [hc] at g
      rcases ha with rfl | rfl <;> simp at g
    unfold SIGNS at h
    rcases List.mem_cons.mp h with rfl | h
    · exact ⟨60, 61 :: l, rfl, by decide, by unfold tend; dsimp only; rw [not_abc (by decide), not_dig (by decide)]; rfl⟩
    rcases List.mem_cons.mp h with rfl | h
    · exact ⟨62, 61 :: l, rfl, by decide, by unfold tend; dsimp only; rw [not_abc (by decide), not_dig (by decide)]; rfl⟩
    have : ∃ a, a ∈ [60, 61, 62, 43, 45, 42, 47, 40, 41, 44] ∧ x = [a] := by
      simp only [List.mem_cons, List.not_mem_nil, or_false] at h
      rcases h with rfl | rfl | rfl | rfl | rfl | rfl | rfl | rfl | rfl | rfl <;> exact ⟨_, by decide, rfl⟩
    obtain ⟨a, ha, e⟩ := this
    exact one a ha e (gl a e)
theorem scan_piece {k : Kd} {x l : List Nat} (s : Nat) (h : isK k x) (g : grows x l = false) (b : tk k x = true) : scan (x ++ l) s = pushT (k.s, ofL x, s + 1) (scan l (s + x.length)) := by
  obtain ⟨c, r, e, h32, ht⟩ := tend_k h g
  have e1 : (c :: r).take x.length = x := by rw [← e, List.take_left]
  have e2 : (c :: r).drop x.length = l := by rw [← e, List.drop_left]
  rw [e, scan_tk (k := k) s h32 (by rw [ht]) (by rw [ht]; dsimp only; rw [e1]; exact b), ht]
  dsimp only
  rw [e1, e2]
theorem scan_wrong {k : Kd} {x l : List Nat} (s : Nat) (h : isK k x) (g : grows x l = false) (b : tk k x = false) : scan (x ++ l) s = .error (s + 1, k.s) := by
  obtain ⟨c, r, e, h32, ht⟩ := tend_k h g
  have e1 : (c :: r).take x.length = x := by rw [← e, List.take_left]
  rw [e, scan_bad (k := k) s h32 (by rw [ht]) (by rw [ht]; dsimp only; rw [e1]; exact b)]
theorem scan_char {c : Nat} {l : List Nat} (s : Nat) (h : c ∈ [65, 95, 35, 46, 36, 58, 59]) : scan (c :: l) s = .error (s + 1, "character") := by
  simp only [List.mem_cons, List.not_mem_nil, or_false] at h
  refine scan_none s (by omega) ?_
  have nl : long (c :: l) = false := by
    unfold long
    split
    · rename_i e; cases e; omega
    · rename_i e; cases e; omega
    · rfl
  unfold tend
  dsimp only
  have ns : inn sgs c = false := by
    cases e : inn sgs c with
    | false => rfl
    | true =>
      have := (in_sgs c).mp e
      simp only [List.mem_cons, List.not_mem_nil, or_false] at this
      omega
  rw [not_abc (by omega), not_dig (by omega), nl, ns]
  rfl
/-! ### a line that is built from the left -/
def appT (ts : List Tk) : Except (Nat × Str) (List Tk) → Except (Nat × Str) (List Tk)
  | .ok l => .ok (ts ++ l)
  | .error e => .error e
/-- what is written so far is read as these tokens, before whatever does not grow out of it -/
def Done (y b : List Nat) (ts : List Tk) : Prop := ∀ l, grows b l = false → scan (y ++ l) 0 = appT ts (scan l y.length)
def Bad (y b : List Nat) (e : Nat × Str) : Prop := ∀ l, grows b l = false → scan (y ++ l) 0 = .error e
theorem grows_sp (b l : List Nat) : grows b (32 :: l) = false := by
  unfold grows
  split
  · rename_i a c h1 h2
    have : 32 = c := by simpa using h2
    subst this
    rw [not_abc (show 32 < 97 ∨ _ by decide), not_dig (show 32 < 48 ∨ _ by decide)]
    simp
  · rfl
theorem grows_sps {b l : List Nat} {n : Nat} (h : n = 0 → grows b l = false) : grows b (List.replicate n 32 ++ l) = false := by
  cases n with
  | zero => exact h rfl
  | succ n => rw [List.replicate_succ]; exact grows_sp _ _
theorem grows_nil (b : List Nat) : grows b [] = false := by
  unfold grows
  split
  · rename_i h; cases h
  · rfl
theorem grows_app {b x l : List Nat} (h : x ≠ []) : grows b (x ++ l) = grows b x := by
  unfold grows
  cases x with
  | nil => exact absurd rfl h
  | cons a x => rfl
theorem Done.add {y b x : List Nat} {ts : List Tk} {n : Nat} {k : Kd} (h : Done y b ts) (hk : isK k x) (ht : tk k x = true) (g : n = 0 → grows b x = false) :
    Done (y ++ List.replicate n 32 ++ x) x (ts ++ [(k.s, ofL x, y.length + n + 1)]) := fun l hl => by
  have hn : x ≠ [] := by
    exact hk.ne
  have := h (List.replicate n 32 ++ (x ++ l)) (grows_sps fun e => by rw [grows_app hn]; exact g e)
  rw [scan_sps, scan_piece _ hk hl ht] at this
  rw [show y ++ List.replicate n 32 ++ x ++ l = y ++ (List.replicate n 32 ++ (x ++ l)) by simp only [List.append_assoc], this]
  have e : y.length + n + x.length = (y ++ List.replicate n 32 ++ x).length := by simp; omega
  rw [e]
  cases scan l _ with
  | ok q => show Except.ok (ts ++ _ :: q) = Except.ok (ts ++ [_] ++ q); rw [List.append_assoc]; rfl
  | error q => rfl
theorem Bad.add {y b x : List Nat} {e : Nat × Str} {n : Nat} (h : Bad y b e) (hn : x ≠ []) (g : n = 0 → grows b x = false) : Bad (y ++ List.replicate n 32 ++ x) x e := fun l hl => by
  have := h (List.replicate n 32 ++ (x ++ l)) (grows_sps fun e => by rw [grows_app hn]; exact g e)
  rw [show y ++ List.replicate n 32 ++ x ++ l = y ++ (List.replicate n 32 ++ (x ++ l)) by simp only [List.append_assoc], this]
/-- an incorrect piece and its reason -/
def isBad (rs : Str) (x : List Nat) : Prop := (∃ c, x = [c] ∧ c ∈ [65, 95, 35, 46, 36, 58, 59] ∧ rs = "character") ∨ ∃ k, isK k x ∧ tk k x = false ∧ rs = k.s
theorem Done.bad {y b x : List Nat} {ts : List Tk} {n : Nat} {rs : Str} (h : Done y b ts) (hb : isBad rs x) (g : n = 0 → grows b x = false) :
    Bad (y ++ List.replicate n 32 ++ x) x (y.length + n + 1, rs) := fun l hl => by
  have hn : x ≠ [] := by
    rcases hb with ⟨c, rfl, _⟩ | ⟨k, hk, _⟩
    · exact List.cons_ne_nil _ _
    · exact hk.ne
  have := h (List.replicate n 32 ++ (x ++ l)) (grows_sps fun e => by rw [grows_app hn]; exact g e)
  rw [show y ++ List.replicate n 32 ++ x ++ l = y ++ (List.replicate n 32 ++ (x ++ l)) by simp only [List.append_assoc], this, scan_sps]
  rcases hb with ⟨c, rfl, hc, rfl⟩ | ⟨k, hk, ht, rfl⟩
  · rw [List.singleton_append, scan_char _ hc]; rfl
  · rw [scan_wrong _ hk hl ht]; rfl
theorem Done.init (n : Nat) : Done (List.replicate n 32) [] [] := fun l _ => by
  rw [scan_sps, List.length_replicate, Nat.zero_add]
  cases scan l n <;> rfl
theorem Done.fin {y b : List Nat} {ts : List Tk} (h : Done y b ts) (n : Nat) : scan (y ++ List.replicate n 32) 0 = .ok ts := by
  rw [h _ (by have := grows_sps (b := b) (l := []) (n := n) (fun _ => grows_nil b); rwa [List.append_nil] at this)]
  have := scan_sps n [] y.length
  rw [List.append_nil] at this
  rw [this, scan_nil]
  show Except.ok (ts ++ []) = _
  rw [List.append_nil]
theorem Bad.fin {y b : List Nat} {e : Nat × Str} (h : Bad y b e) (n : Nat) : scan (y ++ List.replicate n 32) 0 = .error e :=
  h _ (by have := grows_sps (b := b) (l := []) (n := n) (fun _ => grows_nil b); rwa [List.append_nil] at this)
end K00
set_option Elab.async false
set_option linter.all false
set_option maxRecDepth 100000
set_option maxHeartbeats 4000000
namespace K00
open PySem PySem.Spec PyProof.Rows L2 DL
variable {P : Program} {w : World} {K : Frg} {mg : Str → Option Value} {base : Heap}

def sd_l_draws : SpD := fun args Q => ∃ ns : List Int, args = [.fr (.scr (ns.map D.int))] ∧ ns.length ≤ 63 ∧ ∀ zs : List Int, zs.length ≤ 10000 → Q (.ow (.lst (zs.map D.int))) [.un]
theorem ok_l_draws (T : Tx K mg) : FnOk P w K mg base CX0 1 T.f_l_draws T.fd_l_draws ["_law_script"] (spD K 1 sd_l_draws) := by
  refine fn_D (k := 0) T.d_l_draws.F sc_l_draws (fun H0 Fm Z0 vs cdv A outer s H Ex hr =>
    have nd := sc_l_draws.nd; have u64 := hr.units; have u65 := u65_of hr; have u70 := u70_of hr
    (dss_cons (ds_setn 1 nd (dn_lst da_nil))
    (dss_cons (ds_for PassesOwn.never (di_seq (de_v 0)) (dg_n 2 nd) (dss_cons (ds_set 5 nd (de_b1 b_abs T.m_abs (db_v 2)))
    (dss_join (ds_if (dt_cmp (o_lt) (de_v 5) (de_op o_pow de_int de_int)) (dss_cons (ds_set 6 nd (de_op o_mod (de_t1 b_int T.m_int (db_e (de_op o_add (de_op o_mul (de_v 5) de_int) de_int))) de_int))
    (dss_cons (ds_expr (de_append 1 (de_op o_mod (de_t1 b_int T.m_int (db_e (de_op o_add (de_op o_mul (de_v 6) de_int) (de_v 5)))) de_int)))
    (dss_cons (ds_expr (de_append 1 (de_op o_mod (de_t1 b_int T.m_int (db_e (de_op o_add (de_v 6) (de_op o_fdivW (de_v 5) de_int)))) de_int)))
    (dss_one (ds_set 5 nd de_int))))) dss_nil)
    (dss_one (ds_for PassesOwn.never (di_range1 rfl T.m_range de_int) (dg_n 4 nd) (dss_one (ds_if (dt_cmp (o_gt) (de_v 5) de_int) (dss_cons (ds_expr (de_append 1 (de_op o_mod (de_t1 b_int T.m_int (db_v 5)) de_int)))
    (dss_one (ds_set 5 nd (de_op o_fdivW (de_v 5) de_int)))) dss_nil)))))))
    (dss_cons (ds_set 3 nd de_int)
    (dss_join (ds_if (dt_cmp (o_gt) (de_b1 b_lenS T.m_len (db_v 0)) de_int) (dss_one (ds_set 3 nd (de_op o_add de_int (de_b1 b_abs T.m_abs (db_e (de_ixS (de_v 0) de_int)))))) dss_nil)
    (dss_cons (ds_for PassesOwn.never (di_range1 rfl T.m_range de_int) (dg_n 4 nd) (dss_cons (ds_set 3 nd (de_op o_mod (de_t1 b_int T.m_int (db_e (de_op o_add (de_op o_mul (de_v 3) de_int) de_int))) de_int))
    (dss_one (ds_expr (de_append 1 (de_op o_fdivW (de_v 3) de_int))))))
    (dss_one (ds_retn (dn_listRev T.m_list T.m_reversed (db_v 1)))))))))) (fun args Qd hl h => ?_)
  obtain ⟨ns, rfl, hl, q⟩ := h
  (repeat' ((try conv => whnf); first | (refine And.intro ?sd ?_; case sd => (first | exact rfl | exact ⟨shp_int _, shp_int _⟩ | exact Nat.le_of_ble_eq_true rfl | assumption | exact cmL rfl | exact cmR rfl | exact ⟨by decide +kernel, by decide +kernel⟩ | exact ⟨rfl, rfl⟩ | omega | decide +kernel)) | refine brT (by first | exact rfl | assumption | decide +kernel) ?_ | refine brF (by first | exact rfl | assumption | decide +kernel) ?_ | refine brT (dec_self _) ?_ | refine brF (ndec_self _) ?_ | refine ⟨fun i E => ∃ (zs : List Int) (x2 x4 x5 x6 : S), E = [.fr (.scr (ns.map D.int)), .ow (.lst (zs.map D.int)), x2, .un, x4, x5, x6] ∧ (S.free (some x2) = true ∧ S.free (some x4) = true ∧ S.free (some x5) = true ∧ S.free (some x6) = true) ∧ zs.length ≤ 62 * i, ⟨[], _, _, _, _, rfl, ⟨rfl, rfl, rfl, rfl⟩, Nat.zero_le _⟩, fun i e E hd hi => ?_, fun E hi => ?_⟩ | fail); all_goals (try conv => whnf))
  
  · obtain ⟨zs, x2, x4, x5, x6, rfl, ⟨f2, f4, f5, f6⟩, hz⟩ := hi
    obtain ⟨z, rfl, hz2⟩ := map_at hd
    have hi := lt_of_get hz2
    (repeat' ((try conv => whnf); first | (refine And.intro ?sd ?_; case sd => (first | exact rfl | exact ⟨shp_int _, shp_int _⟩ | exact Nat.le_of_ble_eq_true rfl | assumption | exact cmL rfl | exact cmR rfl | exact ⟨by decide +kernel, by decide +kernel⟩ | exact ⟨rfl, rfl⟩ | omega | decide +kernel)) | refine brT (by first | exact rfl | assumption | decide +kernel) ?_ | refine brF (by first | exact rfl | assumption | decide +kernel) ?_ | refine brT (dec_self _) ?_ | refine brF (ndec_self _) ?_ | refine ⟨fun E => ∃ (zs : List Int) (n : Int) (x6 : S), E = [.fr (.scr (ns.map D.int)), .ow (.lst (zs.map D.int)), .fr (.int z), .un, x4, .fr (.int n), x6] ∧ S.free (some x6) = true ∧ zs.length ≤ 62 * i + 2, ?_, ?_⟩ | fail); all_goals (try conv => whnf))
    · refine br (fun h => ?_) (fun h => ?_)
      · (repeat' ((try conv => whnf); first | (refine And.intro ?sd ?_; case sd => (first | exact rfl | exact ⟨shp_int _, shp_int _⟩ | exact Nat.le_of_ble_eq_true rfl | assumption | exact cmL rfl | exact cmR rfl | exact ⟨by decide +kernel, by decide +kernel⟩ | exact ⟨rfl, rfl⟩ | omega | decide +kernel)) | refine brT (by first | exact rfl | assumption | decide +kernel) ?_ | refine brF (by first | exact rfl | assumption | decide +kernel) ?_ | refine brT (dec_self _) ?_ | refine brF (ndec_self _) ?_ | refine And.intro (by simp only [List.length_map, List.length_append, List.length_cons, List.length_nil]; exact len_lz (by omega)) ?_ | refine And.intro (wdiv (by decide) (by decide)) ?_ | fail); all_goals (try conv => whnf))
        rw [snoc_int2]
        exact ⟨_, _, _, rfl, rfl, by simp only [List.length_append, List.length_cons, List.length_nil]; omega⟩
      · (repeat' ((try conv => whnf); first | (refine And.intro ?sd ?_; case sd => (first | exact rfl | exact ⟨shp_int _, shp_int _⟩ | exact Nat.le_of_ble_eq_true rfl | assumption | exact cmL rfl | exact cmR rfl | exact ⟨by decide +kernel, by decide +kernel⟩ | exact ⟨rfl, rfl⟩ | omega | decide +kernel)) | refine brT (by first | exact rfl | assumption | decide +kernel) ?_ | refine brF (by first | exact rfl | assumption | decide +kernel) ?_ | refine brT (dec_self _) ?_ | refine brF (ndec_self _) ?_ | fail); all_goals (try conv => whnf))
        exact ⟨_, _, _, rfl, f6, by omega⟩
    · rintro E' ⟨zs, n, x6, rfl, f6, hz⟩
      (repeat' ((try conv => whnf); first | (refine And.intro ?sd ?_; case sd => (first | exact rfl | exact ⟨shp_int _, shp_int _⟩ | exact Nat.le_of_ble_eq_true rfl | assumption | exact cmL rfl | exact cmR rfl | exact ⟨by decide +kernel, by decide +kernel⟩ | exact ⟨rfl, rfl⟩ | omega | decide +kernel)) | refine brT (by first | exact rfl | assumption | decide +kernel) ?_ | refine brF (by first | exact rfl | assumption | decide +kernel) ?_ | refine brT (dec_self _) ?_ | refine brF (ndec_self _) ?_ | refine ⟨fun j E => ∃ (zs : List Int) (n : Int) (x4 : S), E = [.fr (.scr (ns.map D.int)), .ow (.lst (zs.map D.int)), .fr (.int z), .un, x4, .fr (.int n), x6] ∧ S.free (some x4) = true ∧ zs.length ≤ 62 * i + 2 + j, ⟨_, _, _, rfl, f4, hz⟩, fun j e E hd hi => ?_, fun E hi => ?_⟩ | fail); all_goals (try conv => whnf))
      · obtain ⟨zs, n, x4, rfl, f4, hz⟩ := hi
        obtain ⟨hk, rfl⟩ := rng_get hd
        (repeat' ((try conv => whnf); first | (refine And.intro ?sd ?_; case sd => (first | exact rfl | exact ⟨shp_int _, shp_int _⟩ | exact Nat.le_of_ble_eq_true rfl | assumption | exact cmL rfl | exact cmR rfl | exact ⟨by decide +kernel, by decide +kernel⟩ | exact ⟨rfl, rfl⟩ | omega | decide +kernel)) | refine brT (by first | exact rfl | assumption | decide +kernel) ?_ | refine brF (by first | exact rfl | assumption | decide +kernel) ?_ | refine brT (dec_self _) ?_ | refine brF (ndec_self _) ?_ | fail); all_goals (try conv => whnf))
        refine br (fun h => ?_) (fun h => ?_)
        · (repeat' ((try conv => whnf); first | (refine And.intro ?sd ?_; case sd => (first | exact rfl | exact ⟨shp_int _, shp_int _⟩ | exact Nat.le_of_ble_eq_true rfl | assumption | exact cmL rfl | exact cmR rfl | exact ⟨by decide +kernel, by decide +kernel⟩ | exact ⟨rfl, rfl⟩ | omega | decide +kernel)) | refine brT (by first | exact rfl | assumption | decide +kernel) ?_ | refine brF (by first | exact rfl | assumption | decide +kernel) ?_ | refine brT (dec_self _) ?_ | refine brF (ndec_self _) ?_ | refine And.intro (by simp only [List.length_map, List.length_append, List.length_cons, List.length_nil]; exact len_lz (by omega)) ?_ | refine And.intro (wdiv (by decide) (by decide)) ?_ | fail); all_goals (try conv => whnf))
          rw [snoc_int]
          exact ⟨_, _, _, rfl, rfl, by simp only [List.length_append, List.length_cons, List.length_nil]; omega⟩
        · (repeat' ((try conv => whnf); first | (refine And.intro ?sd ?_; case sd => (first | exact rfl | exact ⟨shp_int _, shp_int _⟩ | exact Nat.le_of_ble_eq_true rfl | assumption | exact cmL rfl | exact cmR rfl | exact ⟨by decide +kernel, by decide +kernel⟩ | exact ⟨rfl, rfl⟩ | omega | decide +kernel)) | refine brT (by first | exact rfl | assumption | decide +kernel) ?_ | refine brF (by first | exact rfl | assumption | decide +kernel) ?_ | refine brT (dec_self _) ?_ | refine brF (ndec_self _) ?_ | fail); all_goals (try conv => whnf))
          exact ⟨_, _, _, rfl, rfl, by omega⟩
      · obtain ⟨zs, n, x4, rfl, f4, hz⟩ := hi
        rw [rng_len] at hz
        (repeat' ((try conv => whnf); first | (refine And.intro ?sd ?_; case sd => (first | exact rfl | exact ⟨shp_int _, shp_int _⟩ | exact Nat.le_of_ble_eq_true rfl | assumption | exact cmL rfl | exact cmR rfl | exact ⟨by decide +kernel, by decide +kernel⟩ | exact ⟨rfl, rfl⟩ | omega | decide +kernel)) | refine brT (by first | exact rfl | assumption | decide +kernel) ?_ | refine brF (by first | exact rfl | assumption | decide +kernel) ?_ | refine brT (dec_self _) ?_ | refine brF (ndec_self _) ?_ | fail); all_goals (try conv => whnf))
        exact ⟨_, _, _, _, _, rfl, ⟨rfl, f4, rfl, f6⟩, by omega⟩
  · obtain ⟨zs, x2, x4, x5, x6, rfl, ⟨f2, f4, f5, f6⟩, hz⟩ := hi
    rw [List.length_map] at hz
    (repeat' ((try conv => whnf); first | (refine And.intro ?sd ?_; case sd => (first | exact rfl | exact ⟨shp_int _, shp_int _⟩ | exact Nat.le_of_ble_eq_true rfl | assumption | exact cmL rfl | exact cmR rfl | exact ⟨by decide +kernel, by decide +kernel⟩ | exact ⟨rfl, rfl⟩ | omega | decide +kernel)) | refine brT (by first | exact rfl | assumption | decide +kernel) ?_ | refine brF (by first | exact rfl | assumption | decide +kernel) ?_ | refine brT (dec_self _) ?_ | refine brF (ndec_self _) ?_ | refine ⟨fun E => ∃ v : Int, E = [.fr (.scr (ns.map D.int)), .ow (.lst (zs.map D.int)), x2, .fr (.int v), x4, x5, x6], ?_, ?_⟩ | fail); all_goals (try conv => whnf))
    · refine br (fun h => ?_) (fun h => ?_)
      · have h : decide ((0 : Int) < ((ns.map D.int).length : Int)) = true := h
        have h := of_decide_eq_true h
        rw [List.length_map] at h
        obtain ⟨z, hz⟩ := at_ints (ns := ns) (i := 0) (by decide) h
        (repeat' ((try conv => whnf); first | (refine And.intro ?sd ?_; case sd => (first | exact rfl | exact ⟨shp_int _, shp_int _⟩ | exact Nat.le_of_ble_eq_true rfl | assumption | exact cmL rfl | exact cmR rfl | exact ⟨by decide +kernel, by decide +kernel⟩ | exact ⟨rfl, rfl⟩ | omega | decide +kernel)) | refine brT (by first | exact rfl | assumption | decide +kernel) ?_ | refine brF (by first | exact rfl | assumption | decide +kernel) ?_ | refine brT (dec_self _) ?_ | refine brF (ndec_self _) ?_ | (rw [hz]) | fail); all_goals (try conv => whnf))
        exact ⟨_, rfl⟩
      · (repeat' ((try conv => whnf); first | (refine And.intro ?sd ?_; case sd => (first | exact rfl | exact ⟨shp_int _, shp_int _⟩ | exact Nat.le_of_ble_eq_true rfl | assumption | exact cmL rfl | exact cmR rfl | exact ⟨by decide +kernel, by decide +kernel⟩ | exact ⟨rfl, rfl⟩ | omega | decide +kernel)) | refine brT (by first | exact rfl | assumption | decide +kernel) ?_ | refine brF (by first | exact rfl | assumption | decide +kernel) ?_ | refine brT (dec_self _) ?_ | refine brF (ndec_self _) ?_ | fail); all_goals (try conv => whnf))
        exact ⟨1, rfl⟩
    · rintro E' ⟨v, rfl⟩
      (repeat' ((try conv => whnf); first | (refine And.intro ?sd ?_; case sd => (first | exact rfl | exact ⟨shp_int _, shp_int _⟩ | exact Nat.le_of_ble_eq_true rfl | assumption | exact cmL rfl | exact cmR rfl | exact ⟨by decide +kernel, by decide +kernel⟩ | exact ⟨rfl, rfl⟩ | omega | decide +kernel)) | refine brT (by first | exact rfl | assumption | decide +kernel) ?_ | refine brF (by first | exact rfl | assumption | decide +kernel) ?_ | refine brT (dec_self _) ?_ | refine brF (ndec_self _) ?_ | refine ⟨fun i E => ∃ (zs : List Int) (v : Int) (x4 : S), E = [.fr (.scr (ns.map D.int)), .ow (.lst (zs.map D.int)), x2, .fr (.int v), x4, x5, x6] ∧ S.free (some x4) = true ∧ zs.length ≤ 4000 + i, ⟨_, _, _, rfl, f4, by omega⟩, fun i e E hd hi => ?_, fun E hi => ?_⟩ | fail); all_goals (try conv => whnf))
      · obtain ⟨zs, v, x4, rfl, f4, hz⟩ := hi
        obtain ⟨hk, rfl⟩ := rng_get hd
        (repeat' ((try conv => whnf); first | (refine And.intro ?sd ?_; case sd => (first | exact rfl | exact ⟨shp_int _, shp_int _⟩ | exact Nat.le_of_ble_eq_true rfl | assumption | exact cmL rfl | exact cmR rfl | exact ⟨by decide +kernel, by decide +kernel⟩ | exact ⟨rfl, rfl⟩ | omega | decide +kernel)) | refine brT (by first | exact rfl | assumption | decide +kernel) ?_ | refine brF (by first | exact rfl | assumption | decide +kernel) ?_ | refine brT (dec_self _) ?_ | refine brF (ndec_self _) ?_ | refine And.intro (by simp only [List.length_map, List.length_append, List.length_cons, List.length_nil]; exact len_lz (by omega)) ?_ | refine And.intro (wdiv (by decide) (by decide)) ?_ | fail); all_goals (try conv => whnf))
        rw [snoc_int]
        exact ⟨_, _, _, rfl, rfl, by simp only [List.length_append, List.length_cons, List.length_nil]; omega⟩
      · obtain ⟨zs, v, x4, rfl, f4, hz⟩ := hi
        rw [rng_len] at hz
        (repeat' ((try conv => whnf); first | (refine And.intro ?sd ?_; case sd => (first | exact rfl | exact ⟨shp_int _, shp_int _⟩ | exact Nat.le_of_ble_eq_true rfl | assumption | exact cmL rfl | exact cmR rfl | exact ⟨by decide +kernel, by decide +kernel⟩ | exact ⟨rfl, rfl⟩ | omega | decide +kernel)) | refine brT (by first | exact rfl | assumption | decide +kernel) ?_ | refine brF (by first | exact rfl | assumption | decide +kernel) ?_ | refine brT (dec_self _) ?_ | refine brF (ndec_self _) ?_ | fail); all_goals (try conv => whnf))
        rw [← List.map_reverse]
        exact q _ (by rw [List.length_reverse]; omega)

def sd_l_take : SpD := fun args Q => ∃ (ns : List Int) (b : Int), args = [.mu (.lst (ns.map D.int)), .fr (.int b)] ∧ ns.length ≤ 10000 ∧ 0 < b ∧ ∀ (k : Int) (ns' : List Int), 0 ≤ k → k < b → ns'.length ≤ 10000 → Q (.fr (.int k)) [.mu (.lst (ns'.map D.int)), .un]
theorem ok_l_take (T : Tx K mg) : FnOk P w K mg base CX0 1 T.f_l_take T.fd_l_take ["_law_draws_here", "_law_bound"] (spD K 2 sd_l_take) := by
  refine fn_D (k := 0) T.d_l_take.F sc_l_take (fun H0 Fm Z0 vs cdv A outer s H Ex hr =>
    have nd := sc_l_take.nd; have u64 := hr.units; have u65 := u65_of hr; have u70 := u70_of hr
    (dss_cons (ds_if (dt_cmp (o_eqA u65) (de_b1 b_len T.m_len (db_v 0)) de_int) (dss_one (ds_ret de_int)) dss_nil)
    (dss_one (ds_ret (de_op o_mod (de_t1 b_int T.m_int (db_e (de_pop 0))) (de_v 1)))))) (fun args Qd hl h => ?_)
  obtain ⟨ns, b, rfl, hl, hb, q⟩ := h
  (repeat' ((try conv => whnf); first | (refine And.intro ?sd ?_; case sd => (first | exact rfl | exact ⟨shp_int _, shp_int _⟩ | exact Nat.le_of_ble_eq_true rfl | assumption | exact cmL rfl | exact cmR rfl | exact ⟨by decide +kernel, by decide +kernel⟩ | exact ⟨rfl, rfl⟩ | omega | decide +kernel)) | refine brT (by first | exact rfl | assumption | decide +kernel) ?_ | refine brF (by first | exact rfl | assumption | decide +kernel) ?_ | refine brT (dec_self _) ?_ | refine brF (ndec_self _) ?_ | refine And.intro (by rw [List.length_map]; exact len_sz (by omega)) ?_ | fail); all_goals (try conv => whnf))
  
  refine br (fun e => ?_) fun e => ?_
  · (repeat' ((try conv => whnf); first | (refine And.intro ?sd ?_; case sd => (first | exact rfl | exact ⟨shp_int _, shp_int _⟩ | exact Nat.le_of_ble_eq_true rfl | assumption | exact cmL rfl | exact cmR rfl | exact ⟨by decide +kernel, by decide +kernel⟩ | exact ⟨rfl, rfl⟩ | omega | decide +kernel)) | refine brT (by first | exact rfl | assumption | decide +kernel) ?_ | refine brF (by first | exact rfl | assumption | decide +kernel) ?_ | refine brT (dec_self _) ?_ | refine brF (ndec_self _) ?_ | fail); all_goals (try conv => whnf))
    exact q 0 ns (by omega) hb hl
  · have ne : ns ≠ [] := fun z => by subst z; simp [eqv_int] at e
    obtain ⟨init, x, rfl⟩ := snoc_of_ne ne
    (repeat' ((try conv => whnf); first | (refine And.intro ?sd ?_; case sd => (first | exact rfl | exact ⟨shp_int _, shp_int _⟩ | exact Nat.le_of_ble_eq_true rfl | assumption | exact cmL rfl | exact cmR rfl | exact ⟨by decide +kernel, by decide +kernel⟩ | exact ⟨rfl, rfl⟩ | omega | decide +kernel)) | refine brT (by first | exact rfl | assumption | decide +kernel) ?_ | refine brF (by first | exact rfl | assumption | decide +kernel) ?_ | refine brT (dec_self _) ?_ | refine brF (ndec_self _) ?_ | refine popMuI (init := init) (x := x) rfl ?_ | fail); all_goals (try conv => whnf))
    exact q _ init (Int.emod_nonneg _ (by omega)) (Int.emod_lt_of_pos _ hb) (by simp at hl; omega)
end K00
set_option Elab.async false
set_option linter.all false
set_option maxRecDepth 100000
set_option maxHeartbeats 4000000
namespace K00
open PySem PySem.Spec PyProof.Rows L2 DL
variable {P : Program} {w : World} {K : Frg} {mg : Str → Option Value} {base : Heap}

def sdSame : Nat → SpD
  | 0 => fun _ _ => False
  | k + 1 => fun args Q => ∃ d, args = [.fr d, .fr d] ∧ okD k d = true ∧ Q (.fr (.bl true)) [.un, .un]
theorem st_l_same (T : Tx K mg) {k : Nat} (hk : 0 ≤ k) {sd0 : SpD} {n : Nat} (hs : sd0 = sdSame n) (G_l_same : FnOk P w K mg base CX0 k T.f_l_same T.fd_l_same ["_law_actual", "_law_due"] (spD K 2 sd0)) : FnOk P w K mg base CX0 (k + 1) T.f_l_same T.fd_l_same ["_law_actual", "_law_due"] (spD K 2 (sdSame (n + 1))) := by
  refine fn_D (k := k) T.d_l_same.F sc_l_same (fun H0 Fm Z0 vs cdv A outer s H Ex hr =>
    have nd := sc_l_same.nd; have u64 := hr.units; have u65 := u65_of hr; have u70 := u70_of hr
    (dss_cons (ds_if (dt_w (dw_or (dt_b (db_e (de_isi (T := "tuple") T.m_isinstance T.m_tuple (db_v 1)))) (dw_or1 (dt_b (db_e (de_isi (T := "list") T.m_isinstance T.m_list (db_v 1))))))) (dss_cons (ds_if (dt_w (dw_or (dt_cmp (o_neA u65) (de_isi (T := "tuple") T.m_isinstance T.m_tuple (db_v 1)) (de_isi (T := "tuple") T.m_isinstance T.m_tuple (db_v 0))) (dw_or1 (dt_cmp (o_neA u65) (de_isi (T := "list") T.m_isinstance T.m_list (db_v 1)) (de_isi (T := "list") T.m_isinstance T.m_list (db_v 0)))))) (dss_one (ds_ret de_bl)) dss_nil)
    (dss_cons (ds_if (dt_cmp (o_neA u65) (de_b1 b_len T.m_len (db_v 0)) (de_b1 b_len T.m_len (db_v 1))) (dss_one (ds_ret de_bl)) dss_nil)
    (dss_cons (ds_for PassesOwn.never (di_range1 rfl T.m_range (de_b1 b_len T.m_len (db_v 1))) (dg_n 2 nd) (dss_one (ds_if (dt_not (dt_b (db_e (dcall G_l_same T.d_l_same (hr.mono (Nat.le_refl _)) (dm_d (de_ixo 0 (de_v 2)) (dm_d (de_ixo 1 (de_v 2)) dm_nil)))))) (dss_one (ds_ret de_bl)) dss_nil)))
    (dss_one (ds_ret de_bl))))) dss_nil)
    (dss_cons (ds_if (dt_cmp (o_neA u65) (de_isi (T := "bool") T.m_isinstance T.m_bool (db_v 1)) (de_isi (T := "bool") T.m_isinstance T.m_bool (db_v 0))) (dss_one (ds_ret de_bl)) dss_nil)
    (dss_cons (ds_if (dt_w (dw_or (dt_cmp (o_neA u65) (de_isi (T := "int") T.m_isinstance T.m_int (db_v 1)) (de_isi (T := "int") T.m_isinstance T.m_int (db_v 0))) (dw_or1 (dt_cmp (o_neA u65) (de_isi (T := "str") T.m_isinstance T.m_str (db_v 1)) (de_isi (T := "str") T.m_isinstance T.m_str (db_v 0)))))) (dss_one (ds_ret de_bl)) dss_nil)
    (dss_one (ds_ret (de_cmp (o_eqA u65) (de_v 0) (de_v 1)))))))) (fun args Qd hl h => ?_)
  subst hs
  obtain ⟨d, rfl, hd, q⟩ := h
  cases d with
  | non =>
    (repeat' ((try conv => whnf); first | (refine And.intro ?sd ?_; case sd => (first | exact rfl | exact ⟨shp_int _, shp_int _⟩ | exact Nat.le_of_ble_eq_true rfl | assumption | exact cmL rfl | exact cmR rfl | exact ⟨by decide +kernel, by decide +kernel⟩ | exact ⟨rfl, rfl⟩ | omega | decide +kernel)) | refine brT (by first | exact rfl | assumption | decide +kernel) ?_ | refine brF (by first | exact rfl | assumption | decide +kernel) ?_ | refine brT (dec_self _) ?_ | refine brF (ndec_self _) ?_ | refine ⟨_, kit_NoneType_tuple, ?_⟩ | refine ⟨_, kit_NoneType_list, ?_⟩ | refine ⟨_, kit_NoneType_bool, ?_⟩ | refine ⟨_, kit_NoneType_int, ?_⟩ | refine ⟨_, kit_NoneType_str, ?_⟩ | fail); all_goals (try conv => whnf))
    exact q
  | bl b =>
    (repeat' ((try conv => whnf); first | (refine And.intro ?sd ?_; case sd => (first | exact rfl | exact ⟨shp_int _, shp_int _⟩ | exact Nat.le_of_ble_eq_true rfl | assumption | exact cmL rfl | exact cmR rfl | exact ⟨by decide +kernel, by decide +kernel⟩ | exact ⟨rfl, rfl⟩ | omega | decide +kernel)) | refine brT (by first | exact rfl | assumption | decide +kernel) ?_ | refine brF (by first | exact rfl | assumption | decide +kernel) ?_ | refine brT (dec_self _) ?_ | refine brF (ndec_self _) ?_ | refine ⟨_, kit_bool_tuple, ?_⟩ | refine ⟨_, kit_bool_list, ?_⟩ | refine ⟨_, kit_bool_bool, ?_⟩ | refine ⟨_, kit_bool_int, ?_⟩ | refine ⟨_, kit_bool_str, ?_⟩ | fail); all_goals (try conv => whnf))
    rw [show decide (b = b) = true from decide_eq_true rfl]
    exact q
  | int z =>
    (repeat' ((try conv => whnf); first | (refine And.intro ?sd ?_; case sd => (first | exact rfl | exact ⟨shp_int _, shp_int _⟩ | exact Nat.le_of_ble_eq_true rfl | assumption | exact cmL rfl | exact cmR rfl | exact ⟨by decide +kernel, by decide +kernel⟩ | exact ⟨rfl, rfl⟩ | omega | decide +kernel)) | refine brT (by first | exact rfl | assumption | decide +kernel) ?_ | refine brF (by first | exact rfl | assumption | decide +kernel) ?_ | refine brT (dec_self _) ?_ | refine brF (ndec_self _) ?_ | refine ⟨_, kit_int_tuple, ?_⟩ | refine ⟨_, kit_int_list, ?_⟩ | refine ⟨_, kit_int_bool, ?_⟩ | refine ⟨_, kit_int_int, ?_⟩ | refine ⟨_, kit_int_str, ?_⟩ | fail); all_goals (try conv => whnf))
    rw [show decide (z = z) = true from decide_eq_true rfl]
    exact q
  | str z =>
    have hs : (D.str z).shp = true := by cases n <;> exact hd
    (repeat' ((try conv => whnf); first | (refine And.intro ?sd ?_; case sd => (first | exact rfl | exact ⟨shp_int _, shp_int _⟩ | exact Nat.le_of_ble_eq_true rfl | assumption | exact cmL rfl | exact cmR rfl | exact ⟨by decide +kernel, by decide +kernel⟩ | exact ⟨rfl, rfl⟩ | omega | decide +kernel)) | refine brT (by first | exact rfl | assumption | decide +kernel) ?_ | refine brF (by first | exact rfl | assumption | decide +kernel) ?_ | refine brT (dec_self _) ?_ | refine brF (ndec_self _) ?_ | refine ⟨_, kit_str_tuple, ?_⟩ | refine ⟨_, kit_str_list, ?_⟩ | refine ⟨_, kit_str_bool, ?_⟩ | refine ⟨_, kit_str_int, ?_⟩ | refine ⟨_, kit_str_str, ?_⟩ | refine And.intro ⟨hs, hs⟩ ?_ | fail); all_goals (try conv => whnf))
    rw [show decide (z = z) = true from decide_eq_true rfl]
    exact q
  | tup ds =>
    cases n with
    | zero => cases hd
    | succ n =>
      have hd := Bool.and_eq_true_iff.mp (show (ds.all (okD n) && decide (ds.length ≤ 100000)) = true from hd)
      have hl := of_decide_eq_true hd.2
      (repeat' ((try conv => whnf); first | (refine And.intro ?sd ?_; case sd => (first | exact rfl | exact ⟨shp_int _, shp_int _⟩ | exact Nat.le_of_ble_eq_true rfl | assumption | exact cmL rfl | exact cmR rfl | exact ⟨by decide +kernel, by decide +kernel⟩ | exact ⟨rfl, rfl⟩ | omega | decide +kernel)) | refine brT (by first | exact rfl | assumption | decide +kernel) ?_ | refine brF (by first | exact rfl | assumption | decide +kernel) ?_ | refine brT (dec_self _) ?_ | refine brF (ndec_self _) ?_ | refine ⟨_, kit_tuple_tuple, ?_⟩ | refine ⟨_, kit_tuple_list, ?_⟩ | refine And.intro (len_sz hl) ?_ | refine And.intro ⟨by decide, by decide, by omega, by omega⟩ ?_ | refine ⟨fun i E => ∃ x2, E = [.fr (.tup ds), .fr (.tup ds), x2] ∧ S.free (some x2) = true, ⟨_, rfl, rfl⟩, fun i d E' hd' hi => ?_, fun E' hi => ?_⟩ | fail); all_goals (try conv => whnf))
      · obtain ⟨hi', rfl⟩ := rng_get hd'
        obtain ⟨x2, rfl, f2⟩ := hi
        have hi' : i < ds.length := by omega
        have ei := atI_n0 (List.getElem?_eq_getElem hi')
        (repeat' ((try conv => whnf); first | (refine And.intro ?sd ?_; case sd => (first | exact rfl | exact ⟨shp_int _, shp_int _⟩ | exact Nat.le_of_ble_eq_true rfl | assumption | exact cmL rfl | exact cmR rfl | exact ⟨by decide +kernel, by decide +kernel⟩ | exact ⟨rfl, rfl⟩ | omega | decide +kernel)) | refine brT (by first | exact rfl | assumption | decide +kernel) ?_ | refine brF (by first | exact rfl | assumption | decide +kernel) ?_ | refine brT (dec_self _) ?_ | refine brF (ndec_self _) ?_ | (rw [ei]) | refine ⟨_, rfl, all_at hd.1 (List.getElem?_eq_getElem hi'), ?_⟩ | fail); all_goals (try conv => whnf))
        exact ⟨_, rfl, rfl⟩
      · obtain ⟨x2, rfl, f2⟩ := hi
        (repeat' ((try conv => whnf); first | (refine And.intro ?sd ?_; case sd => (first | exact rfl | exact ⟨shp_int _, shp_int _⟩ | exact Nat.le_of_ble_eq_true rfl | assumption | exact cmL rfl | exact cmR rfl | exact ⟨by decide +kernel, by decide +kernel⟩ | exact ⟨rfl, rfl⟩ | omega | decide +kernel)) | refine brT (by first | exact rfl | assumption | decide +kernel) ?_ | refine brF (by first | exact rfl | assumption | decide +kernel) ?_ | refine brT (dec_self _) ?_ | refine brF (ndec_self _) ?_ | fail); all_goals (try conv => whnf))
        exact q
  | lst ds =>
    cases n with
    | zero => cases hd
    | succ n =>
      have hd := Bool.and_eq_true_iff.mp (show (ds.all (okD n) && decide (ds.length ≤ 100000)) = true from hd)
      have hl := of_decide_eq_true hd.2
      (repeat' ((try conv => whnf); first | (refine And.intro ?sd ?_; case sd => (first | exact rfl | exact ⟨shp_int _, shp_int _⟩ | exact Nat.le_of_ble_eq_true rfl | assumption | exact cmL rfl | exact cmR rfl | exact ⟨by decide +kernel, by decide +kernel⟩ | exact ⟨rfl, rfl⟩ | omega | decide +kernel)) | refine brT (by first | exact rfl | assumption | decide +kernel) ?_ | refine brF (by first | exact rfl | assumption | decide +kernel) ?_ | refine brT (dec_self _) ?_ | refine brF (ndec_self _) ?_ | refine ⟨_, kit_list_tuple, ?_⟩ | refine ⟨_, kit_list_list, ?_⟩ | refine And.intro (len_sz hl) ?_ | refine And.intro ⟨by decide, by decide, by omega, by omega⟩ ?_ | refine ⟨fun i E => ∃ x2, E = [.fr (.lst ds), .fr (.lst ds), x2] ∧ S.free (some x2) = true, ⟨_, rfl, rfl⟩, fun i d E' hd' hi => ?_, fun E' hi => ?_⟩ | fail); all_goals (try conv => whnf))
      · obtain ⟨hi', rfl⟩ := rng_get hd'
        obtain ⟨x2, rfl, f2⟩ := hi
        have hi' : i < ds.length := by omega
        have ei := atI_n0 (List.getElem?_eq_getElem hi')
        (repeat' ((try conv => whnf); first | (refine And.intro ?sd ?_; case sd => (first | exact rfl | exact ⟨shp_int _, shp_int _⟩ | exact Nat.le_of_ble_eq_true rfl | assumption | exact cmL rfl | exact cmR rfl | exact ⟨by decide +kernel, by decide +kernel⟩ | exact ⟨rfl, rfl⟩ | omega | decide +kernel)) | refine brT (by first | exact rfl | assumption | decide +kernel) ?_ | refine brF (by first | exact rfl | assumption | decide +kernel) ?_ | refine brT (dec_self _) ?_ | refine brF (ndec_self _) ?_ | (rw [ei]) | refine ⟨_, rfl, all_at hd.1 (List.getElem?_eq_getElem hi'), ?_⟩ | fail); all_goals (try conv => whnf))
        exact ⟨_, rfl, rfl⟩
      · obtain ⟨x2, rfl, f2⟩ := hi
        (repeat' ((try conv => whnf); first | (refine And.intro ?sd ?_; case sd => (first | exact rfl | exact ⟨shp_int _, shp_int _⟩ | exact Nat.le_of_ble_eq_true rfl | assumption | exact cmL rfl | exact cmR rfl | exact ⟨by decide +kernel, by decide +kernel⟩ | exact ⟨rfl, rfl⟩ | omega | decide +kernel)) | refine brT (by first | exact rfl | assumption | decide +kernel) ?_ | refine brF (by first | exact rfl | assumption | decide +kernel) ?_ | refine brT (dec_self _) ?_ | refine brF (ndec_self _) ?_ | fail); all_goals (try conv => whnf))
        exact q
  | scr ds => cases n <;> cases hd
  | dic ks ds => cases n <;> cases hd
  | dit ks ds => cases n <;> cases hd
  | kon a => cases n <;> cases hd
  | obj C ns ds => cases n <;> cases hd
theorem stH_l_same (T : Tx K mg) {k : Nat} (hk : 0 ≤ k) {sd0 : SpD} {n : Nat} (hs : sd0 = sdSame n) (G_l_same : L2H.FnH P w K mg base CX0 k T.f_l_same T.fd_l_same ["_law_actual", "_law_due"] (spD K 2 sd0)) : L2H.FnH P w K mg base CX0 (k + 1) T.f_l_same T.fd_l_same ["_law_actual", "_law_due"] (spD K 2 (sdSame (n + 1))) := by
  refine fn_DH (k := k) T.d_l_same.F sc_l_same (fun H0 Fm Z0 vs cdv A outer s H Ex p hr hot =>
    have nd := sc_l_same.nd; have u65 := u65_ofH hr; have u65 := u65_ofH hr; have u70 := u70_ofH hr
    (dss_cons (ds_if (dt_w (dw_or (dt_b (db_e (de_isi (T := "tuple") T.m_isinstance T.m_tuple (db_v 1)))) (dw_or1 (dt_b (db_e (de_isi (T := "list") T.m_isinstance T.m_list (db_v 1))))))) (dss_cons (ds_if (dt_w (dw_or (dt_cmp (o_neA u65) (de_isi (T := "tuple") T.m_isinstance T.m_tuple (db_v 1)) (de_isi (T := "tuple") T.m_isinstance T.m_tuple (db_v 0))) (dw_or1 (dt_cmp (o_neA u65) (de_isi (T := "list") T.m_isinstance T.m_list (db_v 1)) (de_isi (T := "list") T.m_isinstance T.m_list (db_v 0)))))) (dss_one (ds_ret de_bl)) dss_nil)
    (dss_cons (ds_if (dt_cmp (o_neA u65) (de_b1 b_len T.m_len (db_v 0)) (de_b1 b_len T.m_len (db_v 1))) (dss_one (ds_ret de_bl)) dss_nil)
    (dss_cons (ds_forH PassesOwn.never hot (di_range1H rfl T.m_range (de_b1 b_len T.m_len (db_v 1))) (dg_n 2 nd) (dss_one (ds_if (dt_not (dt_b (db_e (dcallH G_l_same T.d_l_same (hr.mono (Nat.le_refl _)) hot (dm_d (de_ixo 0 (de_v 2)) (dm_d (de_ixo 1 (de_v 2)) dm_nil)))))) (dss_one (ds_ret de_bl)) dss_nil)))
    (dss_one (ds_ret de_bl))))) dss_nil)
    (dss_cons (ds_if (dt_cmp (o_neA u65) (de_isi (T := "bool") T.m_isinstance T.m_bool (db_v 1)) (de_isi (T := "bool") T.m_isinstance T.m_bool (db_v 0))) (dss_one (ds_ret de_bl)) dss_nil)
    (dss_cons (ds_if (dt_w (dw_or (dt_cmp (o_neA u65) (de_isi (T := "int") T.m_isinstance T.m_int (db_v 1)) (de_isi (T := "int") T.m_isinstance T.m_int (db_v 0))) (dw_or1 (dt_cmp (o_neA u65) (de_isi (T := "str") T.m_isinstance T.m_str (db_v 1)) (de_isi (T := "str") T.m_isinstance T.m_str (db_v 0)))))) (dss_one (ds_ret de_bl)) dss_nil)
    (dss_one (ds_ret (de_cmp (o_eqA u65) (de_v 0) (de_v 1)))))))) (fun args Qd hl h => ?_)
  subst hs
  obtain ⟨d, rfl, hd, q⟩ := h
  cases d with
  | non =>
    (repeat' ((try conv => whnf); first | (refine And.intro ?sd ?_; case sd => (first | exact rfl | exact ⟨shp_int _, shp_int _⟩ | exact Nat.le_of_ble_eq_true rfl | assumption | exact cmL rfl | exact cmR rfl | exact ⟨by decide +kernel, by decide +kernel⟩ | exact ⟨rfl, rfl⟩ | omega | decide +kernel)) | refine brT (by first | exact rfl | assumption | decide +kernel) ?_ | refine brF (by first | exact rfl | assumption | decide +kernel) ?_ | refine brT (dec_self _) ?_ | refine brF (ndec_self _) ?_ | refine ⟨_, kit_NoneType_tuple, ?_⟩ | refine ⟨_, kit_NoneType_list, ?_⟩ | refine ⟨_, kit_NoneType_bool, ?_⟩ | refine ⟨_, kit_NoneType_int, ?_⟩ | refine ⟨_, kit_NoneType_str, ?_⟩ | fail); all_goals (try conv => whnf))
    exact q
  | bl b =>
    (repeat' ((try conv => whnf); first | (refine And.intro ?sd ?_; case sd => (first | exact rfl | exact ⟨shp_int _, shp_int _⟩ | exact Nat.le_of_ble_eq_true rfl | assumption | exact cmL rfl | exact cmR rfl | exact ⟨by decide +kernel, by decide +kernel⟩ | exact ⟨rfl, rfl⟩ | omega | decide +kernel)) | refine brT (by first | exact rfl | assumption | decide +kernel) ?_ | refine brF (by first | exact rfl | assumption | decide +kernel) ?_ | refine brT (dec_self _) ?_ | refine brF (ndec_self _) ?_ | refine ⟨_, kit_bool_tuple, ?_⟩ | refine ⟨_, kit_bool_list, ?_⟩ | refine ⟨_, kit_bool_bool, ?_⟩ | refine ⟨_, kit_bool_int, ?_⟩ | refine ⟨_, kit_bool_str, ?_⟩ | fail); all_goals (try conv => whnf))
    rw [show decide (b = b) = true from decide_eq_true rfl]
    exact q
  | int z =>
    (repeat' ((try conv => whnf); first | (refine And.intro ?sd ?_; case sd => (first | exact rfl | exact ⟨shp_int _, shp_int _⟩ | exact Nat.le_of_ble_eq_true rfl | assumption | exact cmL rfl | exact cmR rfl | exact ⟨by decide +kernel, by decide +kernel⟩ | exact ⟨rfl, rfl⟩ | omega | decide +kernel)) | refine brT (by first | exact rfl | assumption | decide +kernel) ?_ | refine brF (by first | exact rfl | assumption | decide +kernel) ?_ | refine brT (dec_self _) ?_ | refine brF (ndec_self _) ?_ | refine ⟨_, kit_int_tuple, ?_⟩ | refine ⟨_, kit_int_list, ?_⟩ | refine ⟨_, kit_int_bool, ?_⟩ | refine ⟨_, kit_int_int, ?_⟩ | refine ⟨_, kit_int_str, ?_⟩ | fail); all_goals (try conv => whnf))
    rw [show decide (z = z) = true from decide_eq_true rfl]
    exact q
  | str z =>
    have hs : (D.str z).shp = true := by cases n <;> exact hd
    (repeat' ((try conv => whnf); first | (refine And.intro ?sd ?_; case sd => (first | exact rfl | exact ⟨shp_int _, shp_int _⟩ | exact Nat.le_of_ble_eq_true rfl | assumption | exact cmL rfl | exact cmR rfl | exact ⟨by decide +kernel, by decide +kernel⟩ | exact ⟨rfl, rfl⟩ | omega | decide +kernel)) | refine brT (by first | exact rfl | assumption | decide +kernel) ?_ | refine brF (by first | exact rfl | assumption | decide +kernel) ?_ | refine brT (dec_self _) ?_ | refine brF (ndec_self _) ?_ | refine ⟨_, kit_str_tuple, ?_⟩ | refine ⟨_, kit_str_list, ?_⟩ | refine ⟨_, kit_str_bool, ?_⟩ | refine ⟨_, kit_str_int, ?_⟩ | refine ⟨_, kit_str_str, ?_⟩ | refine And.intro ⟨hs, hs⟩ ?_ | fail); all_goals (try conv => whnf))
    rw [show decide (z = z) = true from decide_eq_true rfl]
    exact q
  | tup ds =>
    cases n with
    | zero => cases hd
    | succ n =>
      have hd := Bool.and_eq_true_iff.mp (show (ds.all (okD n) && decide (ds.length ≤ 100000)) = true from hd)
      have hl := of_decide_eq_true hd.2
      (repeat' ((try conv => whnf); first | (refine And.intro ?sd ?_; case sd => (first | exact rfl | exact ⟨shp_int _, shp_int _⟩ | exact Nat.le_of_ble_eq_true rfl | assumption | exact cmL rfl | exact cmR rfl | exact ⟨by decide +kernel, by decide +kernel⟩ | exact ⟨rfl, rfl⟩ | omega | decide +kernel)) | refine brT (by first | exact rfl | assumption | decide +kernel) ?_ | refine brF (by first | exact rfl | assumption | decide +kernel) ?_ | refine brT (dec_self _) ?_ | refine brF (ndec_self _) ?_ | refine ⟨_, kit_tuple_tuple, ?_⟩ | refine ⟨_, kit_tuple_list, ?_⟩ | refine And.intro (len_sz hl) ?_ | refine And.intro ⟨by decide, by decide, by omega, by omega⟩ ?_ | refine ⟨fun i E => ∃ x2, E = [.fr (.tup ds), .fr (.tup ds), x2] ∧ S.free (some x2) = true, ⟨_, rfl, rfl⟩, fun i d E' hd' hi => ?_, fun E' hi => ?_⟩ | fail); all_goals (try conv => whnf))
      · obtain ⟨hi', rfl⟩ := rng_get hd'
        obtain ⟨x2, rfl, f2⟩ := hi
        have hi' : i < ds.length := by omega
        have ei := atI_n0 (List.getElem?_eq_getElem hi')
        (repeat' ((try conv => whnf); first | (refine And.intro ?sd ?_; case sd => (first | exact rfl | exact ⟨shp_int _, shp_int _⟩ | exact Nat.le_of_ble_eq_true rfl | assumption | exact cmL rfl | exact cmR rfl | exact ⟨by decide +kernel, by decide +kernel⟩ | exact ⟨rfl, rfl⟩ | omega | decide +kernel)) | refine brT (by first | exact rfl | assumption | decide +kernel) ?_ | refine brF (by first | exact rfl | assumption | decide +kernel) ?_ | refine brT (dec_self _) ?_ | refine brF (ndec_self _) ?_ | (rw [ei]) | refine ⟨_, rfl, all_at hd.1 (List.getElem?_eq_getElem hi'), ?_⟩ | fail); all_goals (try conv => whnf))
        exact ⟨_, rfl, rfl⟩
      · obtain ⟨x2, rfl, f2⟩ := hi
        (repeat' ((try conv => whnf); first | (refine And.intro ?sd ?_; case sd => (first | exact rfl | exact ⟨shp_int _, shp_int _⟩ | exact Nat.le_of_ble_eq_true rfl | assumption | exact cmL rfl | exact cmR rfl | exact ⟨by decide +kernel, by decide +kernel⟩ | exact ⟨rfl, rfl⟩ | omega | decide +kernel)) | refine brT (by first | exact rfl | assumption | decide +kernel) ?_ | refine brF (by first | exact rfl | assumption | decide +kernel) ?_ | refine brT (dec_self _) ?_ | refine brF (ndec_self _) ?_ | fail); all_goals (try conv => whnf))
        exact q
  | lst ds =>
    cases n with
    | zero => cases hd
    | succ n =>
      have hd := Bool.and_eq_true_iff.mp (show (ds.all (okD n) && decide (ds.length ≤ 100000)) = true from hd)
      have hl := of_decide_eq_true hd.2
      (repeat' ((try conv => whnf); first | (refine And.intro ?sd ?_; case sd => (first | exact rfl | exact ⟨shp_int _, shp_int _⟩ | exact Nat.le_of_ble_eq_true rfl | assumption | exact cmL rfl | exact cmR rfl | exact ⟨by decide +kernel, by decide +kernel⟩ | exact ⟨rfl, rfl⟩ | omega | decide +kernel)) | refine brT (by first | exact rfl | assumption | decide +kernel) ?_ | refine brF (by first | exact rfl | assumption | decide +kernel) ?_ | refine brT (dec_self _) ?_ | refine brF (ndec_self _) ?_ | refine ⟨_, kit_list_tuple, ?_⟩ | refine ⟨_, kit_list_list, ?_⟩ | refine And.intro (len_sz hl) ?_ | refine And.intro ⟨by decide, by decide, by omega, by omega⟩ ?_ | refine ⟨fun i E => ∃ x2, E = [.fr (.lst ds), .fr (.lst ds), x2] ∧ S.free (some x2) = true, ⟨_, rfl, rfl⟩, fun i d E' hd' hi => ?_, fun E' hi => ?_⟩ | fail); all_goals (try conv => whnf))
      · obtain ⟨hi', rfl⟩ := rng_get hd'
        obtain ⟨x2, rfl, f2⟩ := hi
        have hi' : i < ds.length := by omega
        have ei := atI_n0 (List.getElem?_eq_getElem hi')
        (repeat' ((try conv => whnf); first | (refine And.intro ?sd ?_; case sd => (first | exact rfl | exact ⟨shp_int _, shp_int _⟩ | exact Nat.le_of_ble_eq_true rfl | assumption | exact cmL rfl | exact cmR rfl | exact ⟨by decide +kernel, by decide +kernel⟩ | exact ⟨rfl, rfl⟩ | omega | decide +kernel)) | refine brT (by first | exact rfl | assumption | decide +kernel) ?_ | refine brF (by first | exact rfl | assumption | decide +kernel) ?_ | refine brT (dec_self _) ?_ | refine brF (ndec_self _) ?_ | (rw [ei]) | refine ⟨_, rfl, all_at hd.1 (List.getElem?_eq_getElem hi'), ?_⟩ | fail); all_goals (try conv => whnf))
        exact ⟨_, rfl, rfl⟩
      · obtain ⟨x2, rfl, f2⟩ := hi
        (repeat' ((try conv => whnf); first | (refine And.intro ?sd ?_; case sd => (first | exact rfl | exact ⟨shp_int _, shp_int _⟩ | exact Nat.le_of_ble_eq_true rfl | assumption | exact cmL rfl | exact cmR rfl | exact ⟨by decide +kernel, by decide +kernel⟩ | exact ⟨rfl, rfl⟩ | omega | decide +kernel)) | refine brT (by first | exact rfl | assumption | decide +kernel) ?_ | refine brF (by first | exact rfl | assumption | decide +kernel) ?_ | refine brT (dec_self _) ?_ | refine brF (ndec_self _) ?_ | fail); all_goals (try conv => whnf))
        exact q
  | scr ds => cases n <;> cases hd
  | dic ks ds => cases n <;> cases hd
  | dit ks ds => cases n <;> cases hd
  | kon a => cases n <;> cases hd
  | obj C ns ds => cases n <;> cases hd

abbrev sd_l_same : SpD := sdSame 3
theorem ok_l_same (T : Tx K mg) : FnOk P w K mg base CX0 3 T.f_l_same T.fd_l_same ["_law_actual", "_law_due"] (spD K 2 sd_l_same) :=
  st_l_same T (Nat.zero_le _) (n := 2) rfl (st_l_same T (Nat.zero_le _) (n := 1) rfl (st_l_same T (Nat.zero_le _) (n := 0) rfl (fn_never fun _ _ h => h)))

theorem okH_l_same (T : Tx K mg) : L2H.FnH P w K mg base CX0 4 T.f_l_same T.fd_l_same ["_law_actual", "_law_due"] (spD K 2 sd_l_same) :=
  stH_l_same T (Nat.zero_le _) (n := 2) rfl (stH_l_same T (Nat.zero_le _) (n := 1) rfl (stH_l_same T (Nat.zero_le _) (n := 0) rfl (fn_neverH (k := 0) T.d_l_same.F sc_l_same fun _ _ h => h)))
end K00
set_option Elab.async false
set_option linter.all false
set_option maxRecDepth 100000
set_option maxHeartbeats 4000000
namespace K00
open PySem PySem.Spec PyProof.Rows L2 DL
variable {P : Program} {w : World} {K : Frg} {mg : Str → Option Value} {base : Heap}

theorem atS {x : Str} {j c : Nat} (h : (TL.tl x)[j]? = some c) : atI x.cps.toList (j : Int) = some c := at_nat h
theorem run_drop {al l : List Nat} {j c : Nat} (h : l[j]? = some c) : run al (l.drop j) = if inn al c then run al (l.drop (j + 1)) + 1 else 0 := by
  obtain ⟨hj, e⟩ := List.getElem?_eq_some_iff.mp h
  rw [List.drop_eq_getElem_cons hj, e]
  unfold run
  by_cases hc : inn al c = true
  · rw [List.takeWhile_cons_of_pos hc, if_pos hc, List.length_cons]
  · rw [List.takeWhile_cons_of_neg hc, if_neg hc]; rfl
def sd_behind : SpD := fun args Q => ∃ (x al : Str) (s : Nat), args = [.fr (.str x), .fr (.int (s : Int)), .fr (.str al)] ∧ s ≤ x.length ∧ x.length ≤ 10000 ∧ Q (.fr (.int ((s + run (TL.tl al) ((TL.tl x).drop s) : Nat) : Int))) [.un, .un, .un]
theorem ok_behind (T : Tx K mg) : FnOk P w K mg base CX0 1 T.f_behind T.fd_behind ["line", "start", "allowed"] (spD K 3 sd_behind) := by
  refine fn_D (k := 0) T.d_behind.F sc_behind (fun H0 Fm Z0 vs cdv A outer s H Ex hr =>
    have nd := sc_behind.nd; have u64 := hr.units; have u65 := u65_of hr; have u70 := u70_of hr
    (dss_cons (ds_set 3 nd (de_v 1))
    (dss_cons (ds_while PassesOwn.never (dt_w (dw_and (dt_cmp (o_lt) (de_v 3) (de_b1 b_len T.m_len (db_v 0))) (dw_and1 (dt_cmp o_inC (de_ixo 0 (de_v 3)) (de_v 2))))) (dss_one (ds_aug 3 nd i_add de_int)))
    (dss_one (ds_ret (de_v 3)))))) (fun args Qd hl h => ?_)
  obtain ⟨x, al, s, rfl, hs, hx, q⟩ := h
  have hl := TL.len_tl x
  (repeat' ((try conv => whnf); first | (refine And.intro ?sd ?_; case sd => (first | exact rfl | exact ⟨shp_int _, shp_int _⟩ | exact Nat.le_of_ble_eq_true rfl | assumption | exact cmL rfl | exact cmR rfl | exact ⟨by decide +kernel, by decide +kernel⟩ | exact ⟨rfl, rfl⟩ | omega | decide +kernel)) | refine brT (by first | exact rfl | assumption | decide +kernel) ?_ | refine brF (by first | exact rfl | assumption | decide +kernel) ?_ | refine brT (dec_self _) ?_ | refine brF (ndec_self _) ?_ | refine ⟨fun m E => ∃ j : Nat, m = x.length - j ∧ j ≤ x.length ∧ s ≤ j ∧ j + run (TL.tl al) ((TL.tl x).drop j) = s + run (TL.tl al) ((TL.tl x).drop s) ∧ E = [.fr (.str x), .fr (.int (s : Int)), .fr (.str al), .fr (.int (j : Int))], ⟨_, s, rfl, hs, Nat.le_refl _, rfl, rfl⟩, fun m E hm => ?_⟩ | fail); all_goals (try conv => whnf))
  
  obtain ⟨j, rfl, hj, hsj, hr, rfl⟩ := hm
  (repeat' ((try conv => whnf); first | (refine And.intro ?sd ?_; case sd => (first | exact rfl | exact ⟨shp_int _, shp_int _⟩ | exact Nat.le_of_ble_eq_true rfl | assumption | exact cmL rfl | exact cmR rfl | exact ⟨by decide +kernel, by decide +kernel⟩ | exact ⟨rfl, rfl⟩ | omega | decide +kernel)) | refine brT (by first | exact rfl | assumption | decide +kernel) ?_ | refine brF (by first | exact rfl | assumption | decide +kernel) ?_ | refine brT (dec_self _) ?_ | refine brF (ndec_self _) ?_ | refine And.intro (len_sz (by omega)) ?_ | fail); all_goals (try conv => whnf))
  
  refine br (fun h => ?_) (fun h => ?_)
  · have hjl : j < x.length := by have := of_decide_eq_true h; omega
    obtain ⟨c, hc⟩ : ∃ c, (TL.tl x)[j]? = some c := ⟨_, List.getElem?_eq_getElem (by omega)⟩
    have hrd := run_drop (al := TL.tl al) hc
    (repeat' ((try conv => whnf); first | (refine And.intro ?sd ?_; case sd => (first | exact rfl | exact ⟨shp_int _, shp_int _⟩ | exact Nat.le_of_ble_eq_true rfl | assumption | exact cmL rfl | exact cmR rfl | exact ⟨by decide +kernel, by decide +kernel⟩ | exact ⟨rfl, rfl⟩ | omega | decide +kernel)) | refine brT (by first | exact rfl | assumption | decide +kernel) ?_ | refine brF (by first | exact rfl | assumption | decide +kernel) ?_ | refine brT (dec_self _) ?_ | refine brF (ndec_self _) ?_ | refine And.intro (len_sz (by omega)) ?_ | (rw [atS hc]) | fail); all_goals (try conv => whnf))
    refine br (fun h2 => ?_) (fun h2 => ?_)
    · (repeat' ((try conv => whnf); first | (refine And.intro ?sd ?_; case sd => (first | exact rfl | exact ⟨shp_int _, shp_int _⟩ | exact Nat.le_of_ble_eq_true rfl | assumption | exact cmL rfl | exact cmR rfl | exact ⟨by decide +kernel, by decide +kernel⟩ | exact ⟨rfl, rfl⟩ | omega | decide +kernel)) | refine brT (by first | exact rfl | assumption | decide +kernel) ?_ | refine brF (by first | exact rfl | assumption | decide +kernel) ?_ | refine brT (dec_self _) ?_ | refine brF (ndec_self _) ?_ | refine And.intro (len_sz (by omega)) ?_ | fail); all_goals (try conv => whnf))
      rw [if_pos (show inn (TL.tl al) c = true from h2)] at hrd
      exact ⟨_, by omega, j + 1, rfl, by omega, by omega, by omega, rfl⟩
    · (repeat' ((try conv => whnf); first | (refine And.intro ?sd ?_; case sd => (first | exact rfl | exact ⟨shp_int _, shp_int _⟩ | exact Nat.le_of_ble_eq_true rfl | assumption | exact cmL rfl | exact cmR rfl | exact ⟨by decide +kernel, by decide +kernel⟩ | exact ⟨rfl, rfl⟩ | omega | decide +kernel)) | refine brT (by first | exact rfl | assumption | decide +kernel) ?_ | refine brF (by first | exact rfl | assumption | decide +kernel) ?_ | refine brT (dec_self _) ?_ | refine brF (ndec_self _) ?_ | fail); all_goals (try conv => whnf))
      rw [if_neg (by unfold inn; rw [show decide (c ∈ TL.tl al) = false from h2]; decide)] at hrd
      rw [show j = s + run (TL.tl al) ((TL.tl x).drop s) by omega]
      exact q
  · have hjl : j = x.length := by have := of_decide_eq_false h; omega
    (repeat' ((try conv => whnf); first | (refine And.intro ?sd ?_; case sd => (first | exact rfl | exact ⟨shp_int _, shp_int _⟩ | exact Nat.le_of_ble_eq_true rfl | assumption | exact cmL rfl | exact cmR rfl | exact ⟨by decide +kernel, by decide +kernel⟩ | exact ⟨rfl, rfl⟩ | omega | decide +kernel)) | refine brT (by first | exact rfl | assumption | decide +kernel) ?_ | refine brF (by first | exact rfl | assumption | decide +kernel) ?_ | refine brT (dec_self _) ?_ | refine brF (ndec_self _) ?_ | fail); all_goals (try conv => whnf))
    have : run (TL.tl al) ((TL.tl x).drop j) = 0 := by rw [List.drop_eq_nil_of_le (by omega)]; rfl
    rw [show j = s + run (TL.tl al) ((TL.tl x).drop s) by omega]
    exact q

def kdD : Option Kd → D
  | none => .non
  | some k => .str k.s
def sd_token_end : SpD := fun args Q => ∃ (x : Str) (s : Nat), args = [.fr (.str x), .fr (.int (s : Int))] ∧ s < x.length ∧ x.length ≤ 10000 ∧ asc x ∧ Q (.fr (.tup [kdD (tend ((TL.tl x).drop s)).1, .int ((s + (tend ((TL.tl x).drop s)).2 : Nat) : Int)])) [.un, .un]
theorem cut_two {x : Str} {s : Nat} (h : s < x.length) : TL.tl (cutS x (some (s : Int)) (some ((s : Int) + 2))) = ((TL.tl x).drop s).take 2 := by
  have := tl_cut2 (x := x) (s := s) (e := s + 2) (by omega)
  rw [show s + 2 - s = 2 by omega] at this
  exact this
theorem long_eq (l : List Nat) : long l = (decide (l.take 2 = [60, 61]) || decide (l.take 2 = [62, 61])) := by
  unfold long
  split
  · rename_i r; simp
  · rename_i r; simp
  · rename_i h1 h2
    have a : decide (l.take 2 = [60, 61]) = false := decide_eq_false fun e => by
      match l, e with
      | [], e => cases e
      | [a], e => cases e
      | a :: b :: r, e => cases e; exact h1 r rfl
    have b : decide (l.take 2 = [62, 61]) = false := decide_eq_false fun e => by
      match l, e with
      | [], e => cases e
      | [a], e => cases e
      | a :: b :: r, e => cases e; exact h2 r rfl
    rw [a, b]; rfl
theorem str_tl {x y : Str} : x = y ↔ TL.tl x = TL.tl y := ⟨fun h => h ▸ rfl, TL.ext_tl⟩
theorem long_in (z : Str) : ([("<=" : Str), ">="].map D.str).any (fun d => D.eqv d (.str z)) = (decide (TL.tl z = [60, 61]) || decide (TL.tl z = [62, 61])) := by
  show (D.eqv (.str "<=") (.str z) || (D.eqv (.str ">=") (.str z) || false)) = _
  rw [eqv_str, eqv_str, Bool.or_false]
  congr 1
  · refine decide_eq_decide.mpr ?_
    rw [str_tl]
    exact ⟨fun h => h.symm.trans (by decide +kernel), fun h => (show TL.tl "<=" = [60, 61] by decide +kernel).trans h.symm⟩
  · refine decide_eq_decide.mpr ?_
    rw [str_tl]
    exact ⟨fun h => h.symm.trans (by decide +kernel), fun h => (show TL.tl ">=" = [62, 61] by decide +kernel).trans h.symm⟩
theorem longs_shp : (D.tup ([("<=" : Str), ">="].map D.str)).shp = true := by decide +kernel
theorem ok_token_end (T : Tx K mg) : FnOk P w K mg base CX0 2 T.f_token_end T.fd_token_end ["line", "start"] (spD K 2 sd_token_end) := by
  have G_behind := ok_behind (P := P) (w := w) (base := base) T
  refine fn_D (k := 1) T.d_token_end.F sc_token_end (fun H0 Fm Z0 vs cdv A outer s H Ex hr =>
    have nd := sc_token_end.nd; have u64 := hr.units; have u65 := u65_of hr; have u70 := u70_of hr
    (dss_cons (ds_if (dt_cmp o_inC (de_ixo 0 (de_v 1)) (de_cstR T.v_LETTERS)) (dss_one (ds_ret (de_tup (da_cons de_str (da_cons (dcall G_behind T.d_behind (hr.mono (by decide)) (dm_d (de_v 0) (dm_d (de_v 1) (dm_d (de_cstR T.v_LETTERS) dm_nil)))) da_nil))))) dss_nil)
    (dss_cons (ds_if (dt_cmp o_inC (de_ixo 0 (de_v 1)) (de_cstR T.v_DIGITS)) (dss_one (ds_ret (de_tup (da_cons de_str (da_cons (dcall G_behind T.d_behind (hr.mono (by decide)) (dm_d (de_v 0) (dm_d (de_v 1) (dm_d (de_cstR T.v_DIGITS) dm_nil)))) da_nil))))) dss_nil)
    (dss_cons (ds_if (dt_in u65 (de_slS (de_v 0) (do_s (de_v 1)) (do_s (de_op o_add (de_v 1) de_int))) (db_e (de_cstR T.v_LONG_SIGNS))) (dss_one (ds_ret (de_tup (da_cons de_str (da_cons (de_op o_add (de_v 1) de_int) da_nil))))) dss_nil)
    (dss_cons (ds_if (dt_cmp o_inC (de_ixo 0 (de_v 1)) (de_cstR T.v_SHORT_SIGNS)) (dss_one (ds_ret (de_tup (da_cons de_str (da_cons (de_op o_add (de_v 1) de_int) da_nil))))) dss_nil)
    (dss_one (ds_ret (de_tup (da_cons de_non (da_cons (de_op o_add (de_v 1) de_int) da_nil)))))))))) (fun args Qd hl h => ?_)
  obtain ⟨x, s, rfl, hs, hx, ha, q⟩ := h
  have hl := TL.len_tl x
  obtain ⟨c, hc⟩ : ∃ c, (TL.tl x)[s]? = some c := ⟨_, List.getElem?_eq_getElem (by omega)⟩
  have hd : (TL.tl x).drop s = c :: (TL.tl x).drop (s + 1) := by
    obtain ⟨hj, e⟩ := List.getElem?_eq_some_iff.mp hc
    rw [List.drop_eq_getElem_cons hj, e]
  have h2 := cut_two hs
  have hsh : (D.str (cutS x (some (s : Int)) (some ((s : Int) + 2)))).shp = true := asc_shp (asc_cut ha _ _) (Nat.le_trans (cut_len _ _ _) hx)
  have e2 := long_in (cutS x (some (s : Int)) (some ((s : Int) + 2)))
  rw [h2, ← long_eq] at e2
  have ht : tend ((TL.tl x).drop s) = if inn abc c then (some .word, run abc ((TL.tl x).drop s)) else if inn dig c then (some .number, run dig ((TL.tl x).drop s)) else if long ((TL.tl x).drop s) then (some .sign, 2) else if inn sgs c then (some .sign, 1) else (none, 1) := by rw [hd]; rfl
  (repeat' ((try conv => whnf); first | (refine And.intro ?sd ?_; case sd => (first | exact rfl | exact ⟨shp_int _, shp_int _⟩ | exact Nat.le_of_ble_eq_true rfl | assumption | exact cmL rfl | exact cmR rfl | exact ⟨by decide +kernel, by decide +kernel⟩ | exact ⟨rfl, rfl⟩ | omega | decide +kernel)) | refine brT (by first | exact rfl | assumption | decide +kernel) ?_ | refine brF (by first | exact rfl | assumption | decide +kernel) ?_ | refine brT (dec_self _) ?_ | refine brF (ndec_self _) ?_ | refine And.intro (len_sz (by omega)) ?_ | (rw [atS hc]) | fail); all_goals (try conv => whnf))
  
  refine br (fun hA => ?_) (fun hA => ?_)
  · rw [if_pos (show inn abc c = true from hA)] at ht
    rw [ht] at q
    (repeat' ((try conv => whnf); first | (refine And.intro ?sd ?_; case sd => (first | exact rfl | exact ⟨shp_int _, shp_int _⟩ | exact Nat.le_of_ble_eq_true rfl | assumption | exact cmL rfl | exact cmR rfl | exact ⟨by decide +kernel, by decide +kernel⟩ | exact ⟨rfl, rfl⟩ | omega | decide +kernel)) | refine brT (by first | exact rfl | assumption | decide +kernel) ?_ | refine brF (by first | exact rfl | assumption | decide +kernel) ?_ | refine brT (dec_self _) ?_ | refine brF (ndec_self _) ?_ | refine ⟨x, _, s, rfl, by omega, hx, ?_⟩ | fail); all_goals (try conv => whnf))
    exact q
  · rw [if_neg (by rw [show inn abc c = false from hA]; decide)] at ht
    (repeat' ((try conv => whnf); first | (refine And.intro ?sd ?_; case sd => (first | exact rfl | exact ⟨shp_int _, shp_int _⟩ | exact Nat.le_of_ble_eq_true rfl | assumption | exact cmL rfl | exact cmR rfl | exact ⟨by decide +kernel, by decide +kernel⟩ | exact ⟨rfl, rfl⟩ | omega | decide +kernel)) | refine brT (by first | exact rfl | assumption | decide +kernel) ?_ | refine brF (by first | exact rfl | assumption | decide +kernel) ?_ | refine brT (dec_self _) ?_ | refine brF (ndec_self _) ?_ | refine And.intro (len_sz (by omega)) ?_ | (rw [atS hc]) | fail); all_goals (try conv => whnf))
    refine br (fun hB => ?_) (fun hB => ?_)
    · rw [if_pos (show inn dig c = true from hB)] at ht
      rw [ht] at q
      (repeat' ((try conv => whnf); first | (refine And.intro ?sd ?_; case sd => (first | exact rfl | exact ⟨shp_int _, shp_int _⟩ | exact Nat.le_of_ble_eq_true rfl | assumption | exact cmL rfl | exact cmR rfl | exact ⟨by decide +kernel, by decide +kernel⟩ | exact ⟨rfl, rfl⟩ | omega | decide +kernel)) | refine brT (by first | exact rfl | assumption | decide +kernel) ?_ | refine brF (by first | exact rfl | assumption | decide +kernel) ?_ | refine brT (dec_self _) ?_ | refine brF (ndec_self _) ?_ | refine ⟨x, _, s, rfl, by omega, hx, ?_⟩ | fail); all_goals (try conv => whnf))
      exact q
    · rw [if_neg (by rw [show inn dig c = false from hB]; decide)] at ht
      (repeat' ((try conv => whnf); first | (refine And.intro ?sd ?_; case sd => (first | exact rfl | exact ⟨shp_int _, shp_int _⟩ | exact Nat.le_of_ble_eq_true rfl | assumption | exact cmL rfl | exact cmR rfl | exact ⟨by decide +kernel, by decide +kernel⟩ | exact ⟨rfl, rfl⟩ | omega | decide +kernel)) | refine brT (by first | exact rfl | assumption | decide +kernel) ?_ | refine brF (by first | exact rfl | assumption | decide +kernel) ?_ | refine brT (dec_self _) ?_ | refine brF (ndec_self _) ?_ | refine And.intro (len_sz (by omega)) ?_ | refine And.intro ⟨hsh, longs_shp⟩ ?_ | fail); all_goals (try conv => whnf))
      refine br (fun hC => ?_) (fun hC => ?_)
      · rw [if_pos (by rw [← e2]; exact hC)] at ht
        rw [ht] at q
        (repeat' ((try conv => whnf); first | (refine And.intro ?sd ?_; case sd => (first | exact rfl | exact ⟨shp_int _, shp_int _⟩ | exact Nat.le_of_ble_eq_true rfl | assumption | exact cmL rfl | exact cmR rfl | exact ⟨by decide +kernel, by decide +kernel⟩ | exact ⟨rfl, rfl⟩ | omega | decide +kernel)) | refine brT (by first | exact rfl | assumption | decide +kernel) ?_ | refine brF (by first | exact rfl | assumption | decide +kernel) ?_ | refine brT (dec_self _) ?_ | refine brF (ndec_self _) ?_ | fail); all_goals (try conv => whnf))
        exact q
      · rw [if_neg (by rw [← e2, show _ = false from hC]; decide)] at ht
        (repeat' ((try conv => whnf); first | (refine And.intro ?sd ?_; case sd => (first | exact rfl | exact ⟨shp_int _, shp_int _⟩ | exact Nat.le_of_ble_eq_true rfl | assumption | exact cmL rfl | exact cmR rfl | exact ⟨by decide +kernel, by decide +kernel⟩ | exact ⟨rfl, rfl⟩ | omega | decide +kernel)) | refine brT (by first | exact rfl | assumption | decide +kernel) ?_ | refine brF (by first | exact rfl | assumption | decide +kernel) ?_ | refine brT (dec_self _) ?_ | refine brF (ndec_self _) ?_ | refine And.intro (len_sz (by omega)) ?_ | (rw [atS hc]) | fail); all_goals (try conv => whnf))
        refine br (fun hD => ?_) (fun hD => ?_)
        · rw [if_pos (show inn sgs c = true from hD)] at ht
          rw [ht] at q
          (repeat' ((try conv => whnf); first | (refine And.intro ?sd ?_; case sd => (first | exact rfl | exact ⟨shp_int _, shp_int _⟩ | exact Nat.le_of_ble_eq_true rfl | assumption | exact cmL rfl | exact cmR rfl | exact ⟨by decide +kernel, by decide +kernel⟩ | exact ⟨rfl, rfl⟩ | omega | decide +kernel)) | refine brT (by first | exact rfl | assumption | decide +kernel) ?_ | refine brF (by first | exact rfl | assumption | decide +kernel) ?_ | refine brT (dec_self _) ?_ | refine brF (ndec_self _) ?_ | fail); all_goals (try conv => whnf))
          exact q
        · rw [if_neg (by rw [show inn sgs c = false from hD]; decide)] at ht
          rw [ht] at q
          (repeat' ((try conv => whnf); first | (refine And.intro ?sd ?_; case sd => (first | exact rfl | exact ⟨shp_int _, shp_int _⟩ | exact Nat.le_of_ble_eq_true rfl | assumption | exact cmL rfl | exact cmR rfl | exact ⟨by decide +kernel, by decide +kernel⟩ | exact ⟨rfl, rfl⟩ | omega | decide +kernel)) | refine brT (by first | exact rfl | assumption | decide +kernel) ?_ | refine brF (by first | exact rfl | assumption | decide +kernel) ?_ | refine brT (dec_self _) ?_ | refine brF (ndec_self _) ?_ | fail); all_goals (try conv => whnf))
          exact q
end K00
set_option Elab.async false
set_option linter.all false
set_option maxRecDepth 100000
set_option maxHeartbeats 4000000
namespace K00
open PySem PySem.Spec PyProof.Rows L2 DL
variable {P : Program} {w : World} {K : Frg} {mg : Str → Option Value} {base : Heap}

def bad (T : Tx K mg) (n c : Int) (rs : Str) : EX := ⟨T.x_TextError, ["reason", "column", "line"], [.str rs, .int c, .int n]⟩
def sd_check_token (T : Tx K mg) : SpX := fun args Qd Wd => ∃ (k : Kd) (z : Str) (n c : Int), args = [.fr (.str k.s), .fr (.str z), .fr (.int n), .fr (.int c)] ∧ z.length ≤ 10000 ∧ asc z ∧ TL.tl z ≠ [] ∧ (k = .number → (TL.tl z).all (inn dig) = true) ∧
  (tk k (TL.tl z) = true → Qd (.fr .non) [.un, .un, .un, .un]) ∧ (tk k (TL.tl z) = false → Wd (bad T n c k.s) [.un, .un, .un, .un])
theorem sign_shp {c : Nat} (h : c < 128) : (D.str ⟨#[c]⟩).shp = true := asc_shp (fun d hd => by
  have : d ∈ [c] := hd
  rw [List.mem_singleton] at this; omega) (by show 1 ≤ 10000; decide)
theorem sign_eq (c d : Nat) : decide ((⟨#[c]⟩ : Str) = ⟨#[d]⟩) = decide (c = d) := by
  refine decide_eq_decide.mpr ⟨fun h => ?_, fun h => h ▸ rfl⟩
  have : [c] = [d] := congrArg TL.tl h
  exact (List.cons.inj this).1
theorem zero_str : ("0" : Str) = ⟨#[48]⟩ := by decide +kernel
theorem sp_str : (" " : Str) = ⟨#[32]⟩ := by decide +kernel
theorem zero_eq (c : Nat) : decide ((⟨#[c]⟩ : Str) = "0") = decide (c = 48) := by rw [zero_str, sign_eq]
theorem sp_eq (c : Nat) : decide ((⟨#[c]⟩ : Str) = " ") = decide (c = 32) := by rw [sp_str, sign_eq]
theorem asc_at {x : Str} (h : asc x) {j c : Nat} (hc : (TL.tl x)[j]? = some c) : c < 128 := h c (List.mem_of_getElem? hc)
theorem dig_all {l : List Nat} (h : l.all (inn dig) = true) : NumText.AllDigits l := fun c hc => (in_dig c).mp (List.all_eq_true.mp h c hc)
theorem ok_check_token (T : Tx K mg) : FnOk P w K mg base (L2N.CX P w) 3 T.f_check_token T.fd_check_token ["kind", "text", "number", "column"] (spX K 4 (sd_check_token T)) := by
  refine fn_DXN (k := 2) T.d_check_token.F sc_check_token (fun H0 Fm Z0 vs cdv A outer s H Ex Wd hr tk hp =>
    have nd := sc_check_token.nd; have u64 := hr.units; have u65 := u65_of hr; have u70 := u70_of hr
    (dss_cons (ds_if (dt_w (dw_and (dt_cmp (o_eqA u65) (de_v 0) de_str) (dw_and1 (dt_cmp (o_gt) (de_b1 b_len T.m_len (db_v 1)) (de_cstR T.v_MOST_LETTERS))))) (dss_one (ds_raise3N T.c_TextError tk (hr.mono (by decide)) (da_cons (de_v 2) (da_cons (de_v 3) (da_cons de_str da_nil))))) dss_nil)
    (dss_one (ds_if (dt_cmp (o_eqA u65) (de_v 0) de_str) (dss_cons (ds_set 4 nd (de_and (de_cmp (o_gt) (de_b1 b_len T.m_len (db_v 1)) de_int) (de_one (de_cmp (o_eqA u65) (de_ixo 1 de_int) de_str))))
    (dss_one (ds_if (dt_w (dw_or (dt_b (db_v 4)) (dw_or (dt_cmp (o_gt) (de_b1 b_len T.m_len (db_v 1)) (de_cstR T.v_MOST_DIGITS)) (dw_or1 (dt_cmp (o_gt) (de_t1 b_intT T.m_int (db_v 1)) (de_cstR T.v_GREATEST)))))) (dss_one (ds_raise3N T.c_TextError tk (hr.mono (by decide)) (da_cons (de_v 2) (da_cons (de_v 3) (da_cons de_str da_nil))))) dss_nil))) dss_nil)))) (fun args Qd Wd hl h => ?_)
  obtain ⟨k, z, n, c, rfl, hz, ha, hne, hg, q, qx⟩ := h
  have hl := TL.len_tl z
  cases k with
  | word =>
    (repeat' ((try conv => whnf); first | (refine And.intro ?sd ?_; case sd => (first | exact rfl | exact ⟨shp_int _, shp_int _⟩ | exact Nat.le_of_ble_eq_true rfl | assumption | exact cmL rfl | exact cmR rfl | exact ⟨by decide +kernel, by decide +kernel⟩ | exact ⟨rfl, rfl⟩ | omega | decide +kernel)) | refine brT (by first | exact rfl | assumption | decide +kernel) ?_ | refine brF (by first | exact rfl | assumption | decide +kernel) ?_ | refine brT (dec_self _) ?_ | refine brF (ndec_self _) ?_ | refine And.intro (len_sz (by omega)) ?_ | fail); all_goals (try conv => whnf))
    refine br (fun h => ?_) (fun h => ?_)
    · have h := of_decide_eq_true h
      (repeat' ((try conv => whnf); first | (refine And.intro ?sd ?_; case sd => (first | exact rfl | exact ⟨shp_int _, shp_int _⟩ | exact Nat.le_of_ble_eq_true rfl | assumption | exact cmL rfl | exact cmR rfl | exact ⟨by decide +kernel, by decide +kernel⟩ | exact ⟨rfl, rfl⟩ | omega | decide +kernel)) | refine brT (by first | exact rfl | assumption | decide +kernel) ?_ | refine brF (by first | exact rfl | assumption | decide +kernel) ?_ | refine brT (dec_self _) ?_ | refine brF (ndec_self _) ?_ | fail); all_goals (try conv => whnf))
      exact qx (decide_eq_false (by omega))
    · have h := of_decide_eq_false h
      (repeat' ((try conv => whnf); first | (refine And.intro ?sd ?_; case sd => (first | exact rfl | exact ⟨shp_int _, shp_int _⟩ | exact Nat.le_of_ble_eq_true rfl | assumption | exact cmL rfl | exact cmR rfl | exact ⟨by decide +kernel, by decide +kernel⟩ | exact ⟨rfl, rfl⟩ | omega | decide +kernel)) | refine brT (by first | exact rfl | assumption | decide +kernel) ?_ | refine brF (by first | exact rfl | assumption | decide +kernel) ?_ | refine brT (dec_self _) ?_ | refine brF (ndec_self _) ?_ | fail); all_goals (try conv => whnf))
      exact q (decide_eq_true (by omega))
  | sign =>
    (repeat' ((try conv => whnf); first | (refine And.intro ?sd ?_; case sd => (first | exact rfl | exact ⟨shp_int _, shp_int _⟩ | exact Nat.le_of_ble_eq_true rfl | assumption | exact cmL rfl | exact cmR rfl | exact ⟨by decide +kernel, by decide +kernel⟩ | exact ⟨rfl, rfl⟩ | omega | decide +kernel)) | refine brT (by first | exact rfl | assumption | decide +kernel) ?_ | refine brF (by first | exact rfl | assumption | decide +kernel) ?_ | refine brT (dec_self _) ?_ | refine brF (ndec_self _) ?_ | refine And.intro (len_sz (by omega)) ?_ | fail); all_goals (try conv => whnf))
    exact q rfl
  | number =>
    obtain ⟨d, hd⟩ : ∃ d, (TL.tl z)[0]? = some d := ⟨_, List.getElem?_eq_getElem (by have := List.length_pos_iff.mpr hne; omega)⟩
    have hd2 : (TL.tl z).head? = some d := by rw [← hd]; exact List.head?_eq_getElem?
    have hds := sign_shp (asc_at ha hd)
    (repeat' ((try conv => whnf); first | (refine And.intro ?sd ?_; case sd => (first | exact rfl | exact ⟨shp_int _, shp_int _⟩ | exact Nat.le_of_ble_eq_true rfl | assumption | exact cmL rfl | exact cmR rfl | exact ⟨by decide +kernel, by decide +kernel⟩ | exact ⟨rfl, rfl⟩ | omega | decide +kernel)) | refine brT (by first | exact rfl | assumption | decide +kernel) ?_ | refine brF (by first | exact rfl | assumption | decide +kernel) ?_ | refine brT (dec_self _) ?_ | refine brF (ndec_self _) ?_ | refine And.intro (len_sz (by omega)) ?_ | fail); all_goals (try conv => whnf))
    refine br (fun hA => ?_) (fun hA => ?_)
    · have hA := of_decide_eq_true hA
      (repeat' ((try conv => whnf); first | (refine And.intro ?sd ?_; case sd => (first | exact rfl | exact ⟨shp_int _, shp_int _⟩ | exact Nat.le_of_ble_eq_true rfl | assumption | exact cmL rfl | exact cmR rfl | exact ⟨by decide +kernel, by decide +kernel⟩ | exact ⟨rfl, rfl⟩ | omega | decide +kernel)) | refine brT (by first | exact rfl | assumption | decide +kernel) ?_ | refine brF (by first | exact rfl | assumption | decide +kernel) ?_ | refine brT (dec_self _) ?_ | refine brF (ndec_self _) ?_ | refine And.intro (len_sz (by omega)) ?_ | (rw [show atI z.cps.toList 0 = some d from atS hd]) | refine And.intro ⟨hds, by decide +kernel⟩ ?_ | fail); all_goals (try conv => whnf))
      refine br (fun hZ => ?_) (fun hZ => ?_)
      · (repeat' ((try conv => whnf); first | (refine And.intro ?sd ?_; case sd => (first | exact rfl | exact ⟨shp_int _, shp_int _⟩ | exact Nat.le_of_ble_eq_true rfl | assumption | exact cmL rfl | exact cmR rfl | exact ⟨by decide +kernel, by decide +kernel⟩ | exact ⟨rfl, rfl⟩ | omega | decide +kernel)) | refine brT (by first | exact rfl | assumption | decide +kernel) ?_ | refine brF (by first | exact rfl | assumption | decide +kernel) ?_ | refine brT (dec_self _) ?_ | refine brF (ndec_self _) ?_ | fail); all_goals (try conv => whnf))
        rw [zero_eq] at hZ
        have := of_decide_eq_true hZ
        subst this
        exact qx (by unfold tk; rw [hd2, show decide (1 < (TL.tl z).length) = true from decide_eq_true (by omega)]; rfl)
      · rw [zero_eq] at hZ
        have hz0 : (!(decide (1 < (TL.tl z).length) && ((TL.tl z).head? == some 48))) = true := by
          rw [hd2]
          have := of_decide_eq_false hZ
          have e : ((some d : Option Nat) == some 48) = false := by simpa using this
          rw [e, Bool.and_false]; rfl
        (repeat' ((try conv => whnf); first | (refine And.intro ?sd ?_; case sd => (first | exact rfl | exact ⟨shp_int _, shp_int _⟩ | exact Nat.le_of_ble_eq_true rfl | assumption | exact cmL rfl | exact cmR rfl | exact ⟨by decide +kernel, by decide +kernel⟩ | exact ⟨rfl, rfl⟩ | omega | decide +kernel)) | refine brT (by first | exact rfl | assumption | decide +kernel) ?_ | refine brF (by first | exact rfl | assumption | decide +kernel) ?_ | refine brT (dec_self _) ?_ | refine brF (ndec_self _) ?_ | refine And.intro (len_sz (by omega)) ?_ | fail); all_goals (try conv => whnf))
        
        refine br (fun hB => ?_) (fun hB => ?_)
        · have hB := of_decide_eq_true hB
          (repeat' ((try conv => whnf); first | (refine And.intro ?sd ?_; case sd => (first | exact rfl | exact ⟨shp_int _, shp_int _⟩ | exact Nat.le_of_ble_eq_true rfl | assumption | exact cmL rfl | exact cmR rfl | exact ⟨by decide +kernel, by decide +kernel⟩ | exact ⟨rfl, rfl⟩ | omega | decide +kernel)) | refine brT (by first | exact rfl | assumption | decide +kernel) ?_ | refine brF (by first | exact rfl | assumption | decide +kernel) ?_ | refine brT (dec_self _) ?_ | refine brF (ndec_self _) ?_ | fail); all_goals (try conv => whnf))
          exact qx (by unfold tk; rw [show decide ((TL.tl z).length ≤ 10) = false from decide_eq_false (by omega)]; simp)
        · have hB := of_decide_eq_false hB
          have hi := intText_digits (x := z) (dig_all (hg rfl)) hne (by omega)
          (repeat' ((try conv => whnf); first | (refine And.intro ?sd ?_; case sd => (first | exact rfl | exact ⟨shp_int _, shp_int _⟩ | exact Nat.le_of_ble_eq_true rfl | assumption | exact cmL rfl | exact cmR rfl | exact ⟨by decide +kernel, by decide +kernel⟩ | exact ⟨rfl, rfl⟩ | omega | decide +kernel)) | refine brT (by first | exact rfl | assumption | decide +kernel) ?_ | refine brF (by first | exact rfl | assumption | decide +kernel) ?_ | refine brT (dec_self _) ?_ | refine brF (ndec_self _) ?_ | refine And.intro (show z.length ≤ 640 by omega) ?_ | (rw [hi]) | fail); all_goals (try conv => whnf))
          refine br (fun hC => ?_) (fun hC => ?_)
          · have hC := of_decide_eq_true hC
            (repeat' ((try conv => whnf); first | (refine And.intro ?sd ?_; case sd => (first | exact rfl | exact ⟨shp_int _, shp_int _⟩ | exact Nat.le_of_ble_eq_true rfl | assumption | exact cmL rfl | exact cmR rfl | exact ⟨by decide +kernel, by decide +kernel⟩ | exact ⟨rfl, rfl⟩ | omega | decide +kernel)) | refine brT (by first | exact rfl | assumption | decide +kernel) ?_ | refine brF (by first | exact rfl | assumption | decide +kernel) ?_ | refine brT (dec_self _) ?_ | refine brF (ndec_self _) ?_ | fail); all_goals (try conv => whnf))
            exact qx (by unfold tk; rw [show decide (NumText.digitsVal (TL.tl z) ≤ 1000000000) = false from decide_eq_false (by unfold TL.tl; omega)]; simp)
          · have hC := of_decide_eq_false hC
            (repeat' ((try conv => whnf); first | (refine And.intro ?sd ?_; case sd => (first | exact rfl | exact ⟨shp_int _, shp_int _⟩ | exact Nat.le_of_ble_eq_true rfl | assumption | exact cmL rfl | exact cmR rfl | exact ⟨by decide +kernel, by decide +kernel⟩ | exact ⟨rfl, rfl⟩ | omega | decide +kernel)) | refine brT (by first | exact rfl | assumption | decide +kernel) ?_ | refine brF (by first | exact rfl | assumption | decide +kernel) ?_ | refine brT (dec_self _) ?_ | refine brF (ndec_self _) ?_ | fail); all_goals (try conv => whnf))
            refine q ?_
            unfold tk
            rw [show decide (NumText.digitsVal (TL.tl z) ≤ 1000000000) = true from decide_eq_true (by unfold TL.tl; omega), show decide ((TL.tl z).length ≤ 10) = true from decide_eq_true (by omega), hz0]
            rfl
    · have hA := of_decide_eq_false hA
      have hz0 : (!(decide (1 < (TL.tl z).length) && ((TL.tl z).head? == some 48))) = true := by
        rw [show decide (1 < (TL.tl z).length) = false from decide_eq_false (by omega)]; rfl
      (repeat' ((try conv => whnf); first | (refine And.intro ?sd ?_; case sd => (first | exact rfl | exact ⟨shp_int _, shp_int _⟩ | exact Nat.le_of_ble_eq_true rfl | assumption | exact cmL rfl | exact cmR rfl | exact ⟨by decide +kernel, by decide +kernel⟩ | exact ⟨rfl, rfl⟩ | omega | decide +kernel)) | refine brT (by first | exact rfl | assumption | decide +kernel) ?_ | refine brF (by first | exact rfl | assumption | decide +kernel) ?_ | refine brT (dec_self _) ?_ | refine brF (ndec_self _) ?_ | refine And.intro (len_sz (by omega)) ?_ | fail); all_goals (try conv => whnf))
      
      refine br (fun hB => ?_) (fun hB => ?_)
      · have hB := of_decide_eq_true hB
        (repeat' ((try conv => whnf); first | (refine And.intro ?sd ?_; case sd => (first | exact rfl | exact ⟨shp_int _, shp_int _⟩ | exact Nat.le_of_ble_eq_true rfl | assumption | exact cmL rfl | exact cmR rfl | exact ⟨by decide +kernel, by decide +kernel⟩ | exact ⟨rfl, rfl⟩ | omega | decide +kernel)) | refine brT (by first | exact rfl | assumption | decide +kernel) ?_ | refine brF (by first | exact rfl | assumption | decide +kernel) ?_ | refine brT (dec_self _) ?_ | refine brF (ndec_self _) ?_ | fail); all_goals (try conv => whnf))
        exact qx (by unfold tk; rw [show decide ((TL.tl z).length ≤ 10) = false from decide_eq_false (by omega)]; simp)
      · have hB := of_decide_eq_false hB
        have hi := intText_digits (x := z) (dig_all (hg rfl)) hne (by omega)
        (repeat' ((try conv => whnf); first | (refine And.intro ?sd ?_; case sd => (first | exact rfl | exact ⟨shp_int _, shp_int _⟩ | exact Nat.le_of_ble_eq_true rfl | assumption | exact cmL rfl | exact cmR rfl | exact ⟨by decide +kernel, by decide +kernel⟩ | exact ⟨rfl, rfl⟩ | omega | decide +kernel)) | refine brT (by first | exact rfl | assumption | decide +kernel) ?_ | refine brF (by first | exact rfl | assumption | decide +kernel) ?_ | refine brT (dec_self _) ?_ | refine brF (ndec_self _) ?_ | refine And.intro (show z.length ≤ 640 by omega) ?_ | (rw [hi]) | fail); all_goals (try conv => whnf))
        refine br (fun hC => ?_) (fun hC => ?_)
        · have hC := of_decide_eq_true hC
          (repeat' ((try conv => whnf); first | (refine And.intro ?sd ?_; case sd => (first | exact rfl | exact ⟨shp_int _, shp_int _⟩ | exact Nat.le_of_ble_eq_true rfl | assumption | exact cmL rfl | exact cmR rfl | exact ⟨by decide +kernel, by decide +kernel⟩ | exact ⟨rfl, rfl⟩ | omega | decide +kernel)) | refine brT (by first | exact rfl | assumption | decide +kernel) ?_ | refine brF (by first | exact rfl | assumption | decide +kernel) ?_ | refine brT (dec_self _) ?_ | refine brF (ndec_self _) ?_ | fail); all_goals (try conv => whnf))
          exact qx (by unfold tk; rw [show decide (NumText.digitsVal (TL.tl z) ≤ 1000000000) = false from decide_eq_false (by unfold TL.tl; omega)]; simp)
        · have hC := of_decide_eq_false hC
          (repeat' ((try conv => whnf); first | (refine And.intro ?sd ?_; case sd => (first | exact rfl | exact ⟨shp_int _, shp_int _⟩ | exact Nat.le_of_ble_eq_true rfl | assumption | exact cmL rfl | exact cmR rfl | exact ⟨by decide +kernel, by decide +kernel⟩ | exact ⟨rfl, rfl⟩ | omega | decide +kernel)) | refine brT (by first | exact rfl | assumption | decide +kernel) ?_ | refine brF (by first | exact rfl | assumption | decide +kernel) ?_ | refine brT (dec_self _) ?_ | refine brF (ndec_self _) ?_ | fail); all_goals (try conv => whnf))
          refine q ?_
          unfold tk
          rw [show decide (NumText.digitsVal (TL.tl z) ≤ 1000000000) = true from decide_eq_true (by unfold TL.tl; omega), show decide ((TL.tl z).length ≤ 10) = true from decide_eq_true (by omega), hz0]
          rfl

def sd_tokens (T : Tx K mg) : SpX := fun args Qd Wd => ∃ (x : Str) (n : Int), args = [.fr (.str x), .fr (.int n)] ∧ x.length ≤ 10000 ∧ asc x ∧ (∀ ts, scan (TL.tl x) 0 = .ok ts → Qd (.ow (.lst (ts.map Tk.d))) [.un, .un]) ∧
  (∀ (c : Nat) (rs : Str), scan (TL.tl x) 0 = .error (c, rs) → Wd (bad T n (c : Int) rs) [.un, .un])
theorem tw_all (p : Nat → Bool) (l : List Nat) : (l.take (l.takeWhile p).length).all p = true := by
  induction l with
  | nil => rfl
  | cons c l ih =>
    by_cases h : p c = true
    · rw [List.takeWhile_cons_of_pos h, List.length_cons, List.take_succ_cons, List.all_cons, h, ih]; rfl
    · rw [List.takeWhile_cons_of_neg h]; rfl
theorem tend_num {l : List Nat} (h : (tend l).1 = some .number) : (l.take (tend l).2).all (inn dig) = true := by
  unfold tend at h ⊢
  cases l with
  | nil => cases h
  | cons c r =>
    dsimp only at h ⊢
    by_cases h1 : inn abc c = true
    · rw [if_pos h1] at h; cases h
    · rw [if_neg h1] at h ⊢
      by_cases h2 : inn dig c = true
      · rw [if_pos h2]; exact tw_all _ _
      · rw [if_neg h2] at h
        split at h
        · cases h
        · split at h <;> cases h
theorem appT_push (ts : List Tk) (t : Tk) (r : Except (Nat × Str) (List Tk)) : appT ts (pushT t r) = appT (ts ++ [t]) r := by
  cases r with
  | ok l => show Except.ok (ts ++ t :: l) = Except.ok (ts ++ [t] ++ l); rw [List.append_assoc]; rfl
  | error e => rfl
theorem ok_tokens (T : Tx K mg) : FnOk P w K mg base (L2N.CX P w) 4 T.f_tokens T.fd_tokens ["line", "number"] (spX K 2 (sd_tokens T)) := by
  have G_token_end := ok_token_end (P := P) (w := w) (base := base) T
  have G_check_token := ok_check_token (P := P) (w := w) (base := base) T
  refine fn_DXN (k := 3) T.d_tokens.F sc_tokens (fun H0 Fm Z0 vs cdv A outer s H Ex Wd hr tk hp =>
    have nd := sc_tokens.nd; have u64 := hr.units; have u65 := u65_of hr; have u70 := u70_of hr
    (dss_cons (ds_setn 2 nd (dn_lst da_nil))
    (dss_cons (ds_set 3 nd de_int)
    (dss_cons (ds_while hp (dt_cmp (o_lt) (de_v 3) (de_b1 b_len T.m_len (db_v 0))) (dss_one (ds_if (dt_cmp (o_eqA u65) (de_ixo 0 (de_v 3)) de_str) (dss_one (ds_aug 3 nd i_add de_int)) (dss_cons (ds_asg (dcall G_token_end T.d_token_end (hr.mono (by decide)) (dm_d (de_v 0) (dm_d (de_v 3) dm_nil))) (dg_tup (n := 2) (dgs_cons (dg_n 4 nd) (dgs_cons (dg_n 5 nd) dgs_nil))))
    (dss_cons (ds_if (dt_cmp (o_isA) (de_v 4) de_non) (dss_one (ds_raise3N T.c_TextError tk (hr.mono (by decide)) (da_cons (de_v 1) (da_cons (de_op o_add (de_v 3) de_int) (da_cons de_str da_nil))))) dss_nil)
    (dss_cons (ds_expr (dcallxN G_check_token T.d_check_token tk (hr.mono (by decide)) (dm_d (de_v 4) (dm_d (de_slS (de_v 0) (do_s (de_v 3)) (do_s (de_v 5))) (dm_d (de_v 1) (dm_d (de_op o_add (de_v 3) de_int) dm_nil))))))
    (dss_cons (ds_expr (de_append 2 (de_tup (da_cons (de_v 4) (da_cons (de_slS (de_v 0) (do_s (de_v 3)) (do_s (de_v 5))) (da_cons (de_op o_add (de_v 3) de_int) da_nil))))))
    (dss_one (ds_set 3 nd (de_v 5))))))))))
    (dss_one (ds_retv 2)))))) (fun args Qd Wd hl h => ?_)
  obtain ⟨x, n, rfl, hx, ha, q, qx⟩ := h
  have hl := TL.len_tl x
  (repeat' ((try conv => whnf); first | (refine And.intro ?sd ?_; case sd => (first | exact rfl | exact ⟨shp_int _, shp_int _⟩ | exact Nat.le_of_ble_eq_true rfl | assumption | exact cmL rfl | exact cmR rfl | exact ⟨by decide +kernel, by decide +kernel⟩ | exact ⟨rfl, rfl⟩ | omega | decide +kernel)) | refine brT (by first | exact rfl | assumption | decide +kernel) ?_ | refine brF (by first | exact rfl | assumption | decide +kernel) ?_ | refine brT (dec_self _) ?_ | refine brF (ndec_self _) ?_ | refine ⟨fun m E => ∃ (s : Nat) (ts : List Tk) (x4 x5 : S), m = x.length - s ∧ s ≤ x.length ∧ ts.length ≤ s ∧ scan (TL.tl x) 0 = appT ts (scan ((TL.tl x).drop s) s) ∧ (S.free (some x4) = true ∧ S.free (some x5) = true) ∧ E = [.fr (.str x), .fr (.int n), .ow (.lst (ts.map Tk.d)), .fr (.int (s : Int)), x4, x5], ⟨_, 0, [], _, _, rfl, Nat.zero_le _, Nat.le_refl _, by rw [List.drop_zero]; cases scan (TL.tl x) 0 <;> rfl, ⟨rfl, rfl⟩, rfl⟩, fun m E hm => ?_⟩ | fail); all_goals (try conv => whnf))
  
  obtain ⟨s, ts, x4, x5, rfl, hs, ht, hsc, ⟨f4, f5⟩, rfl⟩ := hm
  (repeat' ((try conv => whnf); first | (refine And.intro ?sd ?_; case sd => (first | exact rfl | exact ⟨shp_int _, shp_int _⟩ | exact Nat.le_of_ble_eq_true rfl | assumption | exact cmL rfl | exact cmR rfl | exact ⟨by decide +kernel, by decide +kernel⟩ | exact ⟨rfl, rfl⟩ | omega | decide +kernel)) | refine brT (by first | exact rfl | assumption | decide +kernel) ?_ | refine brF (by first | exact rfl | assumption | decide +kernel) ?_ | refine brT (dec_self _) ?_ | refine brF (ndec_self _) ?_ | refine And.intro (len_sz (by omega)) ?_ | fail); all_goals (try conv => whnf))
  
  refine br (fun h => ?_) (fun h => ?_)
  · have hs1 : s < x.length := by have := of_decide_eq_true h; omega
    obtain ⟨c, hc⟩ : ∃ c, (TL.tl x)[s]? = some c := ⟨_, List.getElem?_eq_getElem (by omega)⟩
    have hd : (TL.tl x).drop s = c :: (TL.tl x).drop (s + 1) := by
      obtain ⟨hj, e⟩ := List.getElem?_eq_some_iff.mp hc
      rw [List.drop_eq_getElem_cons hj, e]
    have hcs := sign_shp (asc_at ha hc)
    (repeat' ((try conv => whnf); first | (refine And.intro ?sd ?_; case sd => (first | exact rfl | exact ⟨shp_int _, shp_int _⟩ | exact Nat.le_of_ble_eq_true rfl | assumption | exact cmL rfl | exact cmR rfl | exact ⟨by decide +kernel, by decide +kernel⟩ | exact ⟨rfl, rfl⟩ | omega | decide +kernel)) | refine brT (by first | exact rfl | assumption | decide +kernel) ?_ | refine brF (by first | exact rfl | assumption | decide +kernel) ?_ | refine brT (dec_self _) ?_ | refine brF (ndec_self _) ?_ | refine And.intro (len_sz (by omega)) ?_ | (rw [atS hc]) | refine And.intro ⟨hcs, by decide +kernel⟩ ?_ | fail); all_goals (try conv => whnf))
    refine br (fun h2 => ?_) (fun h2 => ?_)
    · rw [sp_eq] at h2
      have h2 := of_decide_eq_true h2
      subst h2
      (repeat' ((try conv => whnf); first | (refine And.intro ?sd ?_; case sd => (first | exact rfl | exact ⟨shp_int _, shp_int _⟩ | exact Nat.le_of_ble_eq_true rfl | assumption | exact cmL rfl | exact cmR rfl | exact ⟨by decide +kernel, by decide +kernel⟩ | exact ⟨rfl, rfl⟩ | omega | decide +kernel)) | refine brT (by first | exact rfl | assumption | decide +kernel) ?_ | refine brF (by first | exact rfl | assumption | decide +kernel) ?_ | refine brT (dec_self _) ?_ | refine brF (ndec_self _) ?_ | fail); all_goals (try conv => whnf))
      exact ⟨_, by omega, s + 1, ts, x4, x5, rfl, by omega, by omega, by rw [hsc, hd, scan_sp], ⟨f4, f5⟩, rfl⟩
    · rw [sp_eq] at h2
      have h2 := of_decide_eq_false h2
      have hp := tend_pos ((TL.tl x).drop s)
      have hle := tend_le (l := (TL.tl x).drop s) (by rw [hd]; exact List.cons_ne_nil _ _)
      rw [List.length_drop] at hle
      (repeat' ((try conv => whnf); first | (refine And.intro ?sd ?_; case sd => (first | exact rfl | exact ⟨shp_int _, shp_int _⟩ | exact Nat.le_of_ble_eq_true rfl | assumption | exact cmL rfl | exact cmR rfl | exact ⟨by decide +kernel, by decide +kernel⟩ | exact ⟨rfl, rfl⟩ | omega | decide +kernel)) | refine brT (by first | exact rfl | assumption | decide +kernel) ?_ | refine brF (by first | exact rfl | assumption | decide +kernel) ?_ | refine brT (dec_self _) ?_ | refine brF (ndec_self _) ?_ | refine ⟨x, s, rfl, hs1, hx, ha, ?_⟩ | fail); all_goals (try conv => whnf))
      cases hk : (tend ((TL.tl x).drop s)).1 with
      | none =>
        (repeat' ((try conv => whnf); first | (refine And.intro ?sd ?_; case sd => (first | exact rfl | exact ⟨shp_int _, shp_int _⟩ | exact Nat.le_of_ble_eq_true rfl | assumption | exact cmL rfl | exact cmR rfl | exact ⟨by decide +kernel, by decide +kernel⟩ | exact ⟨rfl, rfl⟩ | omega | decide +kernel)) | refine brT (by first | exact rfl | assumption | decide +kernel) ?_ | refine brF (by first | exact rfl | assumption | decide +kernel) ?_ | refine brT (dec_self _) ?_ | refine brF (ndec_self _) ?_ | fail); all_goals (try conv => whnf))
        exact qx (s + 1) "character" (by rw [hsc, hd, scan_none s h2 (by rw [← hd]; exact hk)]; rfl)
      | some k =>
        have hcut := tl_cut2 (x := x) (s := s) (e := s + (tend ((TL.tl x).drop s)).2) hs
        rw [show s + (tend ((TL.tl x).drop s)).2 - s = (tend ((TL.tl x).drop s)).2 by omega] at hcut
        have hcl := Nat.le_trans (cut_len x (some (s : Int)) (some ((s + (tend ((TL.tl x).drop s)).2 : Nat) : Int))) hx
        have hne : TL.tl (cutS x (some (s : Int)) (some ((s + (tend ((TL.tl x).drop s)).2 : Nat) : Int))) ≠ [] := by
          rw [hcut]
          intro e
          have := congrArg List.length e
          rw [List.length_take, List.length_drop] at this
          simp only [List.length_nil] at this
          omega
        (repeat' ((try conv => whnf); first | (refine And.intro ?sd ?_; case sd => (first | exact rfl | exact ⟨shp_int _, shp_int _⟩ | exact Nat.le_of_ble_eq_true rfl | assumption | exact cmL rfl | exact cmR rfl | exact ⟨by decide +kernel, by decide +kernel⟩ | exact ⟨rfl, rfl⟩ | omega | decide +kernel)) | refine brT (by first | exact rfl | assumption | decide +kernel) ?_ | refine brF (by first | exact rfl | assumption | decide +kernel) ?_ | refine brT (dec_self _) ?_ | refine brF (ndec_self _) ?_ | refine ⟨k, _, n, _, rfl, hcl, asc_cut ha _ _, hne, fun e => by rw [hcut]; exact tend_num (e ▸ hk), fun hb => ?_, fun hb => ?_⟩ | refine And.intro (by simp only [List.length_map, List.length_append, List.length_cons, List.length_nil]; exact len_lz (by omega)) ?_ | refine And.intro (len_sz (by omega)) ?_ | fail); all_goals (try conv => whnf))
        · refine ⟨_, by omega, s + (tend ((TL.tl x).drop s)).2, ts ++ [(k.s, cutS x (some (s : Int)) (some ((s + (tend ((TL.tl x).drop s)).2 : Nat) : Int)), s + 1)], _, _, rfl, by omega, by rw [List.length_append]; simp only [List.length_cons, List.length_nil]; omega, ?_, ⟨rfl, rfl⟩, by rw [List.map_append]; rfl⟩
          rw [hcut] at hb
          have h3 := scan_tk s h2 (by rw [← hd]; exact hk) (by rw [← hd]; exact hb)
          rw [← hd, ← hcut, ofL_tl, List.drop_drop] at h3
          rw [hsc, h3, appT_push]
        · rw [hcut] at hb
          exact qx (s + 1) k.s (by rw [hsc, hd, scan_bad s h2 (by rw [← hd]; exact hk) (by rw [← hd]; exact hb)]; rfl)
  · have hs1 : s = x.length := by have := of_decide_eq_false h; omega
    (repeat' ((try conv => whnf); first | (refine And.intro ?sd ?_; case sd => (first | exact rfl | exact ⟨shp_int _, shp_int _⟩ | exact Nat.le_of_ble_eq_true rfl | assumption | exact cmL rfl | exact cmR rfl | exact ⟨by decide +kernel, by decide +kernel⟩ | exact ⟨rfl, rfl⟩ | omega | decide +kernel)) | refine brT (by first | exact rfl | assumption | decide +kernel) ?_ | refine brF (by first | exact rfl | assumption | decide +kernel) ?_ | refine brT (dec_self _) ?_ | refine brF (ndec_self _) ?_ | fail); all_goals (try conv => whnf))
    exact q ts (by rw [hsc, List.drop_eq_nil_of_le (by omega), scan_nil]; show Except.ok (ts ++ []) = _; rw [List.append_nil])
end K00
set_option Elab.async false
set_option linter.all false
set_option maxRecDepth 100000
set_option maxHeartbeats 4000000
namespace K00
open PySem PySem.Spec PyProof.Rows L2 DL
variable {P : Program} {w : World} {K : Frg} {mg : Str → Option Value} {base : Heap}

abbrev Pc := Str × Str
def Pc.d (p : Pc) : D := .lst [.str p.1, .str p.2]
structure okP (p : Pc) : Prop where
  k : ∃ k : Kd, p.1 = k.s ∧ isK k (TL.tl p.2) ∧ tk k (TL.tl p.2) = true
  l : p.2.length ≤ 13
  a : asc p.2
structure badP (p : Pc) : Prop where
  b : isBad p.1 (TL.tl p.2)
  l : p.2.length ≤ 13
  a : asc p.2
theorem at_abc {k : Int} (h0 : 0 ≤ k) (h : k < 26) : ∃ c, atI ("abcdefghijklmnopqrstuvwxyz" : Str).cps.toList k = some c ∧ inn abc c = true ∧ c < 128 := by
  obtain ⟨n, rfl⟩ := Int.eq_ofNat_of_zero_le h0
  have e : ("abcdefghijklmnopqrstuvwxyz" : Str).cps.toList = (List.range 26).map (97 + ·) := abc_eq
  exact ⟨97 + n, at_nat (by rw [e, List.getElem?_map, List.getElem?_range (by omega)]; rfl), (in_abc _).mpr (by omega), by omega⟩
theorem at_mem {α : Type} {f : α → D} {ps : List α} {k : Int} (h0 : 0 ≤ k) (h : k < ps.length) : ∃ p, p ∈ ps ∧ atI (ps.map f) k = some (f p) := by
  obtain ⟨n, rfl⟩ := Int.eq_ofNat_of_zero_le h0
  exact ⟨ps[n]'(by omega), List.getElem_mem _, at_nat (by rw [List.getElem?_map, List.getElem?_eq_getElem (by omega)]; rfl)⟩
theorem t9 : (10 : Int) ^ Int.toNat 9 = 1000000000 := by decide
theorem numL_all (n : Nat) : (TL.numL n).all (inn dig) = true := List.all_eq_true.mpr fun c hc => (in_dig c).mpr (TL.numL_digits n c hc)
theorem num_front (n : Nat) : (!(decide (1 < (TL.numL n).length) && ((TL.numL n).head? == some 48))) = true := by
  by_cases h : n < 10
  · rw [TL.numL_lt h]; rfl
  · have := numL_front n (by omega)
    have e : ((TL.numL n).head? == some 48) = false := by simpa using this
    rw [e, Bool.and_false]; rfl
theorem num_okP {v : Int} (h0 : 0 ≤ v) (h : v ≤ 1000000000) : okP ("number", nt v) := by
  obtain ⟨n, rfl⟩ := Int.eq_ofNat_of_zero_le h0
  have hl := TL.numL_len (n := n) (k := 10) (by decide) (by omega)
  refine ⟨⟨.number, rfl, ⟨by rw [tl_nat]; exact TL.numL_ne _, by rw [tl_nat]; exact numL_all n⟩, ?_⟩, Nat.le_trans (num_len (k := 10) (by decide) (by omega)) (by decide), asc_nt _⟩
  show tk .number (TL.tl (nt (n : Int))) = true
  rw [tl_nat]
  unfold tk
  rw [TL.numL_val, num_front, decide_eq_true hl, decide_eq_true (show n ≤ 1000000000 by omega)]; rfl
theorem num_badP {v : Int} (h0 : 1000000000 < v) (h : v < 10000000000) : badP ("number", nt v) := by
  obtain ⟨n, rfl⟩ := Int.eq_ofNat_of_zero_le (show 0 ≤ v by omega)
  refine ⟨.inr ⟨.number, ⟨by rw [tl_nat]; exact TL.numL_ne _, by rw [tl_nat]; exact numL_all n⟩, ?_, rfl⟩, Nat.le_trans (num_len (k := 10) (by decide) (by omega)) (by decide), asc_nt _⟩
  show tk .number (TL.tl (nt (n : Int))) = false
  rw [tl_nat]
  unfold tk
  rw [TL.numL_val, decide_eq_false (show ¬ n ≤ 1000000000 by omega), Bool.and_false]
def SG : List Str := ["<=", ">=", "<", "=", ">", "+", "-", "*", "/", "(", ")", ","]
theorem sg_okP : ∀ x, x ∈ SG → okP ("sign", x) := by
  have h : SG.all (fun x => decide (TL.tl x ∈ SIGNS) && decide (x.length ≤ 13) && (TL.tl x).all (fun c => decide (c < 128))) = true := by decide +kernel
  intro x hx
  have := List.all_eq_true.mp h x hx
  simp only [Bool.and_eq_true, decide_eq_true_eq] at this
  exact ⟨⟨.sign, rfl, this.1.1, rfl⟩, this.1.2, fun c hc => of_decide_eq_true (List.all_eq_true.mp this.2 c hc)⟩
def BC : List Str := ["A", "_", "#", ".", "$", ":", ";"]
theorem bc_badP : ∀ x, x ∈ BC → badP ("character", x) := by
  have h : BC.all (fun x => (match TL.tl x with | [c] => decide (c ∈ [65, 95, 35, 46, 36, 58, 59]) | _ => false) && decide (x.length ≤ 13) && (TL.tl x).all (fun c => decide (c < 128))) = true := by decide +kernel
  intro x hx
  have := List.all_eq_true.mp h x hx
  simp only [Bool.and_eq_true, decide_eq_true_eq] at this
  obtain ⟨⟨h1, h2⟩, h3⟩ := this
  refine ⟨.inl ?_, h2, fun c hc => of_decide_eq_true (List.all_eq_true.mp h3 c hc)⟩
  split at h1
  · rename_i c e
    exact ⟨c, e, of_decide_eq_true h1, rfl⟩
  · cases h1
theorem wd_badP : badP ("word", "abcdefghijklm") := ⟨.inr ⟨.word, ⟨by decide +kernel, by decide +kernel⟩, by decide +kernel, rfl⟩, by decide +kernel, by unfold asc; decide +kernel⟩
theorem n0_badP : badP ("number", "00") := ⟨.inr ⟨.number, ⟨by decide +kernel, by decide +kernel⟩, by decide +kernel, rfl⟩, by decide +kernel, by unfold asc; decide +kernel⟩
theorem n1_badP : badP ("number", "012") := ⟨.inr ⟨.number, ⟨by decide +kernel, by decide +kernel⟩, by decide +kernel, rfl⟩, by decide +kernel, by unfold asc; decide +kernel⟩
theorem n2_badP : badP ("number", ("1" : Str) ++ Txt.mul "0" 10) := ⟨.inr ⟨.number, ⟨by decide +kernel, by decide +kernel⟩, by decide +kernel, rfl⟩, by decide +kernel, by unfold asc; decide +kernel⟩
def sd_l_piece : SpD := fun args Q => ∃ ns : List Int, args = [.mu (.lst (ns.map D.int))] ∧ ns.length ≤ 10000 ∧ ∀ (p : Pc) (ns' : List Int), okP p → ns'.length ≤ 10000 → Q (.fr p.d) [.mu (.lst (ns'.map D.int))]
def sd_l_bad : SpD := fun args Q => ∃ ns : List Int, args = [.mu (.lst (ns.map D.int))] ∧ ns.length ≤ 10000 ∧ ∀ (p : Pc) (ns' : List Int), badP p → ns'.length ≤ 10000 → Q (.fr p.d) [.mu (.lst (ns'.map D.int))]
theorem ok_l_piece (T : Tx K mg) : FnOk P w K mg base CX0 2 T.f_l_piece T.fd_l_piece ["_law_draws_here"] (spD K 1 sd_l_piece) := by
  have G_l_take := ok_l_take (P := P) (w := w) (base := base) T
  refine fn_D (k := 1) T.d_l_piece.F sc_l_piece (fun H0 Fm Z0 vs cdv A outer s H Ex hr =>
    have nd := sc_l_piece.nd; have u64 := hr.units; have u65 := u65_of hr; have u70 := u70_of hr
    (dss_cons (ds_set 1 nd (dcall G_l_take T.d_l_take (hr.mono (by decide)) (dm_m 0 (dm_d de_int dm_nil))))
    (dss_cons (ds_if (dt_cmp (o_eqA u65) (de_v 1) de_int) (dss_cons (ds_set 2 nd de_str)
    (dss_cons (ds_for PassesOwn.never (di_range1 rfl T.m_range (de_op o_add de_int (dcall G_l_take T.d_l_take (hr.mono (by decide)) (dm_m 0 (dm_d de_int dm_nil))))) (dg_n 3 nd) (dss_one (ds_set 2 nd (de_op o_add (de_v 2) (de_ix de_str (dcall G_l_take T.d_l_take (hr.mono (by decide)) (dm_m 0 (dm_d de_int dm_nil))))))))
    (dss_one (ds_ret (de_n (dn_lst (da_cons de_str (da_cons (de_v 2) da_nil)))))))) dss_nil)
    (dss_cons (ds_if (dt_cmp (o_eqA u65) (de_v 1) de_int) (dss_one (ds_ret (de_n (dn_lst (da_cons de_str (da_cons (de_t1 b_str T.m_str (db_e (de_ix (de_n (dn_lst (da_cons (dcall G_l_take T.d_l_take (hr.mono (by decide)) (dm_m 0 (dm_d de_int dm_nil))) (da_cons (de_op o_sub (de_op o_pow de_int de_int) (dcall G_l_take T.d_l_take (hr.mono (by decide)) (dm_m 0 (dm_d de_int dm_nil)))) (da_cons de_int da_nil))))) (dcall G_l_take T.d_l_take (hr.mono (by decide)) (dm_m 0 (dm_d de_int dm_nil)))))) da_nil)))))) dss_nil)
    (dss_one (ds_ret (de_n (dn_lst (da_cons de_str (da_cons (de_ix (de_n (dn_lst (da_cons de_str (da_cons de_str (da_cons de_str (da_cons de_str (da_cons de_str (da_cons de_str (da_cons de_str (da_cons de_str (da_cons de_str (da_cons de_str (da_cons de_str (da_cons de_str da_nil)))))))))))))) (dcall G_l_take T.d_l_take (hr.mono (by decide)) (dm_m 0 (dm_d de_int dm_nil)))) da_nil)))))))))) (fun args Qd hl h => ?_)
  obtain ⟨ns, rfl, hn, q⟩ := h
  (repeat' ((try conv => whnf); first | (refine And.intro ?sd ?_; case sd => (first | exact rfl | exact ⟨shp_int _, shp_int _⟩ | exact Nat.le_of_ble_eq_true rfl | assumption | exact cmL rfl | exact cmR rfl | exact ⟨by decide +kernel, by decide +kernel⟩ | exact ⟨rfl, rfl⟩ | omega | decide +kernel)) | refine brT (by first | exact rfl | assumption | decide +kernel) ?_ | refine brF (by first | exact rfl | assumption | decide +kernel) ?_ | refine brT (dec_self _) ?_ | refine brF (ndec_self _) ?_ | refine ⟨_, 4, rfl, hn, by first | decide | omega, fun r1 z1 p1 s1 h1 => ?_⟩ | fail); all_goals (try conv => whnf))
  
  refine br (fun h => ?_) (fun h => ?_)
  · (repeat' ((try conv => whnf); first | (refine And.intro ?sd ?_; case sd => (first | exact rfl | exact ⟨shp_int _, shp_int _⟩ | exact Nat.le_of_ble_eq_true rfl | assumption | exact cmL rfl | exact cmR rfl | exact ⟨by decide +kernel, by decide +kernel⟩ | exact ⟨rfl, rfl⟩ | omega | decide +kernel)) | refine brT (by first | exact rfl | assumption | decide +kernel) ?_ | refine brF (by first | exact rfl | assumption | decide +kernel) ?_ | refine brT (dec_self _) ?_ | refine brF (ndec_self _) ?_ | refine ⟨_, 12, rfl, h1, by first | decide | omega, fun r2 z2 p2 s2 h2 => ?_⟩ | refine And.intro ⟨by decide, by decide, by omega, by omega⟩ ?_ | refine ⟨fun i E => ∃ (ns : List Int) (w : Str) (x3 : S), E = [.mu (.lst (ns.map D.int)), .fr (.int r1), .fr (.str w), x3] ∧ S.free (some x3) = true ∧ w.length = i ∧ (TL.tl w).all (inn abc) = true ∧ asc w ∧ ns.length ≤ 10000, ⟨_, _, _, rfl, rfl, by decide +kernel, by decide +kernel, by unfold asc; decide +kernel, h2⟩, fun i e E hd hi => ?_, fun E hi => ?_⟩ | fail); all_goals (try conv => whnf))
    · obtain ⟨ns, w, x3, rfl, f3, hw, hwa, hwc, hn⟩ := hi
      obtain ⟨hk, rfl⟩ := rng_get hd
      (repeat' ((try conv => whnf); first | (refine And.intro ?sd ?_; case sd => (first | exact rfl | exact ⟨shp_int _, shp_int _⟩ | exact Nat.le_of_ble_eq_true rfl | assumption | exact cmL rfl | exact cmR rfl | exact ⟨by decide +kernel, by decide +kernel⟩ | exact ⟨rfl, rfl⟩ | omega | decide +kernel)) | refine brT (by first | exact rfl | assumption | decide +kernel) ?_ | refine brF (by first | exact rfl | assumption | decide +kernel) ?_ | refine brT (dec_self _) ?_ | refine brF (ndec_self _) ?_ | refine ⟨_, 26, rfl, hn, by first | decide | omega, fun r3 z3 p3 s3 h3 => ?_⟩ | (obtain ⟨c, hc, hc1, hc2⟩ := at_abc p3 s3; rw [hc]) | refine And.intro (by rw [hw]; exact len_sz (show i + 1 ≤ _ by omega)) ?_ | fail); all_goals (try conv => whnf))
      exact ⟨_, _, _, rfl, rfl, by rw [app_len, hw]; rfl, by rw [TL.tl_append, List.all_append, hwa]; show (inn abc c && true) = true; rw [hc1]; rfl, asc_app hwc (fun d hd => by have : d ∈ [c] := hd; rw [List.mem_singleton] at this; omega), h3⟩
    · obtain ⟨ns, w, x3, rfl, f3, hw, hwa, hwc, hn⟩ := hi
      rw [rng_len] at hw
      (repeat' ((try conv => whnf); first | (refine And.intro ?sd ?_; case sd => (first | exact rfl | exact ⟨shp_int _, shp_int _⟩ | exact Nat.le_of_ble_eq_true rfl | assumption | exact cmL rfl | exact cmR rfl | exact ⟨by decide +kernel, by decide +kernel⟩ | exact ⟨rfl, rfl⟩ | omega | decide +kernel)) | refine brT (by first | exact rfl | assumption | decide +kernel) ?_ | refine brF (by first | exact rfl | assumption | decide +kernel) ?_ | refine brT (dec_self _) ?_ | refine brF (ndec_self _) ?_ | fail); all_goals (try conv => whnf))
      have hl := TL.len_tl w
      exact q ("word", w) _ ⟨⟨.word, rfl, ⟨fun e => by rw [e] at hl; simp only [List.length_nil] at hl; omega, hwa⟩, decide_eq_true (show (TL.tl w).length ≤ 12 by omega)⟩, show w.length ≤ 13 by omega, hwc⟩ hn
  · (repeat' ((try conv => whnf); first | (refine And.intro ?sd ?_; case sd => (first | exact rfl | exact ⟨shp_int _, shp_int _⟩ | exact Nat.le_of_ble_eq_true rfl | assumption | exact cmL rfl | exact cmR rfl | exact ⟨by decide +kernel, by decide +kernel⟩ | exact ⟨rfl, rfl⟩ | omega | decide +kernel)) | refine brT (by first | exact rfl | assumption | decide +kernel) ?_ | refine brF (by first | exact rfl | assumption | decide +kernel) ?_ | refine brT (dec_self _) ?_ | refine brF (ndec_self _) ?_ | fail); all_goals (try conv => whnf))
    refine br (fun h => ?_) (fun h => ?_)
    · (repeat' ((try conv => whnf); first | (refine And.intro ?sd ?_; case sd => (first | exact rfl | exact ⟨shp_int _, shp_int _⟩ | exact Nat.le_of_ble_eq_true rfl | assumption | exact cmL rfl | exact cmR rfl | exact ⟨by decide +kernel, by decide +kernel⟩ | exact ⟨rfl, rfl⟩ | omega | decide +kernel)) | refine brT (by first | exact rfl | assumption | decide +kernel) ?_ | refine brF (by first | exact rfl | assumption | decide +kernel) ?_ | refine brT (dec_self _) ?_ | refine brF (ndec_self _) ?_ | refine ⟨_, 100, rfl, h1, by first | decide | omega, fun r2 z2 p2 s2 h2 => ?_⟩ | refine ⟨_, 9, rfl, h2, by first | decide | omega, fun r3 z3 p3 s3 h3 => ?_⟩ | refine ⟨_, 3, rfl, h3, by first | decide | omega, fun r4 z4 p4 s4 h4 => ?_⟩ | (obtain ⟨y5, m5, k5⟩ := at_mem (f := D.int) (ps := [r2, 10 ^ Int.toNat 9 - r3, 0]) (k := r4) p4 s4; conv in (L2.atI _ r4) => (change L2.atI (List.map (D.int) ([r2, 10 ^ Int.toNat 9 - r3, 0])) r4; rw [k5])) | refine And.intro (nt_log (by simp only [t9, List.mem_cons, List.not_mem_nil, or_false] at m5; omega)) ?_ | fail); all_goals (try conv => whnf))
      exact q ("number", nt y5) _ (num_okP (by simp only [t9, List.mem_cons, List.not_mem_nil, or_false] at m5; omega) (by simp only [t9, List.mem_cons, List.not_mem_nil, or_false] at m5; omega)) h4
    · (repeat' ((try conv => whnf); first | (refine And.intro ?sd ?_; case sd => (first | exact rfl | exact ⟨shp_int _, shp_int _⟩ | exact Nat.le_of_ble_eq_true rfl | assumption | exact cmL rfl | exact cmR rfl | exact ⟨by decide +kernel, by decide +kernel⟩ | exact ⟨rfl, rfl⟩ | omega | decide +kernel)) | refine brT (by first | exact rfl | assumption | decide +kernel) ?_ | refine brF (by first | exact rfl | assumption | decide +kernel) ?_ | refine brT (dec_self _) ?_ | refine brF (ndec_self _) ?_ | refine ⟨_, 12, rfl, h1, by first | decide | omega, fun r2 z2 p2 s2 h2 => ?_⟩ | (obtain ⟨y5, m5, k5⟩ := at_mem (f := D.str) (ps := SG) (k := r2) p2 s2; conv in (L2.atI _ r2) => (change L2.atI (List.map (D.str) (SG)) r2; rw [k5])) | fail); all_goals (try conv => whnf))
      exact q ("sign", y5) _ (sg_okP _ m5) h2
theorem ok_l_bad (T : Tx K mg) : FnOk P w K mg base CX0 2 T.f_l_bad T.fd_l_bad ["_law_draws_here"] (spD K 1 sd_l_bad) := by
  have G_l_take := ok_l_take (P := P) (w := w) (base := base) T
  refine fn_D (k := 1) T.d_l_bad.F sc_l_bad (fun H0 Fm Z0 vs cdv A outer s H Ex hr =>
    have nd := sc_l_bad.nd; have u64 := hr.units; have u65 := u65_of hr; have u70 := u70_of hr
    (dss_cons (ds_setn 1 nd (dn_lst (da_cons (de_n (dn_lst (da_cons de_str (da_cons (de_ix (de_n (dn_lst (da_cons de_str (da_cons de_str (da_cons de_str (da_cons de_str (da_cons de_str (da_cons de_str (da_cons de_str da_nil))))))))) (dcall G_l_take T.d_l_take (hr.mono (by decide)) (dm_m 0 (dm_d de_int dm_nil)))) da_nil)))) (da_cons (de_n (dn_lst (da_cons de_str (da_cons de_str da_nil)))) da_nil))))
    (dss_cons (ds_setn 1 nd (dn_cat (de_v 1) (db_e (de_n (dn_lst (da_cons (de_n (dn_lst (da_cons de_str (da_cons de_str da_nil)))) (da_cons (de_n (dn_lst (da_cons de_str (da_cons de_str da_nil)))) (da_cons (de_n (dn_lst (da_cons de_str (da_cons (de_t1 b_str T.m_str (db_e (de_op o_add (de_op o_add (de_op o_pow de_int de_int) de_int) (dcall G_l_take T.d_l_take (hr.mono (by decide)) (dm_m 0 (dm_d de_int dm_nil)))))) da_nil)))) da_nil))))))))
    (dss_one (ds_ret (de_ix (de_n (dn_cat (de_v 1) (db_e (de_n (dn_lst (da_cons (de_n (dn_lst (da_cons de_str (da_cons (de_op o_add de_str (de_op o_mulS de_str de_int)) da_nil)))) da_nil)))))) (dcall G_l_take T.d_l_take (hr.mono (by decide)) (dm_m 0 (dm_d de_int dm_nil))))))))) (fun args Qd hl h => ?_)
  obtain ⟨ns, rfl, hn, q⟩ := h
  (repeat' ((try conv => whnf); first | (refine And.intro ?sd ?_; case sd => (first | exact rfl | exact ⟨shp_int _, shp_int _⟩ | exact Nat.le_of_ble_eq_true rfl | assumption | exact cmL rfl | exact cmR rfl | exact ⟨by decide +kernel, by decide +kernel⟩ | exact ⟨rfl, rfl⟩ | omega | decide +kernel)) | refine brT (by first | exact rfl | assumption | decide +kernel) ?_ | refine brF (by first | exact rfl | assumption | decide +kernel) ?_ | refine brT (dec_self _) ?_ | refine brF (ndec_self _) ?_ | refine ⟨_, 7, rfl, hn, by first | decide | omega, fun r1 z1 p1 s1 h1 => ?_⟩ | (obtain ⟨y5, m5, k5⟩ := at_mem (f := D.str) (ps := BC) (k := r1) p1 s1; conv in (L2.atI _ r1) => (change L2.atI (List.map (D.str) (BC)) r1; rw [k5])) | refine ⟨_, 9, rfl, h1, by first | decide | omega, fun r2 z2 p2 s2 h2 => ?_⟩ | refine And.intro (nt_log (n := 10 ^ Int.toNat 9 + 1 + r2) (by rw [t9]; omega)) ?_ | refine And.intro (mulok (by decide +kernel) (by decide) (by decide)) ?_ | refine ⟨_, 6, rfl, h2, by first | decide | omega, fun r3 z3 p3 s3 h3 => ?_⟩ | (obtain ⟨y6, m6, k6⟩ := at_mem (f := Pc.d) (ps := ([("character", y5), ("word", "abcdefghijklm"), ("number", "00"), ("number", "012"), ("number", nt (10 ^ Int.toNat 9 + 1 + r2)), ("number", ("1" : Str) ++ Txt.mul "0" 10)] : List Pc)) (k := r3) p3 s3; conv in (L2.atI _ r3) => (change L2.atI (List.map (Pc.d) (([("character", y5), ("word", "abcdefghijklm"), ("number", "00"), ("number", "012"), ("number", nt (10 ^ Int.toNat 9 + 1 + r2)), ("number", ("1" : Str) ++ Txt.mul "0" 10)] : List Pc))) r3; rw [k6])) | fail); all_goals (try conv => whnf))
  
  refine q y6 _ ?_ h3
  simp only [List.mem_cons, List.not_mem_nil, or_false] at m6
  rcases m6 with rfl | rfl | rfl | rfl | rfl | rfl
  · exact bc_badP _ m5
  · exact wd_badP
  · exact n0_badP
  · exact n1_badP
  · exact num_badP (by rw [t9]; omega) (by rw [t9]; omega)
  · exact n2_badP
end K00
set_option Elab.async false
set_option linter.all false
set_option maxRecDepth 100000
set_option maxHeartbeats 4000000
namespace K00
open PySem PySem.Spec PyProof.Rows L2 DL
variable {P : Program} {w : World} {K : Frg} {mg : Str → Option Value} {base : Heap}

def sd_l_grows : SpD := fun args Q => ∃ (a b : Str), args = [.fr (.str a), .fr (.str b)] ∧ a.length ≤ 1000 ∧ b.length ≤ 1000 ∧ asc a ∧ asc b ∧ TL.tl b ≠ [] ∧ ∀ g, g = grows (TL.tl a) (TL.tl b) → Q (.fr (.bl g)) [.un, .un]
theorem empty_eq (a : Str) : decide (a = "") = decide (TL.tl a = []) := decide_eq_decide.mpr (by rw [str_tl]; exact Iff.rfl)
theorem eq_str : ("=" : Str) = ⟨#[61]⟩ := by decide +kernel
theorem eqs_eq (c : Nat) : decide ((⟨#[c]⟩ : Str) = "=") = decide (c = 61) := by rw [eq_str, sign_eq]
theorem brE {b b' : Bool} {A B : Prop} (e : b = b') (h1 : b' = true → A) (h2 : b' = false → B) : brB b A B := br (fun h => h1 (e ▸ h)) (fun h => h2 (e ▸ h))
theorem lg_in (z : Str) : ([("<" : Str), ">"].map D.str).any (fun d => D.eqv d (.str z)) = (decide (TL.tl z = [60]) || decide (TL.tl z = [62])) := by
  show (D.eqv (.str "<") (.str z) || (D.eqv (.str ">") (.str z) || false)) = _
  rw [eqv_str, eqv_str, Bool.or_false]
  congr 1
  · refine decide_eq_decide.mpr ?_
    rw [str_tl]
    exact ⟨fun h => h.symm.trans (by decide +kernel), fun h => (show TL.tl "<" = [60] by decide +kernel).trans h.symm⟩
  · refine decide_eq_decide.mpr ?_
    rw [str_tl]
    exact ⟨fun h => h.symm.trans (by decide +kernel), fun h => (show TL.tl ">" = [62] by decide +kernel).trans h.symm⟩
theorem lg_shp : (D.lst ([("<" : Str), ">"].map D.str)).shp = true := by decide +kernel
theorem ok_l_grows (T : Tx K mg) : FnOk P w K mg base CX0 1 T.f_l_grows T.fd_l_grows ["_law_left", "_law_right"] (spD K 2 sd_l_grows) := by
  refine fn_D (k := 0) T.d_l_grows.F sc_l_grows (fun H0 Fm Z0 vs cdv A outer s H Ex hr =>
    have nd := sc_l_grows.nd; have u64 := hr.units; have u65 := u65_of hr; have u70 := u70_of hr
    (dss_cons (ds_if (dt_w (dw_or (dt_cmp (o_eqA u65) (de_v 0) de_str) (dw_or1 (dt_cmp (o_eqA u65) (de_v 1) de_str)))) (dss_one (ds_ret de_bl)) dss_nil)
    (dss_cons (ds_set 2 nd de_str)
    (dss_cons (ds_set 3 nd de_str)
    (dss_cons (ds_set 4 nd (de_ixo 0 (de_op o_sub (de_b1 b_len T.m_len (db_v 0)) de_int)))
    (dss_cons (ds_if (dt_w (dw_or (dt_w (dw_and (dt_cmp o_inC (de_v 4) (de_v 2)) (dw_and1 (dt_cmp o_inC (de_ixo 1 de_int) (de_v 2))))) (dw_or1 (dt_w (dw_and (dt_cmp o_inC (de_v 4) (de_v 3)) (dw_and1 (dt_cmp o_inC (de_ixo 1 de_int) (de_v 3)))))))) (dss_one (ds_ret de_bl)) dss_nil)
    (dss_one (ds_ret (de_and (de_in u65 (de_v 0) (db_e (de_n (dn_lst (da_cons de_str (da_cons de_str da_nil)))))) (de_one (de_cmp (o_eqA u65) (de_ixo 1 de_int) de_str))))))))))) (fun args Qd hl h => ?_)
  obtain ⟨a, b, rfl, hal, hbl, haa, hba, hbn, q⟩ := h
  have la := TL.len_tl a
  have lb := TL.len_tl b
  have sa := asc_shp haa (by omega)
  have sb := asc_shp hba (by omega)
  have hb0 : decide (b = "") = false := by rw [empty_eq]; exact decide_eq_false hbn
  obtain ⟨c, hc⟩ : ∃ c, (TL.tl b)[0]? = some c := ⟨_, List.getElem?_eq_getElem (by have := List.length_pos_iff.mpr hbn; omega)⟩
  have hch : (TL.tl b).head? = some c := by rw [← hc]; exact List.head?_eq_getElem?
  have hcs := sign_shp (asc_at hba hc)
  (repeat' ((try conv => whnf); first | (refine And.intro ?sd ?_; case sd => (first | exact rfl | exact ⟨shp_int _, shp_int _⟩ | exact Nat.le_of_ble_eq_true rfl | assumption | exact cmL rfl | exact cmR rfl | exact ⟨by decide +kernel, by decide +kernel⟩ | exact ⟨rfl, rfl⟩ | omega | decide +kernel)) | refine brT (by first | exact rfl | assumption | decide +kernel) ?_ | refine brF (by first | exact rfl | assumption | decide +kernel) ?_ | refine brT (dec_self _) ?_ | refine brF (ndec_self _) ?_ | refine And.intro ⟨sa, by decide +kernel⟩ ?_ | refine And.intro ⟨sb, by decide +kernel⟩ ?_ | fail); all_goals (try conv => whnf))
  
  refine br (fun hA => ?_) (fun hA => ?_)
  · rw [empty_eq] at hA
    have hA := of_decide_eq_true hA
    (repeat' ((try conv => whnf); first | (refine And.intro ?sd ?_; case sd => (first | exact rfl | exact ⟨shp_int _, shp_int _⟩ | exact Nat.le_of_ble_eq_true rfl | assumption | exact cmL rfl | exact cmR rfl | exact ⟨by decide +kernel, by decide +kernel⟩ | exact ⟨rfl, rfl⟩ | omega | decide +kernel)) | refine brT (by first | exact rfl | assumption | decide +kernel) ?_ | refine brF (by first | exact rfl | assumption | decide +kernel) ?_ | refine brT (dec_self _) ?_ | refine brF (ndec_self _) ?_ | fail); all_goals (try conv => whnf))
    exact q _ (by rw [hA]; rfl)
  · rw [empty_eq] at hA
    have hA := of_decide_eq_false hA
    have hpos := List.length_pos_iff.mpr hA
    obtain ⟨p, hp⟩ : ∃ p, (TL.tl a)[(TL.tl a).length - 1]? = some p := ⟨_, List.getElem?_eq_getElem (by omega)⟩
    have hpl : (TL.tl a).getLast? = some p := by rw [List.getLast?_eq_getElem?]; exact hp
    have hpi : atI a.cps.toList ((a.length : Int) - 1) = some p := by
      have := atS hp
      rw [show (((TL.tl a).length - 1 : Nat) : Int) = (a.length : Int) - 1 by omega] at this
      exact this
    have hg : grows (TL.tl a) (TL.tl b) = (inn abc p && inn abc c || inn dig p && inn dig c || (decide (TL.tl a = [60]) || decide (TL.tl a = [62])) && decide (c = 61)) := by unfold grows; rw [hpl, hch]
    rw [hg] at q
    (repeat' ((try conv => whnf); first | (refine And.intro ?sd ?_; case sd => (first | exact rfl | exact ⟨shp_int _, shp_int _⟩ | exact Nat.le_of_ble_eq_true rfl | assumption | exact cmL rfl | exact cmR rfl | exact ⟨by decide +kernel, by decide +kernel⟩ | exact ⟨rfl, rfl⟩ | omega | decide +kernel)) | refine brT (by first | exact rfl | assumption | decide +kernel) ?_ | refine brF (by first | exact rfl | assumption | decide +kernel) ?_ | refine brT (dec_self _) ?_ | refine brF (ndec_self _) ?_ | refine And.intro ⟨sb, by decide +kernel⟩ ?_ | refine brF hb0 ?_ | refine And.intro (len_sz (by omega)) ?_ | (rw [hpi]) | (rw [show atI b.cps.toList 0 = some c from atS hc]) | refine And.intro ⟨sa, lg_shp⟩ ?_ | refine And.intro ⟨hcs, by decide +kernel⟩ ?_ | refine brE (b' := inn abc p) rfl (fun h => ?_) (fun h => ?_) | refine brE (b' := inn abc c) rfl (fun h => ?_) (fun h => ?_) | refine brE (b' := inn dig p) rfl (fun h => ?_) (fun h => ?_) | refine brE (b' := inn dig c) rfl (fun h => ?_) (fun h => ?_) | refine brE (lg_in a) (fun h => ?_) (fun h => ?_) | fail); all_goals (try conv => whnf))
    all_goals refine q _ ?_
    all_goals (clear hg q hp hpl hpi hc hch)
    all_goals simp [*, eqs_eq]
end K00
set_option Elab.async false
set_option linter.all false
set_option maxRecDepth 100000
set_option maxHeartbeats 4000000
namespace K00
open PySem PySem.Spec PyProof.Rows L2 DL
variable {P : Program} {w : World} {K : Frg} {mg : Str → Option Value} {base : Heap}

abbrev sd_law : SpD := sdLaw
structure Good (ps : List Pc) (k : Int) : Prop where
  ok : ∀ (i : Nat) (p : Pc), ps[i]? = some p → (i : Int) ≠ k → okP p
  bad : ∀ (i : Nat) (p : Pc), ps[i]? = some p → (i : Int) = k → badP p
  lo : -1 ≤ k
  hi : k < ps.length
  len : ps.length ≤ 10
theorem Good.l {ps : List Pc} {k : Int} (g : Good ps k) {i : Nat} {p : Pc} (h : ps[i]? = some p) : p.2.length ≤ 13 ∧ asc p.2 := by
  by_cases e : (i : Int) = k
  · exact ⟨(g.bad i p h e).l, (g.bad i p h e).a⟩
  · exact ⟨(g.ok i p h e).l, (g.ok i p h e).a⟩
theorem Good.ne {ps : List Pc} {k : Int} (g : Good ps k) {i : Nat} {p : Pc} (h : ps[i]? = some p) : TL.tl p.2 ≠ [] := by
  by_cases e : (i : Int) = k
  · rcases (g.bad i p h e).b with ⟨c, e, _⟩ | ⟨k, hk, _⟩
    · rw [e]; exact List.cons_ne_nil _ _
    · exact hk.ne
  · obtain ⟨k, _, hk, _⟩ := (g.ok i p h e).k
    exact hk.ne
theorem mem_get {ps : List Pc} {P : Pc → Prop} (h : ∀ p, p ∈ ps → P p) {i : Nat} {p : Pc} (e : ps[i]? = some p) : P p := h p (List.mem_of_getElem? e)
theorem Good.all {ps : List Pc} (h : ∀ p, p ∈ ps → okP p) (hl : ps.length ≤ 9) : Good ps (-1) := ⟨fun i p e _ => mem_get h e, fun i p e q => absurd q (by omega), by omega, by omega, by omega⟩
def insP (ps : List Pc) (k : Nat) (p : Pc) : List Pc := ps.take k ++ [p] ++ ps.drop k
theorem insP_get {ps : List Pc} {k : Nat} {p : Pc} (hk : k ≤ ps.length) (i : Nat) (r : Pc) (h : (insP ps k p)[i]? = some r) : (i = k ∧ r = p) ∨ (i ≠ k ∧ r ∈ ps) := by
  unfold insP at h
  have h1 : (ps.take k).length = k := by rw [List.length_take]; omega
  by_cases e : i < k
  · rw [List.append_assoc, List.getElem?_append_left (by omega)] at h
    exact .inr ⟨by omega, List.mem_of_mem_take (List.mem_of_getElem? h)⟩
  · rw [List.append_assoc, List.getElem?_append_right (by omega), h1] at h
    by_cases e2 : i = k
    · subst e2
      rw [Nat.sub_self] at h
      exact .inl ⟨rfl, (Option.some.inj h).symm⟩
    · obtain ⟨j, hj⟩ : ∃ j, i - k = j + 1 := ⟨i - k - 1, by omega⟩
      rw [hj] at h
      exact .inr ⟨e2, List.mem_of_mem_drop (List.mem_of_getElem? (show (ps.drop k)[j]? = some r from h))⟩
theorem Good.ins {ps : List Pc} {p : Pc} {k : Nat} (h : ∀ p, p ∈ ps → okP p) (hl : ps.length ≤ 9) (hp : badP p) (hk : k ≤ ps.length) : Good (insP ps k p) k := by
  refine ⟨fun i r e ne => ?_, fun i r e q => ?_, by omega, ?_, ?_⟩
  · rcases insP_get hk i r e with ⟨rfl, _⟩ | ⟨_, hm⟩
    · exact absurd rfl ne
    · exact h r hm
  · rcases insP_get hk i r e with ⟨_, rfl⟩ | ⟨hn, _⟩
    · exact hp
    · exact absurd (Int.ofNat.inj q) hn
  · unfold insP; simp; omega
  · unfold insP; simp; omega
theorem cut_take {ds : List D} {k : Nat} : DL.cutD ds none (some (k : Int)) = ds.take k := by
  unfold DL.cutD
  have e1 : HT.sIx ds.length 0 none = 0 := rfl
  have e2 : HT.sIx ds.length ds.length (some (k : Int)) = min k ds.length := HT.sIx_nat _ _ _
  rw [e1, e2, List.drop_zero, Nat.sub_zero]
  by_cases h : k ≤ ds.length
  · rw [Nat.min_eq_left h]
  · rw [Nat.min_eq_right (by omega), List.take_of_length_le (Nat.le_refl _), List.take_of_length_le (by omega)]
theorem cut_drop {ds : List D} {k : Nat} (h : k ≤ ds.length) : DL.cutD ds (some (k : Int)) none = ds.drop k := by
  unfold DL.cutD
  have e1 : HT.sIx ds.length 0 (some (k : Int)) = min k ds.length := HT.sIx_nat _ _ _
  have e2 : HT.sIx ds.length ds.length none = ds.length := rfl
  rw [e1, e2, Nat.min_eq_left h]
  exact List.take_of_length_le (by rw [List.length_drop]; omega)
theorem ins_eq {ps : List Pc} {p : Pc} {k : Nat} (h : k ≤ ps.length) : DL.cutD (ps.map Pc.d) none (some (k : Int)) ++ [p.d] ++ DL.cutD (ps.map Pc.d) (some (k : Int)) none = (insP ps k p).map Pc.d := by
  rw [cut_take, cut_drop (by rw [List.length_map]; exact h)]
  unfold insP
  simp
def sps (n : Nat) : Str := Txt.mul " " (n : Int)
theorem tl_sps (n : Nat) : TL.tl (sps n) = List.replicate n 32 := mul_tl (by decide +kernel)
theorem len_sps (n : Nat) : (sps n).length = n := by rw [TL.len_tl, tl_sps, List.length_replicate]
theorem asc_sps (n : Nat) : asc (sps n) := fun c hc => by
  rw [tl_sps] at hc
  have := (List.mem_replicate.mp hc).2
  omega
structure St (ps : List Pc) (k : Int) (i : Nat) (y b : Str) (ds : List D) (bh : Int) : Prop where
  ya : asc y
  yl : y.length ≤ 20 + 20 * i
  ba : asc b
  bl : b.length ≤ 13
  dl : ds.length = i
  dn : (k < 0 ∨ (i : Int) ≤ k) → ∃ ts : List Tk, ds = ts.map Tk.d ∧ Done (TL.tl y) (TL.tl b) ts ∧ ∀ t, t ∈ ts → (D.str t.1).shp = true ∧ (D.str t.2.1).shp = true
  bd : 0 ≤ k → k < i → ∃ (n : Nat) (p : Pc), bh = n ∧ ps[k.toNat]? = some p ∧ Bad (TL.tl y) (TL.tl b) (n, p.1)
theorem Kd.shp (k : Kd) : (D.str k.s).shp = true := by cases k <;> decide +kernel
theorem St.init {ps : List Pc} {k : Int} (n : Nat) (hn : n ≤ 3) : St ps k 0 (sps n) "" [] 0 :=
  ⟨asc_sps n, by rw [len_sps]; omega, by unfold asc; decide +kernel, by decide +kernel, rfl, fun _ => ⟨[], rfl, by rw [tl_sps]; exact Done.init n, fun _ h => nomatch h⟩, fun h1 h2 => by omega⟩
theorem St.step {ps : List Pc} {k : Int} {i : Nat} {y b : Str} {ds : List D} {bh : Int} (g : Good ps k) (h : St ps k i y b ds bh) {p : Pc} (hp : ps[i]? = some p) {n : Nat} (hn : n ≤ 3) (hg : n = 0 → grows (TL.tl b) (TL.tl p.2) = false) {bh' : Int}
    (hb : (i : Int) = k → bh' = ((y ++ sps n).length : Int) + 1) (hb2 : (i : Int) ≠ k → bh' = bh) :
    St ps k (i + 1) (y ++ sps n ++ p.2) p.2 (ds ++ [.tup [.str p.1, .str p.2, .int (((y ++ sps n).length : Int) + 1)]]) bh' := by
  obtain ⟨pl, pa⟩ := g.l hp
  have hyl := h.yl
  have e1 : TL.tl (y ++ sps n ++ p.2) = TL.tl y ++ List.replicate n 32 ++ TL.tl p.2 := by rw [TL.tl_append, TL.tl_append, tl_sps]
  have e2 : (y ++ sps n).length = (TL.tl y).length + n := by rw [app_len, len_sps, TL.len_tl]
  refine ⟨asc_app (asc_app h.ya (asc_sps n)) pa, ?_, pa, pl, by rw [List.length_append, h.dl]; rfl, fun hk => ?_, fun h0 hk => ?_⟩
  · rw [app_len, app_len, len_sps]; omega
  · obtain ⟨ts, rfl, hd, hs⟩ := h.dn (by omega)
    obtain ⟨kd, hk1, hk2, hk3⟩ := (g.ok i p hp (by omega)).k
    refine ⟨ts ++ [(kd.s, p.2, (TL.tl y).length + n + 1)], ?_, ?_, fun t ht => ?_⟩
    · rw [List.map_append, e2, hk1]; rfl
    · rw [e1]
      have := hd.add hk2 hk3 hg
      rw [ofL_tl] at this
      exact this
    · rcases List.mem_append.mp ht with ht | ht
      · exact hs t ht
      · rw [List.mem_singleton] at ht
        subst ht
        exact ⟨Kd.shp kd, asc_shp pa (Nat.le_trans pl (by decide))⟩
  · by_cases e : (i : Int) = k
    · obtain ⟨ts, rfl, hd, hs⟩ := h.dn (by omega)
      refine ⟨(TL.tl y).length + n + 1, p, by rw [hb e, e2]; rfl, by rw [← e]; exact hp, ?_⟩
      rw [e1]
      exact hd.bad (g.bad i p hp e).b hg
    · obtain ⟨m, p', q1, q2, q3⟩ := h.bd h0 (by omega)
      refine ⟨m, p', (hb2 e).trans q1, q2, ?_⟩
      rw [e1]
      exact q3.add (g.ne hp) hg
theorem toks_ok {ts : List Tk} (h : ∀ t, t ∈ ts → (D.str t.1).shp = true ∧ (D.str t.2.1).shp = true) (hl : ts.length ≤ 1000) : okD 2 (.lst (ts.map Tk.d)) = true := by
  show ((ts.map Tk.d).all (okD 1) && decide ((ts.map Tk.d).length ≤ 100000)) = true
  rw [List.length_map, decide_eq_true (by omega), Bool.and_true, List.all_map, List.all_eq_true]
  intro t ht
  obtain ⟨h1, h2⟩ := h t ht
  show (((D.str t.1).shp && ((D.str t.2.1).shp && (true && true))) && decide (3 ≤ 100000)) = true
  rw [h1, h2]; rfl
theorem err_ok {a b : Int} {x : Str} (h : (D.str x).shp = true) : okD 2 (.lst [.int a, .int b, .str x]) = true := by
  show ((true && (true && ((D.str x).shp && true))) && decide (3 ≤ 100000)) = true
  rw [h]; rfl
theorem bad_shp {p : Pc} (h : badP p) : (D.str p.1).shp = true := by
  rcases h.b with ⟨c, _, _, e⟩ | ⟨k, _, _, e⟩
  · rw [e]; decide +kernel
  · rw [e]; exact Kd.shp k
theorem ok_law (T : Tx K mg) : FnOk P w K mg base CX0 5 T.f_law T.fd_law ["_law_script"] (spD K 1 sd_law) := by
  have G_l_draws := ok_l_draws (P := P) (w := w) (base := base) T
  have G_l_piece := ok_l_piece (P := P) (w := w) (base := base) T
  have G_l_take := ok_l_take (P := P) (w := w) (base := base) T
  have H_l_same := okH_l_same (P := P) (w := w) (base := base) T
  have G_l_same := ok_l_same (P := P) (w := w) (base := base) T
  have G_tokens := ok_tokens (P := P) (w := w) (base := base) T
  have G_l_grows := ok_l_grows (P := P) (w := w) (base := base) T
  have G_l_bad := ok_l_bad (P := P) (w := w) (base := base) T
  refine fn_D (k := 4) T.d_law.F sc_law (fun H0 Fm Z0 vs cdv A outer s H Ex hr =>
    have nd := sc_law.nd; have u64 := hr.units; have u65 := u65_of hr; have u70 := u70_of hr
    (dss_cons (ds_setn 1 nd (dcalln G_l_draws T.d_l_draws (hr.mono (by decide)) (dm_d (de_v 0) dm_nil)))
    (dss_cons (ds_setlc 2 nd (di_range1 rfl T.m_range (dcall G_l_take T.d_l_take (hr.mono (by decide)) (dm_m 1 (dm_d de_int dm_nil)))) (blkOk_by (own := [("_law_k", 9)]) (N := N_law) (sc := defScope s_law) (by decide +kernel)) (fun _ _ _ _ _ => (dg_n 9 nd)) (fun _ _ _ _ _ => dts_nil) (fun _ _ _ _ _ => (dcall G_l_piece T.d_l_piece (hr.mono (by decide)) (dm_m 1 dm_nil))))
    (dss_cons (ds_set 3 nd (de_op o_add de_int (dcall G_l_take T.d_l_take (hr.mono (by decide)) (dm_m 1 (dm_d de_int dm_nil)))))
    (dss_cons (ds_set 4 nd (de_neg de_int))
    (dss_join (ds_if (dt_cmp (o_eqA u65) (dcall G_l_take T.d_l_take (hr.mono (by decide)) (dm_m 1 (dm_d de_int dm_nil))) de_int) (dss_cons (ds_set 4 nd (dcall G_l_take T.d_l_take (hr.mono (by decide)) (dm_m 1 (dm_d (de_op o_add (de_b1 b_len T.m_len (db_v 2)) de_int) dm_nil))))
    (dss_one (ds_setn 2 nd (dn_cat (de_n (dn_cat (de_n (dn_sl (de_v 2) do_n (do_s (de_v 4)))) (db_e (de_n (dn_lst (da_cons (dcall G_l_bad T.d_l_bad (hr.mono (by decide)) (dm_m 1 dm_nil)) da_nil)))))) (db_e (de_n (dn_sl (de_v 2) (do_s (de_v 4)) do_n))))))) dss_nil)
    (dss_cons (ds_set 5 nd (de_op o_mulS de_str (dcall G_l_take T.d_l_take (hr.mono (by decide)) (dm_m 1 (dm_d de_int dm_nil)))))
    (dss_cons (ds_setn 6 nd (dn_lst da_nil))
    (dss_cons (ds_set 7 nd de_int)
    (dss_cons (ds_set 8 nd de_str)
    (dss_cons (ds_for PassesOwn.never (di_range1 rfl T.m_range (de_b1 b_len T.m_len (db_v 2))) (dg_n 9 nd) (dss_cons (ds_set 11 nd (dcall G_l_take T.d_l_take (hr.mono (by decide)) (dm_m 1 (dm_d de_int dm_nil))))
    (dss_join (ds_if (dt_w (dw_and (dt_cmp (o_eqA u65) (de_v 11) de_int) (dw_and1 (dt_b (db_e (dcall G_l_grows T.d_l_grows (hr.mono (by decide)) (dm_d (de_v 8) (dm_d (de_ix (de_ixo 2 (de_v 9)) de_int) dm_nil)))))))) (dss_one (ds_set 11 nd de_int)) dss_nil)
    (dss_cons (ds_set 5 nd (de_op o_add (de_v 5) (de_op o_mulS de_str (de_v 11))))
    (dss_cons (ds_if (dt_cmp (o_eqA u65) (de_v 9) (de_v 4)) (dss_one (ds_set 7 nd (de_op o_add (de_b1 b_len T.m_len (db_v 5)) de_int))) dss_nil)
    (dss_cons (ds_expr (de_append 6 (de_tup (da_cons (de_ix (de_ixo 2 (de_v 9)) de_int) (da_cons (de_ix (de_ixo 2 (de_v 9)) de_int) (da_cons (de_op o_add (de_b1 b_len T.m_len (db_v 5)) de_int) da_nil))))))
    (dss_cons (ds_set 5 nd (de_op o_add (de_v 5) (de_ix (de_ixo 2 (de_v 9)) de_int)))
    (dss_one (ds_set 8 nd (de_ix (de_ixo 2 (de_v 9)) de_int))))))))))
    (dss_cons (ds_set 5 nd (de_op o_add (de_v 5) (de_op o_mulS de_str (dcall G_l_take T.d_l_take (hr.mono (by decide)) (dm_m 1 (dm_d de_int dm_nil))))))
    (dss_cons (ds_if (dt_cmp (o_lt) (de_v 4) de_int) (dss_one (ds_ret (dcall G_l_same T.d_l_same (hr.mono (by decide)) (dm_d (de_n (dcallnxN G_tokens T.d_tokens takes_noN (hr.mono (by decide)) (dm_d (de_v 5) (dm_d (de_v 3) dm_nil)))) (dm_d (de_v 6) dm_nil))))) dss_nil)
    (dss_cons (ds_tryN (K := K) nd takes_noN (fun fZ fH Wd pn xe tk hp => (dss_one (ds_expr (de_n (dcallnxN G_tokens T.d_tokens tk (hr.mono (by decide)) (dm_d (de_v 5) (dm_d (de_v 3) dm_nil))))))) 10 ⟨by rfl, by decide, .inl T.c_TextError.m⟩ (fun a oe cls d pn fZ fH ex hz hf xr => (dss_one (ds_ret (dcallH H_l_same T.d_l_same (L2H.roomH_mark (hr.mono (by decide)) _) (hot_suite hz hf) (dm_d (de_n (dn_lst (da_cons (de_exf 10 T.c_TextError.xf T.c_TextError.no1 hz.zc hf xr) (da_cons (de_exf 10 T.c_TextError.xf T.c_TextError.no2 hz.zc hf xr) (da_cons (de_exf 10 T.c_TextError.xf T.c_TextError.no3 hz.zc hf xr) da_nil))))) (dm_d (de_n (dn_lst (da_cons (de_v 3) (da_cons (de_v 7) (da_cons (de_ix (de_ixo 2 (de_v 4)) de_int) da_nil))))) dm_nil)))))))
    (dss_one (ds_ret de_bl)))))))))))))))) (fun args Qd hl h => ?_)
  obtain ⟨ns, rfl, hn, q⟩ := h
  (repeat' ((try conv => whnf); first | (refine And.intro ?sd ?_; case sd => (first | exact rfl | exact ⟨shp_int _, shp_int _⟩ | exact Nat.le_of_ble_eq_true rfl | assumption | exact cmL rfl | exact cmR rfl | exact ⟨by decide +kernel, by decide +kernel⟩ | exact ⟨rfl, rfl⟩ | omega | decide +kernel)) | refine brT (by first | exact rfl | assumption | decide +kernel) ?_ | refine brF (by first | exact rfl | assumption | decide +kernel) ?_ | refine brT (dec_self _) ?_ | refine brF (ndec_self _) ?_ | refine ⟨ns, rfl, hn, fun zs hz => ?_⟩ | refine ⟨_, 9, rfl, hz, by first | decide | omega, fun r1 z1 p1 s1 h1 => ?_⟩ | refine And.intro ⟨by decide, by decide, by omega, by omega⟩ ?_ | refine ⟨fun i acc E => ∃ (zs : List Int) (ps : List Pc), E = [.fr (.scr (ns.map D.int)), .ow (.lst (zs.map D.int)), .un, .un, .un, .un, .un, .un, .un, .un, .un, .un] ∧ acc = ps.map Pc.d ∧ ps.length = i ∧ (∀ p, p ∈ ps → okP p) ∧ zs.length ≤ 10000, ⟨_, [], rfl, rfl, rfl, (fun _ h => nomatch h), h1⟩, fun i e acc E hd hi => ?_, fun acc E hi _ => ?_⟩ | fail); all_goals (try conv => whnf))
  
  · obtain ⟨zs, ps, rfl, rfl, hpl, hps, hz⟩ := hi
    obtain ⟨hk, rfl⟩ := rng_get hd
    (repeat' ((try conv => whnf); first | (refine And.intro ?sd ?_; case sd => (first | exact rfl | exact ⟨shp_int _, shp_int _⟩ | exact Nat.le_of_ble_eq_true rfl | assumption | exact cmL rfl | exact cmR rfl | exact ⟨by decide +kernel, by decide +kernel⟩ | exact ⟨rfl, rfl⟩ | omega | decide +kernel)) | refine brT (by first | exact rfl | assumption | decide +kernel) ?_ | refine brF (by first | exact rfl | assumption | decide +kernel) ?_ | refine brT (dec_self _) ?_ | refine brF (ndec_self _) ?_ | refine ⟨zs, rfl, hz, fun p z2 hp h2 => ?_⟩ | refine And.intro (by rw [List.length_map, hpl]; exact len_lz (show i < _ by omega)) ?_ | fail); all_goals (try conv => whnf))
    exact ⟨_, ps ++ [p], rfl, by rw [List.map_append]; rfl, by rw [List.length_append, hpl]; rfl, fun r hr => by
      rcases List.mem_append.mp hr with hr | hr
      · exact hps r hr
      · rw [List.mem_singleton] at hr; subst hr; exact hp, h2⟩
  · obtain ⟨zs, ps, rfl, rfl, hpl, hps, hz⟩ := hi
    rw [rng_len] at hpl
    (repeat' ((try conv => whnf); first | (refine And.intro ?sd ?_; case sd => (first | exact rfl | exact ⟨shp_int _, shp_int _⟩ | exact Nat.le_of_ble_eq_true rfl | assumption | exact cmL rfl | exact cmR rfl | exact ⟨by decide +kernel, by decide +kernel⟩ | exact ⟨rfl, rfl⟩ | omega | decide +kernel)) | refine brT (by first | exact rfl | assumption | decide +kernel) ?_ | refine brF (by first | exact rfl | assumption | decide +kernel) ?_ | refine brT (dec_self _) ?_ | refine brF (ndec_self _) ?_ | refine ⟨_, 60, rfl, hz, by first | decide | omega, fun r2 z2 p2 s2 h2 => ?_⟩ | refine ⟨fun E => ∃ (zs : List Int) (ps : List Pc) (k : Int), E = [.fr (.scr (ns.map D.int)), .ow (.lst (zs.map D.int)), .ow (.lst (ps.map Pc.d)), .fr (.int (1 + r2)), .fr (.int k), .un, .un, .un, .un, .un, .un, .un] ∧ zs.length ≤ 10000 ∧ Good ps k, ?_, ?_⟩ | fail); all_goals (try conv => whnf))
    · (repeat' ((try conv => whnf); first | (refine And.intro ?sd ?_; case sd => (first | exact rfl | exact ⟨shp_int _, shp_int _⟩ | exact Nat.le_of_ble_eq_true rfl | assumption | exact cmL rfl | exact cmR rfl | exact ⟨by decide +kernel, by decide +kernel⟩ | exact ⟨rfl, rfl⟩ | omega | decide +kernel)) | refine brT (by first | exact rfl | assumption | decide +kernel) ?_ | refine brF (by first | exact rfl | assumption | decide +kernel) ?_ | refine brT (dec_self _) ?_ | refine brF (ndec_self _) ?_ | refine ⟨_, 2, rfl, h2, by first | decide | omega, fun r3 z3 p3 s3 h3 => ?_⟩ | fail); all_goals (try conv => whnf))
      refine br (fun h => ?_) (fun h => ?_)
      · (repeat' ((try conv => whnf); first | (refine And.intro ?sd ?_; case sd => (first | exact rfl | exact ⟨shp_int _, shp_int _⟩ | exact Nat.le_of_ble_eq_true rfl | assumption | exact cmL rfl | exact cmR rfl | exact ⟨by decide +kernel, by decide +kernel⟩ | exact ⟨rfl, rfl⟩ | omega | decide +kernel)) | refine brT (by first | exact rfl | assumption | decide +kernel) ?_ | refine brF (by first | exact rfl | assumption | decide +kernel) ?_ | refine brT (dec_self _) ?_ | refine brF (ndec_self _) ?_ | refine And.intro (len_sz (by rw [List.length_map]; omega)) ?_ | (refine ⟨_, ((ps.map Pc.d).length : Int) + 1, rfl, h3, by first | decide | omega, fun r4 z4 p4 s4 h4 => ?_⟩; obtain ⟨n4, rfl⟩ := Int.eq_ofNat_of_zero_le p4; have hk4 : n4 ≤ (List.map Pc.d ps).length := by omega) | refine And.intro (by simp only [cut_take, cut_drop hk4, List.length_append, List.length_take, List.length_drop, List.length_map, List.length_cons, List.length_nil]; exact len_sz (by omega)) ?_ | refine ⟨z4, rfl, h4, fun p z5 hp h5 => ?_⟩ | fail); all_goals (try conv => whnf))
        rw [List.length_map] at s4
        exact ⟨_, insP ps n4 p, _, by rw [← ins_eq (by omega)]; rfl, h5, Good.ins hps (by omega) hp (by omega)⟩
      · (repeat' ((try conv => whnf); first | (refine And.intro ?sd ?_; case sd => (first | exact rfl | exact ⟨shp_int _, shp_int _⟩ | exact Nat.le_of_ble_eq_true rfl | assumption | exact cmL rfl | exact cmR rfl | exact ⟨by decide +kernel, by decide +kernel⟩ | exact ⟨rfl, rfl⟩ | omega | decide +kernel)) | refine brT (by first | exact rfl | assumption | decide +kernel) ?_ | refine brF (by first | exact rfl | assumption | decide +kernel) ?_ | refine brT (dec_self _) ?_ | refine brF (ndec_self _) ?_ | fail); all_goals (try conv => whnf))
        exact ⟨_, ps, _, rfl, h3, Good.all hps (by omega)⟩
    · rintro E' ⟨zs, ps, k, rfl, hz, hg⟩
      have hgl := hg.len
      (repeat' ((try conv => whnf); first | (refine And.intro ?sd ?_; case sd => (first | exact rfl | exact ⟨shp_int _, shp_int _⟩ | exact Nat.le_of_ble_eq_true rfl | assumption | exact cmL rfl | exact cmR rfl | exact ⟨by decide +kernel, by decide +kernel⟩ | exact ⟨rfl, rfl⟩ | omega | decide +kernel)) | refine brT (by first | exact rfl | assumption | decide +kernel) ?_ | refine brF (by first | exact rfl | assumption | decide +kernel) ?_ | refine brT (dec_self _) ?_ | refine brF (ndec_self _) ?_ | (refine ⟨_, 3, rfl, hz, by first | decide | omega, fun r4 z4 p4 s4 h4 => ?_⟩; obtain ⟨n4, rfl⟩ := Int.eq_ofNat_of_zero_le p4) | refine And.intro (mulok (by decide +kernel) (by omega) (by omega)) ?_ | refine And.intro (len_sz (by rw [List.length_map]; omega)) ?_ | refine And.intro ⟨by decide, by decide, by omega, by rw [List.length_map]; omega⟩ ?_ | refine ⟨fun i E => ∃ (zs : List Int) (y : Str) (ds : List D) (bh : Int) (b : Str) (x9 x11 : S), E = [.fr (.scr (ns.map D.int)), .ow (.lst (zs.map D.int)), .ow (.lst (ps.map Pc.d)), .fr (.int (1 + r2)), .fr (.int k), .fr (.str y), .ow (.lst ds), .fr (.int bh), .fr (.str b), x9, .un, x11] ∧ (S.free (some x9) = true ∧ S.free (some x11) = true) ∧ zs.length ≤ 10000 ∧ St ps k i y b ds bh, ⟨_, sps n4, _, _, _, _, _, rfl, ⟨rfl, rfl⟩, h4, St.init n4 (by omega)⟩, fun i e E hd hi => ?_, fun E hi => ?_⟩ | fail); all_goals (try conv => whnf))
      · obtain ⟨zs, y, ds, bh, b, x9, x11, rfl, ⟨f9, f11⟩, hz, hs⟩ := hi
        obtain ⟨hk, he⟩ := rng_get hd
        rw [Int.zero_add] at he
        subst he
        rw [List.length_map] at hk
        obtain ⟨p, hp⟩ : ∃ p, ps[i]? = some p := ⟨_, List.getElem?_eq_getElem (by omega)⟩
        have hpi : atI (ps.map Pc.d) (i : Int) = some p.d := at_nat (by rw [List.getElem?_map, hp]; rfl)
        obtain ⟨pl, pa⟩ := hg.l hp
        have hyl := hs.yl
        have hbl := hs.bl
        (repeat' ((try conv => whnf); first | (refine And.intro ?sd ?_; case sd => (first | exact rfl | exact ⟨shp_int _, shp_int _⟩ | exact Nat.le_of_ble_eq_true rfl | assumption | exact cmL rfl | exact cmR rfl | exact ⟨by decide +kernel, by decide +kernel⟩ | exact ⟨rfl, rfl⟩ | omega | decide +kernel)) | refine brT (by first | exact rfl | assumption | decide +kernel) ?_ | refine brF (by first | exact rfl | assumption | decide +kernel) ?_ | refine brT (dec_self _) ?_ | refine brF (ndec_self _) ?_ | (refine ⟨_, 4, rfl, hz, by first | decide | omega, fun r5 z5 p5 s5 h5 => ?_⟩; obtain ⟨n5, rfl⟩ := Int.eq_ofNat_of_zero_le p5) | refine ⟨fun E => ∃ n : Nat, E = [.fr (.scr (ns.map D.int)), .ow (.lst (z5.map D.int)), .ow (.lst (ps.map Pc.d)), .fr (.int (1 + r2)), .fr (.int k), .fr (.str y), .ow (.lst ds), .fr (.int bh), .fr (.str b), .fr (.int (i : Int)), .un, .fr (.int (n : Int))] ∧ n ≤ 3 ∧ (n = 0 → grows (TL.tl b) (TL.tl p.2) = false), ?_, ?_⟩ | fail); all_goals (try conv => whnf))
        · refine br (fun h => ?_) (fun h => ?_)
          · have h : decide ((n5 : Int) = 0) = true := h
            have h := of_decide_eq_true h
            (repeat' ((try conv => whnf); first | (refine And.intro ?sd ?_; case sd => (first | exact rfl | exact ⟨shp_int _, shp_int _⟩ | exact Nat.le_of_ble_eq_true rfl | assumption | exact cmL rfl | exact cmR rfl | exact ⟨by decide +kernel, by decide +kernel⟩ | exact ⟨rfl, rfl⟩ | omega | decide +kernel)) | refine brT (by first | exact rfl | assumption | decide +kernel) ?_ | refine brF (by first | exact rfl | assumption | decide +kernel) ?_ | refine brT (dec_self _) ?_ | refine brF (ndec_self _) ?_ | (rw [hpi]) | refine ⟨b, p.2, rfl, by omega, by omega, hs.ba, pa, hg.ne hp, fun g hg2 => ?_⟩ | fail); all_goals (try conv => whnf))
            refine br (fun h2 => ?_) (fun h2 => ?_)
            · (repeat' ((try conv => whnf); first | (refine And.intro ?sd ?_; case sd => (first | exact rfl | exact ⟨shp_int _, shp_int _⟩ | exact Nat.le_of_ble_eq_true rfl | assumption | exact cmL rfl | exact cmR rfl | exact ⟨by decide +kernel, by decide +kernel⟩ | exact ⟨rfl, rfl⟩ | omega | decide +kernel)) | refine brT (by first | exact rfl | assumption | decide +kernel) ?_ | refine brF (by first | exact rfl | assumption | decide +kernel) ?_ | refine brT (dec_self _) ?_ | refine brF (ndec_self _) ?_ | fail); all_goals (try conv => whnf))
              exact ⟨1, rfl, by omega, fun h => absurd h (by decide)⟩
            · (repeat' ((try conv => whnf); first | (refine And.intro ?sd ?_; case sd => (first | exact rfl | exact ⟨shp_int _, shp_int _⟩ | exact Nat.le_of_ble_eq_true rfl | assumption | exact cmL rfl | exact cmR rfl | exact ⟨by decide +kernel, by decide +kernel⟩ | exact ⟨rfl, rfl⟩ | omega | decide +kernel)) | refine brT (by first | exact rfl | assumption | decide +kernel) ?_ | refine brF (by first | exact rfl | assumption | decide +kernel) ?_ | refine brT (dec_self _) ?_ | refine brF (ndec_self _) ?_ | fail); all_goals (try conv => whnf))
              exact ⟨_, rfl, by omega, fun _ => by rw [← hg2]; exact h2⟩
          · have h : decide ((n5 : Int) = 0) = false := h
            have h := of_decide_eq_false h
            (repeat' ((try conv => whnf); first | (refine And.intro ?sd ?_; case sd => (first | exact rfl | exact ⟨shp_int _, shp_int _⟩ | exact Nat.le_of_ble_eq_true rfl | assumption | exact cmL rfl | exact cmR rfl | exact ⟨by decide +kernel, by decide +kernel⟩ | exact ⟨rfl, rfl⟩ | omega | decide +kernel)) | refine brT (by first | exact rfl | assumption | decide +kernel) ?_ | refine brF (by first | exact rfl | assumption | decide +kernel) ?_ | refine brT (dec_self _) ?_ | refine brF (ndec_self _) ?_ | fail); all_goals (try conv => whnf))
            exact ⟨_, rfl, by omega, fun h0 => by omega⟩
        · rintro E' ⟨n, rfl, hn3, hgr⟩
          have l1 := len_sps n
          have l2 : (Txt.mul " " (n : Int)).length = n := l1
          have l3 : (y ++ Txt.mul " " (n : Int)).length = y.length + n := by rw [app_len, l2]
          (repeat' ((try conv => whnf); first | (refine And.intro ?sd ?_; case sd => (first | exact rfl | exact ⟨shp_int _, shp_int _⟩ | exact Nat.le_of_ble_eq_true rfl | assumption | exact cmL rfl | exact cmR rfl | exact ⟨by decide +kernel, by decide +kernel⟩ | exact ⟨rfl, rfl⟩ | omega | decide +kernel)) | refine brT (by first | exact rfl | assumption | decide +kernel) ?_ | refine brF (by first | exact rfl | assumption | decide +kernel) ?_ | refine brT (dec_self _) ?_ | refine brF (ndec_self _) ?_ | refine And.intro (mulok (by decide +kernel) (by omega) (by omega)) ?_ | refine And.intro (by first | exact len_sz (show y.length + (Txt.mul _ (n : Int)).length ≤ _ by omega) | exact len_sz (show (y ++ Txt.mul _ (n : Int)).length + p.2.length ≤ _ by omega) | exact len_sz (show (y ++ Txt.mul _ (n : Int)).length ≤ _ by omega)) ?_ | fail); all_goals (try conv => whnf))
          refine br (fun h => ?_) (fun h => ?_)
          · have h := of_decide_eq_true (show decide ((i : Int) = k) = true from h)
            (repeat' ((try conv => whnf); first | (refine And.intro ?sd ?_; case sd => (first | exact rfl | exact ⟨shp_int _, shp_int _⟩ | exact Nat.le_of_ble_eq_true rfl | assumption | exact cmL rfl | exact cmR rfl | exact ⟨by decide +kernel, by decide +kernel⟩ | exact ⟨rfl, rfl⟩ | omega | decide +kernel)) | refine brT (by first | exact rfl | assumption | decide +kernel) ?_ | refine brF (by first | exact rfl | assumption | decide +kernel) ?_ | refine brT (dec_self _) ?_ | refine brF (ndec_self _) ?_ | (rw [hpi]) | refine And.intro (by first | exact len_sz (show y.length + (Txt.mul _ (n : Int)).length ≤ _ by omega) | exact len_sz (show (y ++ Txt.mul _ (n : Int)).length + p.2.length ≤ _ by omega) | exact len_sz (show (y ++ Txt.mul _ (n : Int)).length ≤ _ by omega)) ?_ | refine And.intro (by rw [hs.dl]; exact len_lz (by omega)) ?_ | fail); all_goals (try conv => whnf))
            exact ⟨_, _, _, _, _, _, _, rfl, ⟨rfl, rfl⟩, h5, hs.step hg hp hn3 hgr (fun _ => rfl) (fun e => absurd h e)⟩
          · have h := of_decide_eq_false (show decide ((i : Int) = k) = false from h)
            (repeat' ((try conv => whnf); first | (refine And.intro ?sd ?_; case sd => (first | exact rfl | exact ⟨shp_int _, shp_int _⟩ | exact Nat.le_of_ble_eq_true rfl | assumption | exact cmL rfl | exact cmR rfl | exact ⟨by decide +kernel, by decide +kernel⟩ | exact ⟨rfl, rfl⟩ | omega | decide +kernel)) | refine brT (by first | exact rfl | assumption | decide +kernel) ?_ | refine brF (by first | exact rfl | assumption | decide +kernel) ?_ | refine brT (dec_self _) ?_ | refine brF (ndec_self _) ?_ | (rw [hpi]) | refine And.intro (by first | exact len_sz (show y.length + (Txt.mul _ (n : Int)).length ≤ _ by omega) | exact len_sz (show (y ++ Txt.mul _ (n : Int)).length + p.2.length ≤ _ by omega) | exact len_sz (show (y ++ Txt.mul _ (n : Int)).length ≤ _ by omega)) ?_ | refine And.intro (by rw [hs.dl]; exact len_lz (by omega)) ?_ | fail); all_goals (try conv => whnf))
            exact ⟨_, _, _, _, _, _, _, rfl, ⟨rfl, rfl⟩, h5, hs.step hg hp hn3 hgr (fun e => absurd e h) (fun _ => rfl)⟩
      · obtain ⟨zs, y, ds, bh, b, x9, x11, rfl, ⟨f9, f11⟩, hz, hs⟩ := hi
        rw [rng_len, List.length_map] at hs
        have hyl := hs.yl
        (repeat' ((try conv => whnf); first | (refine And.intro ?sd ?_; case sd => (first | exact rfl | exact ⟨shp_int _, shp_int _⟩ | exact Nat.le_of_ble_eq_true rfl | assumption | exact cmL rfl | exact cmR rfl | exact ⟨by decide +kernel, by decide +kernel⟩ | exact ⟨rfl, rfl⟩ | omega | decide +kernel)) | refine brT (by first | exact rfl | assumption | decide +kernel) ?_ | refine brF (by first | exact rfl | assumption | decide +kernel) ?_ | refine brT (dec_self _) ?_ | refine brF (ndec_self _) ?_ | (refine ⟨_, 3, rfl, hz, by first | decide | omega, fun r5 z5 p5 s5 h5 => ?_⟩; obtain ⟨n5, rfl⟩ := Int.eq_ofNat_of_zero_le p5) | refine And.intro (mulok (by decide +kernel) (by omega) (by omega)) ?_ | refine And.intro (len_sz (show y.length + (sps n5).length ≤ _ by rw [len_sps]; omega)) ?_ | fail); all_goals (try conv => whnf))
        have zl : (y ++ sps n5).length ≤ 10000 := by rw [app_len, len_sps]; omega
        have za : asc (y ++ sps n5) := asc_app hs.ya (asc_sps n5)
        have ze : TL.tl (y ++ sps n5) = TL.tl y ++ List.replicate n5 32 := by rw [TL.tl_append, tl_sps]
        refine br (fun h => ?_) (fun h => ?_)
        · have h := of_decide_eq_true (show decide (k < 0) = true from h)
          obtain ⟨ts0, rfl, hd, hsh⟩ := hs.dn (.inl h)
          have hsc := hd.fin n5
          rw [← ze] at hsc
          (repeat' ((try conv => whnf); first | (refine And.intro ?sd ?_; case sd => (first | exact rfl | exact ⟨shp_int _, shp_int _⟩ | exact Nat.le_of_ble_eq_true rfl | assumption | exact cmL rfl | exact cmR rfl | exact ⟨by decide +kernel, by decide +kernel⟩ | exact ⟨rfl, rfl⟩ | omega | decide +kernel)) | refine brT (by first | exact rfl | assumption | decide +kernel) ?_ | refine brF (by first | exact rfl | assumption | decide +kernel) ?_ | refine brT (dec_self _) ?_ | refine brF (ndec_self _) ?_ | refine ⟨y ++ sps n5, _, rfl, zl, za, fun ts hts => ?_, fun c rs hts => absurd (hsc.symm.trans hts) (by simp)⟩ | (obtain rfl := Except.ok.inj (hsc.symm.trans hts)) | refine ⟨_, rfl, toks_ok hsh (by have := hs.dl; rw [List.length_map] at this; omega), ?_⟩ | fail); all_goals (try conv => whnf))
          exact q
        · have h := of_decide_eq_false (show decide (k < 0) = false from h)
          obtain ⟨m, p, rfl, hp, hb⟩ := hs.bd (by omega) (by have := hg.hi; omega)
          have hsc := hb.fin n5
          rw [← ze] at hsc
          have hpi : atI (ps.map Pc.d) k = some p.d := by
            obtain ⟨j, rfl⟩ := Int.eq_ofNat_of_zero_le (show 0 ≤ k by omega)
            exact at_nat (by rw [List.getElem?_map, show ps[j]? = some p from hp]; rfl)
          have hbp := bad_shp (hg.bad k.toNat p hp (by omega))
          (repeat' ((try conv => whnf); first | (refine And.intro ?sd ?_; case sd => (first | exact rfl | exact ⟨shp_int _, shp_int _⟩ | exact Nat.le_of_ble_eq_true rfl | assumption | exact cmL rfl | exact cmR rfl | exact ⟨by decide +kernel, by decide +kernel⟩ | exact ⟨rfl, rfl⟩ | omega | decide +kernel)) | refine brT (by first | exact rfl | assumption | decide +kernel) ?_ | refine brF (by first | exact rfl | assumption | decide +kernel) ?_ | refine brT (dec_self _) ?_ | refine brF (ndec_self _) ?_ | refine ⟨y ++ sps n5, _, rfl, zl, za, fun ts hts => absurd (hsc.symm.trans hts) (by simp), fun c rs hts => ?_⟩ | (obtain ⟨rfl, rfl⟩ := Prod.mk.inj (Except.error.inj (hsc.symm.trans hts))) | (refine ⟨true, T.e_TextError, fun _ => ?_, fun z => nomatch z⟩) | intro a | (rw [hpi]) | refine ⟨_, rfl, err_ok hbp, ?_⟩ | fail); all_goals (try conv => whnf))
          exact q
end K00
set_option Elab.async false
set_option linter.all false
set_option maxRecDepth 100000
set_option maxHeartbeats 4000000
namespace K00
open PySem PySem.Spec PyProof.Rows L2 DL
variable {P : Program} {w : World} {K : Frg} {mg : Str → Option Value} {base : Heap}
abbrev sx_TextError : Stmt := inClass (topS 2) 0
theorem scx_TextError : FnScope ["self", "line", "column", "reason"] ["self", "line", "column", "reason"] (defScope sx_TextError) := ⟨rfl, rfl, rfl, by decide +kernel, rfl, by decide +kernel, by decide +kernel⟩
theorem exm_self {K : PySem.W.Frag} {S : Addr} (h1 : PySem.W.subIn K (.ref S) (.type "BaseException") = some true) (h2 : PySem.W.isClsIn K S = true) (h3 : PySem.W.typeIn K (.ref S) = some (.type "type")) (h4 : PySem.W.subIn K (.ref S) (.ref S) = some true) :
    PySem.W.exmOne K (.ref S) (.ref S) = some true := by
  have e1 : (PySem.W.subIn K (.ref S) (.type "BaseException") == some true) = true := by rw [h1] <;> rfl
  have e2 : ((PySem.W.clsIn K S).isSome && PySem.W.typeIn K (.ref S) == some (.type "type")) = true := by
    have h2' : (PySem.W.clsIn K S).isSome = true := h2
    rw [h2', h3] <;> rfl
  show (if (PySem.W.subIn K (.ref S) (.type "BaseException") == some true) = true then (if ((PySem.W.clsIn K S).isSome && PySem.W.typeIn K (.ref S) == some (.type "type")) = true then PySem.W.subIn K (.ref S) (.ref S) else none) else none) = some true
  rw [if_pos e1, if_pos e2]
  exact h4
theorem all_mk {l : PySem.W.OpenLaw} {w : World} {K : PySem.W.Frag} {h : Heap} {mg : Str → Option Value} {fa : Addr} (X : K.In h) (G : h.Ns mainGlobals mg) (hfa : mg "law" = some (.ref fa))
    {f0 : Addr}
    {od0 an0 : Option Addr} {sl0 : Array (Option Value)} {oc0 kV0 dc0 pm0 cd0 ct0 : Value}
    {f1 : Addr}
    {od1 an1 : Option Addr} {sl1 : Array (Option Value)} {oc1 kV1 dc1 pm1 cd1 ct1 : Value}
    {f2 : Addr}
    {od2 an2 : Option Addr} {sl2 : Array (Option Value)} {oc2 kV2 dc2 pm2 cd2 ct2 : Value}
    {f3 : Addr}
    {od3 an3 : Option Addr} {sl3 : Array (Option Value)} {oc3 kV3 dc3 pm3 cd3 ct3 : Value}
    {f4 : Addr}
    {od4 an4 : Option Addr} {sl4 : Array (Option Value)} {oc4 kV4 dc4 pm4 cd4 ct4 : Value}
    {f5 : Addr}
    {od5 an5 : Option Addr} {sl5 : Array (Option Value)} {oc5 kV5 dc5 pm5 cd5 ct5 : Value}
    {f6 : Addr}
    {od6 an6 : Option Addr} {sl6 : Array (Option Value)} {oc6 kV6 dc6 pm6 cd6 ct6 : Value}
    {f7 : Addr}
    {od7 an7 : Option Addr} {sl7 : Array (Option Value)} {oc7 kV7 dc7 pm7 cd7 ct7 : Value}
    {f8 : Addr}
    {od8 an8 : Option Addr} {sl8 : Array (Option Value)} {oc8 kV8 dc8 pm8 cd8 ct8 : Value}
    {f9 : Addr}
    {od9 an9 : Option Addr} {sl9 : Array (Option Value)} {oc9 kV9 dc9 pm9 cd9 ct9 : Value}
    {f10 : Addr}
    {od10 an10 : Option Addr} {sl10 : Array (Option Value)} {oc10 kV10 dc10 pm10 cd10 ct10 : Value}
    {fx0 Cx0 Nx0 : Addr} {nmx0 qx0 : Str} {bsx0 bmx0 sbx0 : List Value} {snx0 : List Str} {abx0 : Bool} {cox0 : Option Bool} {ddx0 : Option Addr} {mAx0 mBx0 mCx0 mDx0 mEx0 : Option Value}
    {odx0 anx0 : Option Addr} {slx0 : Array (Option Value)} {ocx0 kVx0 dcx0 pmx0 cdx0 ctx0 : Value}
    {tc0 : Nat}
    {tc1 : Nat}
    {tc2 : Nat}
    {ac3 : Addr} {oc_3 : Option Addr} {nc3 : Nat} {sc3 : Array (Option Value)} {tc3_0 tc3_1 : Nat}
    {tc4 : Nat}
    {tc5 : Nat}
    {tc6 : Nat}
    (a0 : PySem.W.nsIn K mainGlobals "_law_draws" = some (some (.ref f0)))
    (l0 : K.lookup f0 = some ⟨oc0, od0, .func (PySem.W.fnOf "_law_draws" "_law_draws" (defArgs s_l_draws) (defBody s_l_draws) (defScope s_l_draws) .none kV0 dc0 pm0 an0 cd0 ct0), sl0⟩)
    (c0 : PySem.W.codeIn K cd0 "_law_draws" = true)
    (k0 : PySem.W.keepIn K (.ref f0) = true)
    (a1 : PySem.W.nsIn K mainGlobals "_law_take" = some (some (.ref f1)))
    (l1 : K.lookup f1 = some ⟨oc1, od1, .func (PySem.W.fnOf "_law_take" "_law_take" (defArgs s_l_take) (defBody s_l_take) (defScope s_l_take) .none kV1 dc1 pm1 an1 cd1 ct1), sl1⟩)
    (c1 : PySem.W.codeIn K cd1 "_law_take" = true)
    (k1 : PySem.W.keepIn K (.ref f1) = true)
    (a2 : PySem.W.nsIn K mainGlobals "_law_piece" = some (some (.ref f2)))
    (l2 : K.lookup f2 = some ⟨oc2, od2, .func (PySem.W.fnOf "_law_piece" "_law_piece" (defArgs s_l_piece) (defBody s_l_piece) (defScope s_l_piece) .none kV2 dc2 pm2 an2 cd2 ct2), sl2⟩)
    (c2 : PySem.W.codeIn K cd2 "_law_piece" = true)
    (k2 : PySem.W.keepIn K (.ref f2) = true)
    (a3 : PySem.W.nsIn K mainGlobals "_law_same" = some (some (.ref f3)))
    (l3 : K.lookup f3 = some ⟨oc3, od3, .func (PySem.W.fnOf "_law_same" "_law_same" (defArgs s_l_same) (defBody s_l_same) (defScope s_l_same) .none kV3 dc3 pm3 an3 cd3 ct3), sl3⟩)
    (c3 : PySem.W.codeIn K cd3 "_law_same" = true)
    (k3 : PySem.W.keepIn K (.ref f3) = true)
    (a4 : PySem.W.nsIn K mainGlobals "behind" = some (some (.ref f4)))
    (l4 : K.lookup f4 = some ⟨oc4, od4, .func (PySem.W.fnOf "behind" "behind" (defArgs s_behind) (defBody s_behind) (defScope s_behind) .none kV4 dc4 pm4 an4 cd4 ct4), sl4⟩)
    (c4 : PySem.W.codeIn K cd4 "behind" = true)
    (k4 : PySem.W.keepIn K (.ref f4) = true)
    (a5 : PySem.W.nsIn K mainGlobals "token_end" = some (some (.ref f5)))
    (l5 : K.lookup f5 = some ⟨oc5, od5, .func (PySem.W.fnOf "token_end" "token_end" (defArgs s_token_end) (defBody s_token_end) (defScope s_token_end) .none kV5 dc5 pm5 an5 cd5 ct5), sl5⟩)
    (c5 : PySem.W.codeIn K cd5 "token_end" = true)
    (k5 : PySem.W.keepIn K (.ref f5) = true)
    (a6 : PySem.W.nsIn K mainGlobals "check_token" = some (some (.ref f6)))
    (l6 : K.lookup f6 = some ⟨oc6, od6, .func (PySem.W.fnOf "check_token" "check_token" (defArgs s_check_token) (defBody s_check_token) (defScope s_check_token) .none kV6 dc6 pm6 an6 cd6 ct6), sl6⟩)
    (c6 : PySem.W.codeIn K cd6 "check_token" = true)
    (k6 : PySem.W.keepIn K (.ref f6) = true)
    (a7 : PySem.W.nsIn K mainGlobals "tokens" = some (some (.ref f7)))
    (l7 : K.lookup f7 = some ⟨oc7, od7, .func (PySem.W.fnOf "tokens" "tokens" (defArgs s_tokens) (defBody s_tokens) (defScope s_tokens) .none kV7 dc7 pm7 an7 cd7 ct7), sl7⟩)
    (c7 : PySem.W.codeIn K cd7 "tokens" = true)
    (k7 : PySem.W.keepIn K (.ref f7) = true)
    (a8 : PySem.W.nsIn K mainGlobals "_law_grows" = some (some (.ref f8)))
    (l8 : K.lookup f8 = some ⟨oc8, od8, .func (PySem.W.fnOf "_law_grows" "_law_grows" (defArgs s_l_grows) (defBody s_l_grows) (defScope s_l_grows) .none kV8 dc8 pm8 an8 cd8 ct8), sl8⟩)
    (c8 : PySem.W.codeIn K cd8 "_law_grows" = true)
    (k8 : PySem.W.keepIn K (.ref f8) = true)
    (a9 : PySem.W.nsIn K mainGlobals "_law_bad" = some (some (.ref f9)))
    (l9 : K.lookup f9 = some ⟨oc9, od9, .func (PySem.W.fnOf "_law_bad" "_law_bad" (defArgs s_l_bad) (defBody s_l_bad) (defScope s_l_bad) .none kV9 dc9 pm9 an9 cd9 ct9), sl9⟩)
    (c9 : PySem.W.codeIn K cd9 "_law_bad" = true)
    (k9 : PySem.W.keepIn K (.ref f9) = true)
    (a10 : PySem.W.nsIn K mainGlobals "law" = some (some (.ref f10)))
    (l10 : K.lookup f10 = some ⟨oc10, od10, .func (PySem.W.fnOf "law" "law" (defArgs s_law) (defBody s_law) (defScope s_law) .none kV10 dc10 pm10 an10 cd10 ct10), sl10⟩)
    (c10 : PySem.W.codeIn K cd10 "law" = true)
    (k10 : PySem.W.keepIn K (.ref f10) = true)
    (wx0 : PySem.W.nsIn K mainGlobals "TextError" = some (some (.ref Cx0)))
    (Lx0 : K.lookup Cx0 = some (excClassObj nmx0 qx0 Cx0 Nx0 bsx0 bmx0 true snx0 sbx0 abx0 cox0 ddx0 mAx0 mBx0 mCx0 mDx0 mEx0 "ValueError.__new__"))
    (rx0 : PySem.HandSPX.refsVE bmx0 = true)
    (sax0 : PySem.W.findIn K (.ref Cx0) "__setattr__" = some (some (.builtin "object.__setattr__")))
    (gax0 : PySem.W.findIn K (.ref Cx0) "__getattribute__" = some (some (.builtin "BaseException.__getattribute__")))
    (ggx0 : PySem.W.findIn K (.ref Cx0) "__getattr__" = some none)
    (no1x0 : PySem.W.findIn K (.ref Cx0) "line" = some none)
    (no2x0 : PySem.W.findIn K (.ref Cx0) "column" = some none)
    (no3x0 : PySem.W.findIn K (.ref Cx0) "reason" = some none)
    (ax0 : PySem.W.findIn K (.ref Cx0) "__init__" = some (some (.ref fx0)))
    (tx0 : PySem.W.typeIn K (.ref fx0) = some (.type "function"))
    (lx0 : K.lookup fx0 = some ⟨ocx0, odx0, .func (PySem.W.fnOf "__init__" "TextError.__init__" (defArgs sx_TextError) (defBody sx_TextError) (defScope sx_TextError) .none kVx0 dcx0 pmx0 anx0 cdx0 ctx0), slx0⟩)
    (cx0 : PySem.W.codeIn K cdx0 "TextError.__init__" = true)
    (kx0 : PySem.W.keepIn K (.ref fx0) = true)
    (kCx0 : PySem.W.keepIn K (.ref Cx0) = true)
    (eCx0 : PySem.W.subIn K (.ref Cx0) (.type "BaseException") = some true)
    (tCx0 : PySem.W.typeIn K (.ref Cx0) = some (.type "type"))
    (hCx0 : PySem.W.hasDictIn K Cx0 = true)
    (iCx0 : PySem.W.isClsIn K Cx0 = true)
    (sCx0 : PySem.W.subIn K (.ref Cx0) (.ref Cx0) = some true)
    (q0 : PySem.W.nsIn K mainGlobals "LETTERS" = some (some (.str "abcdefghijklmnopqrstuvwxyz" tc0)))
    (q1 : PySem.W.nsIn K mainGlobals "DIGITS" = some (some (.str "0123456789" tc1)))
    (q2 : PySem.W.nsIn K mainGlobals "SHORT_SIGNS" = some (some (.str "<=>+-*/()," tc2)))
    (q3 : PySem.W.nsIn K mainGlobals "LONG_SIGNS" = some (some (.ref ac3)))
    (Q3 : K.lookup ac3 = some ⟨.type "tuple", oc_3, .seq #[.str "<=" tc3_0, .str ">=" tc3_1] nc3, sc3⟩)
    (q4 : PySem.W.nsIn K mainGlobals "MOST_LETTERS" = some (some (.int (12) tc4)))
    (q5 : PySem.W.nsIn K mainGlobals "MOST_DIGITS" = some (some (.int (10) tc5)))
    (q6 : PySem.W.nsIn K mainGlobals "GREATEST" = some (some (.int (1000000000) tc6)))
    (z0 : PySem.W.nsIn K mainGlobals "len" = some none)
    (z1 : PySem.W.nsIn K mainGlobals "int" = some none)
    (z2 : PySem.W.nsIn K mainGlobals "range" = some none)
    (z3 : PySem.W.nsIn K mainGlobals "list" = some none)
    (z4 : PySem.W.nsIn K mainGlobals "abs" = some none)
    (z5 : PySem.W.nsIn K mainGlobals "reversed" = some none)
    (z6 : PySem.W.nsIn K mainGlobals "isinstance" = some none)
    (z7 : PySem.W.nsIn K mainGlobals "tuple" = some none)
    (z8 : PySem.W.nsIn K mainGlobals "bool" = some none)
    (z9 : PySem.W.nsIn K mainGlobals "str" = some none)
    : ∃ fd : FuncData, (∀ (s : Shared) (v : Value), BindsTo s fd ⟨[v], []⟩ [("_law_script", v)]) ∧ ∀ base : Heap, K.In base → base.Ns mainGlobals mg → FnOk l.prog w K mg base CX0 5 fa fd ["_law_script"] (spD K 1 sdLaw) := by
  have e := hfa.symm.trans (PySem.W.mg_of X G a10)
  cases e
  have F0 := fun_mk (st := s_l_draws) l0 c0 k0
  have b0 := F0.binds (ps := ["_law_script"]) fun _ _ _ _ _ _ us hl => match us, hl with | [_], _ => rfl
  have F1 := fun_mk (st := s_l_take) l1 c1 k1
  have b1 := F1.binds (ps := ["_law_draws_here", "_law_bound"]) fun _ _ _ _ _ _ us hl => match us, hl with | [_, _], _ => rfl
  have F2 := fun_mk (st := s_l_piece) l2 c2 k2
  have b2 := F2.binds (ps := ["_law_draws_here"]) fun _ _ _ _ _ _ us hl => match us, hl with | [_], _ => rfl
  have F3 := fun_mk (st := s_l_same) l3 c3 k3
  have b3 := F3.binds (ps := ["_law_actual", "_law_due"]) fun _ _ _ _ _ _ us hl => match us, hl with | [_, _], _ => rfl
  have F4 := fun_mk (st := s_behind) l4 c4 k4
  have b4 := F4.binds (ps := ["line", "start", "allowed"]) fun _ _ _ _ _ _ us hl => match us, hl with | [_, _, _], _ => rfl
  have F5 := fun_mk (st := s_token_end) l5 c5 k5
  have b5 := F5.binds (ps := ["line", "start"]) fun _ _ _ _ _ _ us hl => match us, hl with | [_, _], _ => rfl
  have F6 := fun_mk (st := s_check_token) l6 c6 k6
  have b6 := F6.binds (ps := ["kind", "text", "number", "column"]) fun _ _ _ _ _ _ us hl => match us, hl with | [_, _, _, _], _ => rfl
  have F7 := fun_mk (st := s_tokens) l7 c7 k7
  have b7 := F7.binds (ps := ["line", "number"]) fun _ _ _ _ _ _ us hl => match us, hl with | [_, _], _ => rfl
  have F8 := fun_mk (st := s_l_grows) l8 c8 k8
  have b8 := F8.binds (ps := ["_law_left", "_law_right"]) fun _ _ _ _ _ _ us hl => match us, hl with | [_, _], _ => rfl
  have F9 := fun_mk (st := s_l_bad) l9 c9 k9
  have b9 := F9.binds (ps := ["_law_draws_here"]) fun _ _ _ _ _ _ us hl => match us, hl with | [_], _ => rfl
  have F10 := fun_mk (st := s_law) l10 c10 k10
  have b10 := F10.binds (ps := ["_law_script"]) fun _ _ _ _ _ _ us hl => match us, hl with | [_], _ => rfl
  have Fx0 := fun_mk (st := sx_TextError) lx0 cx0 kx0
  have bx0 := Fx0.binds (ps := ["self", "line", "column", "reason"]) fun _ _ _ _ _ _ us hl => match us, hl with | [_, _, _, _], _ => rfl
  have ox0 : OexC K Cx0 := ⟨⟨_, _, _, _, _, _, _, _, _, _, _, _, _, _, _, Lx0, rx0⟩, sax0, eCx0, tCx0, kCx0⟩
  have Ex0 : DL.E3 K mg "TextError" "line" "column" "reason" Cx0 fx0 _ "line" "column" "reason" := ⟨ox0, PySem.W.mg_of X G wx0, ax0, tx0, bx0, no1x0, no2x0, no3x0, ⟨gax0, ggx0, eCx0, hCx0⟩, fun P w base => init3 Fx0 rfl scx_TextError ox0 no1x0 no2x0 no3x0 (Or.inl rfl) (Or.inl rfl) (Or.inl rfl) (Or.inl rfl) (by decide) (by decide) (by decide) (by decide) (by decide) (by decide)⟩
  let T : Tx K mg := ⟨_, _, ⟨F0, PySem.W.mg_of X G a0, b0⟩, _, _, ⟨F1, PySem.W.mg_of X G a1, b1⟩, _, _, ⟨F2, PySem.W.mg_of X G a2, b2⟩, _, _, ⟨F3, PySem.W.mg_of X G a3, b3⟩, _, _, ⟨F4, PySem.W.mg_of X G a4, b4⟩, _, _, ⟨F5, PySem.W.mg_of X G a5, b5⟩, _, _, ⟨F6, PySem.W.mg_of X G a6, b6⟩, _, _, ⟨F7, PySem.W.mg_of X G a7, b7⟩, _, _, ⟨F8, PySem.W.mg_of X G a8, b8⟩, _, _, ⟨F9, PySem.W.mg_of X G a9, b9⟩, _, _, ⟨F10, PySem.W.mg_of X G a10, b10⟩, _, _, _, Ex0, exm_self eCx0 iCx0 tCx0 sCx0, cst_str (PySem.W.mg_of X G q0), cst_str (PySem.W.mg_of X G q1), cst_str (PySem.W.mg_of X G q2), cst_txts (PySem.W.mg_of X G q3) Q3 (.cons ⟨_, rfl⟩ (.cons ⟨_, rfl⟩ .nil)) (Nat.le_of_ble_eq_true rfl), cst_int (PySem.W.mg_of X G q4), cst_int (PySem.W.mg_of X G q5), cst_int (PySem.W.mg_of X G q6), PySem.W.mg_none_of X G z0, PySem.W.mg_none_of X G z1, PySem.W.mg_none_of X G z2, PySem.W.mg_none_of X G z3, PySem.W.mg_none_of X G z4, PySem.W.mg_none_of X G z5, PySem.W.mg_none_of X G z6, PySem.W.mg_none_of X G z7, PySem.W.mg_none_of X G z8, PySem.W.mg_none_of X G z9⟩
  exact ⟨_, fun s v => .of_eq rfl, fun base _ _ => ok_law T⟩
end K00
open PySem PySem.W PyProof.Rows
set_option maxHeartbeats 0 in
theorem PySem.Challenge.cw_retroact_k00_tokens_of_a_line_holds : PySem.Challenge.rw_retroact_k00_tokens_of_a_line.Holds := by
  w_on; o_law; k_head; (case hw => w_witness2)
  k_fill
  refine L2.walk_of (l := PySem.Challenge.rw_retroact_k00_tokens_of_a_line) (n := 63) (k := 5) (x := "_law_script") (CX := fun _ => L2.CX0) (sp := fun w => DL.spD _ 1 DL.sdLaw) rfl (by decide) rfl ⟨rfl, by decide, by decide⟩ (fun w h Y => PySem.W.kIn_of Y) ?F (fun _ _ a ns hl _ hS => DL.law_sp hl hS) (fun _ _ _ _ _ h => h)
  case F =>
    intro w mg fa h KX G hmg
    refine' K00.all_mk KX G hmg ?a0 ?l0 ?c0 ?k0 ?a1 ?l1 ?c1 ?k1 ?a2 ?l2 ?c2 ?k2 ?a3 ?l3 ?c3 ?k3 ?a4 ?l4 ?c4 ?k4 ?a5 ?l5 ?c5 ?k5 ?a6 ?l6 ?c6 ?k6 ?a7 ?l7 ?c7 ?k7 ?a8 ?l8 ?c8 ?k8 ?a9 ?l9 ?c9 ?k9 ?a10 ?l10 ?c10 ?k10 ?wx0 ?Lx0 ?rx0 ?sax0 ?gax0 ?ggx0 ?no1x0 ?no2x0 ?no3x0 ?ax0 ?tx0 ?lx0 ?cx0 ?kx0 ?kCx0 ?eCx0 ?tCx0 ?hCx0 ?iCx0 ?sCx0 ?q0 ?q1 ?q2 ?q3 ?Q3 ?q4 ?q5 ?q6 ?z0 ?z1 ?z2 ?z3 ?z4 ?z5 ?z6 ?z7 ?z8 ?z9
    (case a0 => k_is); (case l0 => k_is); (case c0 => k_is); (case k0 => k_is); (case a1 => k_is); (case l1 => k_is); (case c1 => k_is); (case k1 => k_is); (case a2 => k_is); (case l2 => k_is); (case c2 => k_is); (case k2 => k_is); (case a3 => k_is); (case l3 => k_is); (case c3 => k_is); (case k3 => k_is); (case a4 => k_is); (case l4 => k_is); (case c4 => k_is); (case k4 => k_is); (case a5 => k_is); (case l5 => k_is); (case c5 => k_is); (case k5 => k_is); (case a6 => k_is); (case l6 => k_is); (case c6 => k_is); (case k6 => k_is); (case a7 => k_is); (case l7 => k_is); (case c7 => k_is); (case k7 => k_is); (case a8 => k_is); (case l8 => k_is); (case c8 => k_is); (case k8 => k_is); (case a9 => k_is); (case l9 => k_is); (case c9 => k_is); (case k9 => k_is); (case a10 => k_is); (case l10 => k_is); (case c10 => k_is); (case k10 => k_is); (case wx0 => k_is); (case Lx0 => k_is); (case rx0 => decide +kernel); (case sax0 => k_is); (case gax0 => k_is); (case ggx0 => k_is); (case no1x0 => k_is); (case no2x0 => k_is); (case no3x0 => k_is); (case ax0 => k_is); (case tx0 => k_is); (case lx0 => k_is); (case cx0 => k_is); (case kx0 => k_is); (case kCx0 => k_is); (case eCx0 => k_is); (case tCx0 => k_is); (case hCx0 => k_is); (case iCx0 => k_is); (case sCx0 => first | rfl | k_is); (case q0 => k_is); (case q1 => k_is); (case q2 => k_is); (case q3 => k_is); (case Q3 => k_is); (case q4 => k_is); (case q5 => k_is); (case q6 => k_is); (case z0 => k_is); (case z1 => k_is); (case z2 => k_is); (case z3 => k_is); (case z4 => k_is); (case z5 => k_is); (case z6 => k_is); (case z7 => k_is); (case z8 => k_is); (case z9 => k_is)
