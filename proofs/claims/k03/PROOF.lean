import PyProof.Rows.All
import Wide.All
import OpenK.AllK
import Wide.FinOn
import HandS.ForMost
import HandS.IsInst
import HandS.Wide
import HandS.TupAny
import HandS.Deep
import HandS.TupLe
import PyProof.ReprRoads
import HandS.Text
import HandS.RaiseMore
import HandS.SortInts
import HandS.Conv
import HandS.ForExc
import HandS.Walk
import HandS.EndBits
import HandS.Defaults
import HandS.Head0
import HandS.Head1
import HandS.Head2
import HandS.HeadHook1
import HandS.HeadHook2
import HandS.Style
import PyProof.StrLawsRepr
import KE.GoesEnum
import HandS.Zip
import HandS.Small
import HandS.SetFor
import HandS.Strs
import PyProof.TupleOfSeq
import HandS.Star
import PySem.Challenge.RW_ghostlogs_k03_seen_and_pressed_sets
set_option Elab.async false
set_option linter.all false
set_option maxRecDepth 100000
set_option maxHeartbeats 1000000
namespace DL
open PySem PySem.Spec L2

/-- data, as trees -/
inductive D where
  | non | bl (b : Bool) | int (i : Int) | str (x : Str)
  | tup (xs : List D) | lst (xs : List D)
  | dic (ks vs : List D)
  | obj (c : Str) (ns : List Str) (vs : List D)
  | scr (ns : List Int)

/-- what a slot owns: a tree whose upper nodes nobody else holds; its leaves are data that never change -/
inductive T where
  | fr (d : D) | lst (ts : List T) | dic (ks : List D) (ts : List T) | obj (c : Str) (ns : List Str) (ts : List T)

mutual
def T.d : T → D
  | .fr d => d
  | .lst ts => .lst (T.ds ts)
  | .dic ks ts => .dic ks (T.ds ts)
  | .obj c ns ts => .obj c ns (T.ds ts)
def T.ds : List T → List D
  | [] => []
  | t :: ts => T.d t :: T.ds ts
end
theorem T.ds_eq : ∀ ts : List T, T.ds ts = ts.map T.d
  | [] => rfl
  | t :: ts => by rw [T.ds, T.ds_eq ts, List.map_cons]
theorem T.ds_fr : ∀ ds : List D, T.ds (ds.map T.fr) = ds
  | [] => rfl
  | d :: ds => by rw [List.map_cons, T.ds, T.ds_fr ds, T.d]

abbrev FS := Addr → Prop
/-- what stays through a def's run: the written part, the classes by name, the slots that are not assigned -/
structure CT where
  K : PySem.W.Frag
  ca : Str → Option Addr
  pr : Nat → Option V

def keyD : Key → D
  | .inl i => .int i
  | .inr x => .str x
def keysD (ks : List Key) : D := .tup (ks.map keyD)

mutual
def RD (c : CT) (G : Hp) : D → V → Prop
  | .non, v => v = .non
  | .bl b, v => v = .bl b
  | .int i, v => v = .int i
  | .str x, v => v = .str x
  | .scr ns, v => ∃ a, v = .ref a ∧ SqL c.K G a (ns.map V.int)
  | .tup ds, v => ∃ a vs, v = .ref a ∧ G a = some (.tup vs) ∧ RDs c G ds vs
  | .lst ds, v => ∃ a vs, v = .ref a ∧ G a = some (.lst vs) ∧ RDs c G ds vs
  | .dic ks ds, v => ∃ a, v = .ref a ∧ ((∃ kvs : List (Key × V), G a = some (.dK kvs) ∧ ks = kvs.map (fun p => keyD p.1) ∧ RDs c G ds (kvs.map (·.2))) ∨
      ∃ kvs : List (List Key × V), G a = some (.dT kvs) ∧ ks = D.non :: kvs.map (fun p => keysD p.1) ∧ RDs c G ds (kvs.map (·.2)))
  | .obj n ns ds, v => ∃ a C dx vs, v = .ref a ∧ c.ca n = some C ∧ G a = some (.ins C dx (ns.zip vs)) ∧ G dx = some (.own a) ∧ ns.length = vs.length ∧ RDs c G ds vs
def RDs (c : CT) (G : Hp) : List D → List V → Prop
  | [], vs => vs = []
  | d :: ds, vs => ∃ v r, vs = v :: r ∧ RD c G d v ∧ RDs c G ds r
end

mutual
def RT (c : CT) (G H : Hp) : T → V → FS → Prop
  | .fr d, v, _ => RD c G d v
  | .lst ts, v, F => ∃ a vs F', v = .ref a ∧ H a = some (.lst vs) ∧ F a ∧ ¬ F' a ∧ (∀ b, F' b → F b) ∧ RTs c G H ts vs F'
  | .dic ks ts, v, F => ∃ a F', v = .ref a ∧ F a ∧ ¬ F' a ∧ (∀ b, F' b → F b) ∧ ((∃ kvs : List (Key × V), H a = some (.dK kvs) ∧ ks = kvs.map (fun p => keyD p.1) ∧ RTs c G H ts (kvs.map (·.2)) F') ∨
      ∃ kvs : List (List Key × V), H a = some (.dT kvs) ∧ ks = D.non :: kvs.map (fun p => keysD p.1) ∧ RTs c G H ts (kvs.map (·.2)) F')
  | .obj n ns ts, v, F => ∃ a C dx vs F', v = .ref a ∧ c.ca n = some C ∧ H a = some (.ins C dx (ns.zip vs)) ∧ H dx = some (.own a) ∧ F a ∧ F dx ∧ ¬ F' a ∧ ¬ F' dx ∧ (∀ b, F' b → F b) ∧ ns.length = vs.length ∧ RTs c G H ts vs F'
def RTs (c : CT) (G H : Hp) : List T → List V → FS → Prop
  | [], vs, _ => vs = []
  | t :: ts, vs, F => ∃ v r F1 F2, vs = v :: r ∧ (∀ b, F1 b → F b) ∧ (∀ b, F2 b → F b) ∧ (∀ b, F1 b → F2 b → False) ∧ RT c G H t v F1 ∧ RTs c G H ts r F2
end

/-- all that was there is there -/
def Sub (G H : Hp) : Prop := ∀ a o, G a = some o → H a = some o
theorem Sub.refl (G : Hp) : Sub G G := fun _ _ h => h
theorem Sub.trans {A B C : Hp} (h : Sub A B) (k : Sub B C) : Sub A C := fun a o e => k a o (h a o e)
theorem Sub.no {G H : Hp} (h : Sub G H) {a : Addr} (e : H a = none) : G a = none := by
  cases q : G a with
  | none => rfl
  | some o => rw [h a o q] at e; cases e
theorem Rd.sub {G H : Hp} (s : Sub G H) {a : Addr} {u : HO} (h : Rd G a u) : Rd H a u := by
  rcases h with h | ⟨o, h⟩
  · exact .inl (s _ _ h)
  · exact .inr ⟨o, s _ _ h⟩
theorem SqL.sub {K : PySem.W.Frag} {G H : Hp} (s : Sub G H) {a : Addr} {xs : List V} (h : SqL K G a xs) : SqL K H a xs := by
  rcases h with h | h
  · exact .inl (Rd.sub s h)
  · exact .inr h
theorem SqT.sub {K : PySem.W.Frag} {G H : Hp} (s : Sub G H) {a : Addr} {xs : List V} (h : SqT K G a xs) : SqT K H a xs := by
  rcases h with h | h
  · exact .inl (Rd.sub s h)
  · exact .inr h
theorem Sub.keep {G H : Hp} {p : Addr} {o : HO} (s : Sub G H) (hn : G p = none) : Sub G (upd H p o) := fun a u e => by
  rw [upd_ne (ne_of_none e hn)]; exact s a u e
theorem Sub.new {H : Hp} {p : Addr} {o : HO} (hn : H p = none) : Sub H (upd H p o) := (Sub.refl H).keep hn
theorem Sub.both {G H : Hp} {p : Addr} {o : HO} (s : Sub G H) : Sub (L2.upd G p o) (L2.upd H p o) := fun a u e => by
  by_cases h : a = p
  · subst h; rw [upd_same] at e ⊢; exact e
  · rw [upd_ne h] at e ⊢; exact s a u e

mutual
theorem RD.mono {c : CT} {G H : Hp} (s : Sub G H) : ∀ (d : D) (v : V), RD c G d v → RD c H d v
  | .non, _, h => by simpa only [RD] using h
  | .bl _, _, h => by simpa only [RD] using h
  | .int _, _, h => by simpa only [RD] using h
  | .str _, _, h => by simpa only [RD] using h
  | .scr ns, v, h => by
    simp only [RD] at h ⊢
    obtain ⟨a, e, h1⟩ := h
    exact ⟨a, e, SqL.sub s h1⟩
  | .tup ds, v, h => by
    simp only [RD] at h ⊢
    obtain ⟨a, vs, e, h1, h2⟩ := h
    exact ⟨a, vs, e, s _ _ h1, RDs.mono s ds vs h2⟩
  | .lst ds, v, h => by
    simp only [RD] at h ⊢
    obtain ⟨a, vs, e, h1, h2⟩ := h
    exact ⟨a, vs, e, s _ _ h1, RDs.mono s ds vs h2⟩
  | .dic ks ds, v, h => by
    simp only [RD] at h ⊢
    obtain ⟨a, e, ⟨kvs, h1, h2, h3⟩ | ⟨kvs, h1, h2, h3⟩⟩ := h
    · exact ⟨a, e, .inl ⟨kvs, s _ _ h1, h2, RDs.mono s ds _ h3⟩⟩
    · exact ⟨a, e, .inr ⟨kvs, s _ _ h1, h2, RDs.mono s ds _ h3⟩⟩
  | .obj n ns ds, v, h => by
    simp only [RD] at h ⊢
    obtain ⟨a, C, dx, vs, e, h0, h1, h2, h3, h4⟩ := h
    exact ⟨a, C, dx, vs, e, h0, s _ _ h1, s _ _ h2, h3, RDs.mono s ds vs h4⟩
theorem RDs.mono {c : CT} {G H : Hp} (s : Sub G H) : ∀ (ds : List D) (vs : List V), RDs c G ds vs → RDs c H ds vs
  | [], _, h => by simpa only [RDs] using h
  | d :: ds, vs, h => by
    simp only [RDs] at h ⊢
    obtain ⟨v, r, e, h1, h2⟩ := h
    exact ⟨v, r, e, RD.mono s d v h1, RDs.mono s ds r h2⟩
end

mutual
theorem RT.stay {c : CT} {G G' H H' : Hp} (s : Sub G G') : ∀ (t : T) (v : V) (F F₂ : FS), (∀ a, F a → F₂ a) → (∀ a o, F a → H a = some o → H' a = some o) → RT c G H t v F → RT c G' H' t v F₂
  | .fr d, v, _, _, _, _, h => by simp only [RT] at h ⊢; exact RD.mono s d v h
  | .lst ts, v, F, F₂, hF, k, h => by
    simp only [RT] at h ⊢
    obtain ⟨a, vs, F', e, h1, h2, h3, h4, h5⟩ := h
    exact ⟨a, vs, F', e, k _ _ h2 h1, hF _ h2, h3, fun b q => hF _ (h4 b q), RTs.stay s ts vs F' F' (fun _ q => q) (fun b o q => k b o (h4 b q)) h5⟩
  | .dic ks ts, v, F, F₂, hF, k, h => by
    simp only [RT] at h ⊢
    obtain ⟨a, F', e, h2, h3, h4, ⟨kvs, h1, h6, h5⟩ | ⟨kvs, h1, h6, h5⟩⟩ := h
    · exact ⟨a, F', e, hF _ h2, h3, fun b q => hF _ (h4 b q), .inl ⟨kvs, k _ _ h2 h1, h6, RTs.stay s ts _ F' F' (fun _ q => q) (fun b o q => k b o (h4 b q)) h5⟩⟩
    · exact ⟨a, F', e, hF _ h2, h3, fun b q => hF _ (h4 b q), .inr ⟨kvs, k _ _ h2 h1, h6, RTs.stay s ts _ F' F' (fun _ q => q) (fun b o q => k b o (h4 b q)) h5⟩⟩
  | .obj n ns ts, v, F, F₂, hF, k, h => by
    simp only [RT] at h ⊢
    obtain ⟨a, C, dx, vs, F', e, h0, h1, h2, h3, h4, h5, h6, h7, h8, h9⟩ := h
    exact ⟨a, C, dx, vs, F', e, h0, k _ _ h3 h1, k _ _ h4 h2, hF _ h3, hF _ h4, h5, h6, fun b q => hF _ (h7 b q), h8, RTs.stay s ts vs F' F' (fun _ q => q) (fun b o q => k b o (h7 b q)) h9⟩
theorem RTs.stay {c : CT} {G G' H H' : Hp} (s : Sub G G') : ∀ (ts : List T) (vs : List V) (F F₂ : FS), (∀ a, F a → F₂ a) → (∀ a o, F a → H a = some o → H' a = some o) → RTs c G H ts vs F → RTs c G' H' ts vs F₂
  | [], _, _, _, _, _, h => by simpa only [RTs] using h
  | t :: ts, vs, F, F₂, hF, k, h => by
    simp only [RTs] at h ⊢
    obtain ⟨v, r, F1, F2, e, h1, h2, h3, h4, h5⟩ := h
    exact ⟨v, r, F1, F2, e, fun b q => hF _ (h1 b q), fun b q => hF _ (h2 b q), h3, RT.stay s t v F1 F1 (fun _ q => q) (fun b o q => k b o (h1 b q)) h4, RTs.stay s ts r F2 F2 (fun _ q => q) (fun b o q => k b o (h2 b q)) h5⟩
end
mutual
/-- what a tree is now -/
theorem RT.now {c : CT} {G H : Hp} (s : Sub G H) : ∀ (t : T) (v : V) (F : FS), RT c G H t v F → RD c H t.d v
  | .fr d, v, _, h => by simp only [RT, T.d] at h ⊢; exact RD.mono s d v h
  | .lst ts, v, F, h => by
    simp only [RT] at h
    simp only [T.d, RD]
    obtain ⟨a, vs, F', e, h1, h2, h3, h4, h5⟩ := h
    exact ⟨a, vs, e, h1, RTs.now s ts vs F' h5⟩
  | .dic ks ts, v, F, h => by
    simp only [RT] at h
    simp only [T.d, RD]
    obtain ⟨a, F', e, h2, h3, h4, ⟨kvs, h1, h6, h5⟩ | ⟨kvs, h1, h6, h5⟩⟩ := h
    · exact ⟨a, e, .inl ⟨kvs, h1, h6, RTs.now s ts _ F' h5⟩⟩
    · exact ⟨a, e, .inr ⟨kvs, h1, h6, RTs.now s ts _ F' h5⟩⟩
  | .obj n ns ts, v, F, h => by
    simp only [RT] at h
    simp only [T.d, RD]
    obtain ⟨a, C, dx, vs, F', e, h0, h1, h2, h3, h4, h5, h6, h7, h8, h9⟩ := h
    exact ⟨a, C, dx, vs, e, h0, h1, h2, h8, RTs.now s ts vs F' h9⟩
theorem RTs.now {c : CT} {G H : Hp} (s : Sub G H) : ∀ (ts : List T) (vs : List V) (F : FS), RTs c G H ts vs F → RDs c H (T.ds ts) vs
  | [], _, _, h => by simp only [RTs] at h; simp only [T.ds, RDs]; exact h
  | t :: ts, vs, F, h => by
    simp only [RTs] at h
    simp only [T.ds, RDs]
    obtain ⟨v, r, F1, F2, e, h1, h2, h3, h4, h5⟩ := h
    exact ⟨v, r, e, RT.now s t v F1 h4, RTs.now s ts r F2 h5⟩
end
/-- G and all of H at F -/
noncomputable def frz (G H : Hp) (F : FS) : Hp := fun a => open Classical in if F a then H a else G a
theorem frz_in {G H : Hp} {F : FS} {a : Addr} (h : F a) : frz G H F a = H a := by unfold frz; rw [if_pos h]
theorem frz_out {G H : Hp} {F : FS} {a : Addr} (h : ¬ F a) : frz G H F a = G a := by unfold frz; rw [if_neg h]
theorem frz_sub {G H : Hp} {F : FS} (s : Sub G H) : Sub (frz G H F) H := fun a o e => by
  by_cases h : F a
  · rw [frz_in h] at e; exact e
  · rw [frz_out h] at e; exact s a o e
theorem sub_frz {G H : Hp} {F : FS} (s : Sub G H) : Sub G (frz G H F) := fun a o e => by
  by_cases h : F a
  · rw [frz_in h]; exact s a o e
  · rw [frz_out h]; exact e
theorem RT.frz {c : CT} {G H : Hp} (s : Sub G H) {t : T} {v : V} {F : FS} (h : RT c G H t v F) : RD c (DL.frz G H F) t.d v :=
  RT.now (Sub.refl _) t v F (RT.stay (sub_frz s) t v F F (fun _ q => q) (fun a o q e => by rw [frz_in q]; exact e) h)
theorem RTs.frz {c : CT} {G H : Hp} (s : Sub G H) {ts : List T} {vs : List V} {F : FS} (h : RTs c G H ts vs F) : RDs c (DL.frz G H F) (T.ds ts) vs :=
  RTs.now (Sub.refl _) ts vs F (RTs.stay (sub_frz s) ts vs F F (fun _ q => q) (fun a o q e => by rw [frz_in q]; exact e) h)

/-! ### a step of the run -/
/-- G: what never changes; F: what the slots own. w: whether something of F may be written -/
structure Step (w : Bool) (G H : Hp) (F : FS) (G' H' : Hp) (F' : FS) : Prop where
  g : Sub G G'
  h : ∀ a o, H a = some o → (w = true → ¬ F a) → H' a = some o
  n : ∀ a o, G' a = some o → G a = some o ∨ H a = none ∨ F a
  f : ∀ a, F' a → F a ∨ H a = none
theorem Step.refl {w : Bool} {G H : Hp} {F : FS} : Step w G H F G H F := ⟨Sub.refl _, fun _ _ e _ => e, fun _ _ e => .inl e, fun _ e => .inl e⟩
theorem Step.mono {w w' : Bool} {G H G' H' : Hp} {F F' : FS} (s : Step w G H F G' H' F') (h : w = true → w' = true) : Step w' G H F G' H' F' :=
  ⟨s.g, fun a o e k => s.h a o e fun q => k (h q), s.n, s.f⟩
theorem Step.up {w : Bool} {G H G' H' : Hp} {F F' : FS} (s : Step w G H F G' H' F') : Step true G H F G' H' F' := s.mono fun _ => rfl
theorem Step.no {w : Bool} {G H G' H' : Hp} {F F' : FS} (s : Step w G H F G' H' F') {a : Addr} (e : H' a = none) : H a = none ∨ F a := by
  cases q : H a with
  | none => exact .inl rfl
  | some o =>
    by_cases hf : F a
    · exact .inr hf
    · rw [s.h a o q fun _ => hf] at e; cases e
theorem Step.no0 {G H G' H' : Hp} {F F' : FS} (s : Step false G H F G' H' F') {a : Addr} (e : H' a = none) : H a = none := by
  cases q : H a with
  | none => rfl
  | some o => rw [s.h a o q fun z => nomatch z] at e; cases e
theorem Step.trans {w w' : Bool} {G H G1 H1 G2 H2 : Hp} {F F1 F2 : FS} (s : Step w G H F G1 H1 F1) (t : Step w' G1 H1 F1 G2 H2 F2) : Step (w || w') G H F G2 H2 F2 := by
  refine ⟨s.g.trans t.g, fun a o e k => ?_, fun a o e => ?_, fun a e => ?_⟩
  · refine t.h a o (s.h a o e fun q => k (by rw [q]; rfl)) fun q h1 => ?_
    rcases s.f a h1 with z | z
    · exact k (by rw [q]; cases w <;> rfl) z
    · rw [e] at z; cases z
  · rcases t.n a o e with z | z | z
    · exact s.n a o z
    · rcases s.no z with z | z
      · exact .inr (.inl z)
      · exact .inr (.inr z)
    · rcases s.f a z with z | z
      · exact .inr (.inr z)
      · exact .inr (.inl z)
  · rcases t.f a e with z | z
    · exact s.f a z
    · rcases s.no z with z | z
      · exact .inr z
      · exact .inl z

/-! ### the slots -/
abbrev Env := List (Option T)
structure Sat (c : CT) (G H : Hp) (σ : St) (ε : Env) (F : FS) : Prop where
  gh : Sub G H
  gf : ∀ a, F a → G a = none
  fd : ∀ a, F a → ∃ o, H a = some o
  len : ε.length = σ.length
  pr : ∀ i v, c.pr i = some v → σ[i]? = some (some v)
  at_ : ∃ Fs : Nat → FS, (∀ i j a, i ≠ j → Fs i a → Fs j a → False) ∧ (∀ i a, Fs i a → F a) ∧ ∀ i t, ε[i]? = some (some t) → ∃ v, σ[i]? = some (some v) ∧ RT c G H t v (Fs i)

/-- a child by its number -/
def T.kid : T → Nat → Option T
  | .fr _, _ => none
  | .lst ts, k => ts[k]?
  | .dic _ ts, k => ts[k]?
  | .obj _ _ ts, k => ts[k]?
def T.setKid : T → Nat → T → T
  | .fr d, _, _ => .fr d
  | .lst ts, k, t => .lst (ts.set k t)
  | .dic ks ts, k, t => .dic ks (ts.set k t)
  | .obj c ns ts, k, t => .obj c ns (ts.set k t)
def T.get : T → List Nat → Option T
  | t, [] => some t
  | t, k :: p => (t.kid k).bind fun u => u.get p
def T.set : T → List Nat → T → T
  | _, [], u => u
  | t, k :: p, u => match t.kid k with
    | some s => t.setKid k (s.set p u)
    | none => t
/-- the k-th value that an object holds -/
def hoKid : HO → Nat → Option V
  | .lst vs, k => vs[k]?
  | .dK kvs, k => (kvs[k]?).map (·.2)
  | .dT kvs, k => (kvs[k]?).map (·.2)
  | .ins _ _ fs, k => (fs[k]?).map (·.2)
  | _, _ => none
/-- the value at a path -/
def VPath (H : Hp) : V → List Nat → V → Prop
  | v, [], u => u = v
  | v, k :: p, u => ∃ a o x, v = .ref a ∧ H a = some o ∧ hoKid o k = some x ∧ VPath H x p u
theorem VPath.sub {H H' : Hp} (s : Sub H H') : ∀ {v : V} {p : List Nat} {u : V}, VPath H v p u → VPath H' v p u
  | _, [], _, h => h
  | _, _ :: _, _, ⟨a, o, x, e, h1, h2, h3⟩ => ⟨a, o, x, e, s _ _ h1, h2, VPath.sub s h3⟩

/-- the value of an expression: data that stays; a tree of its own; a slot's tree, or a part of it -/
inductive Rv where
  | d (d : D) | own (t : T) | at (i : Nat) (p : List Nat)
def RV (c : CT) (G H : Hp) (σ : St) : Rv → V → FS → Prop
  | .d d, v, _ => RD c G d v
  | .own t, v, F => RT c G H t v F
  | .at i p, v, _ => ∃ v0, σ[i]? = some (some v0) ∧ VPath H v0 p v
/-- a tree of its own, beside the slots -/
structure Tmp (H : Hp) (F : FS) (G' H' : Hp) (F' Ft : FS) : Prop where
  dj : ∀ a, Ft a → F' a → False
  g : ∀ a, Ft a → G' a = none
  fd : ∀ a, Ft a → ∃ o, H' a = some o
  n : ∀ a, Ft a → F a ∨ H a = none
def eNo : FS := fun _ => False
theorem Tmp.no {H : Hp} {F : FS} {G' H' : Hp} {F' : FS} : Tmp H F G' H' F' eNo := ⟨fun _ z => z.elim, fun _ z => z.elim, fun _ z => z.elim, fun _ z => z.elim⟩

/-- an exception: its class's name, its fields -/
structure Ex where
  cls : Str
  ns : List Str
  vs : List D
def XR (c : CT) (G : Hp) (x : Ex) (cl : Value) (d : Option Addr) : Prop :=
  ∃ C, c.ca x.cls = some C ∧ cl = .ref C ∧ ((x.ns = [] ∧ x.vs = [] ∧ d = none) ∨ ∃ p vs, d = some p ∧ G p = some (.xd (x.ns.zip vs)) ∧ x.ns.length = vs.length ∧ RDs c G x.vs vs)

abbrev EQ := Rv → Env → Prop
abbrev EXN := Ex → Env → Prop
abbrev ET := Env → EQ → EXN → Prop
abbrev TT' := Env → (Bool → Env → Prop) → EXN → Prop
abbrev WX' := Value → Option Addr → St → Hp → Prop

def Out (c : CT) (w : Bool) (G H : Hp) (σ : St) (F : FS) (Q : EQ) (QH : VK) : Prop :=
  ∀ rv ε' v G' H' F' Ft, Q rv ε' → Step w G H F G' H' F' → Sat c G' H' σ ε' F' → RV c G' H' σ rv v Ft → Tmp H F G' H' F' Ft → QH v H'
def XOut (c : CT) (G H : Hp) (F : FS) (σ : St) (EX : EXN) (W : WX') : Prop :=
  ∀ x ε' G' H' F' cl d, EX x ε' → Step true G H F G' H' F' → Sat c G' H' σ ε' F' → XR c G' x cl d → W cl d σ H'

structure DE (X : Cx) (c : CT) (W : WX') (w : Bool) (e : Expr) (t : ET) : Prop where
  ex : ∃ te, PE X e te ∧ ∀ (G H : Hp) (σ : St) (ε : Env) (F : FS) (Q : EQ) (EX : EXN) (QH : VK), Sat c G H σ ε F → t ε Q EX → Out c w G H σ F Q QH → XOut c G H F σ EX W → te σ H QH
structure DT (X : Cx) (c : CT) (W : WX') (w : Bool) (e : Expr) (t : TT') : Prop where
  ex : ∃ tt, PT X e tt ∧ ∀ (G H : Hp) (σ : St) (ε : Env) (F : FS) (Q : Bool → Env → Prop) (EX : EXN) (QH : Bool → Hp → Prop), Sat c G H σ ε F → t ε Q EX →
    (∀ b ε' G' H' F', Q b ε' → Step w G H F G' H' F' → Sat c G' H' σ ε' F' → QH b H') → XOut c G H F σ EX W → tt σ H QH
end DL

namespace DL
open PySem PySem.Spec L2

theorem VPath.det {H : Hp} : ∀ {v : V} {p : List Nat} {x y : V}, VPath H v p x → VPath H v p y → x = y
  | _, [], _, _, h, k => (show _ = _ from h).trans (show _ = _ from k).symm
  | _, _ :: p, _, _, ⟨a, o, x, e, h1, h2, h3⟩, ⟨b, o', x', e', k1, k2, k3⟩ => by
    subst e
    cases e'
    rw [h1] at k1; cases k1
    rw [h2] at k2; cases k2
    exact VPath.det h3 k3
theorem RTs.len {c : CT} {G H : Hp} : ∀ {ts : List T} {vs : List V} {F : FS}, RTs c G H ts vs F → ts.length = vs.length
  | [], _, _, h => by simp only [RTs] at h; subst h; rfl
  | t :: ts, vs, F, h => by
    simp only [RTs] at h
    obtain ⟨v, r, F1, F2, e, _, _, _, _, h5⟩ := h
    subst e
    simp only [List.length_cons, RTs.len h5]
theorem RDs.len {c : CT} {G : Hp} : ∀ {ds : List D} {vs : List V}, RDs c G ds vs → ds.length = vs.length
  | [], _, h => by simp only [RDs] at h; subst h; rfl
  | t :: ts, vs, h => by
    simp only [RDs] at h
    obtain ⟨v, r, e, _, h5⟩ := h
    subst e
    simp only [List.length_cons, RDs.len h5]
theorem RDs.get {c : CT} {G : Hp} : ∀ {ds : List D} {vs : List V} {k : Nat} {d : D}, RDs c G ds vs → ds[k]? = some d → ∃ v, vs[k]? = some v ∧ RD c G d v
  | [], _, _, _, _, e => by simp at e
  | d :: ds, vs, 0, _, h, e => by
    simp only [RDs] at h
    obtain ⟨v, r, rfl, h1, _⟩ := h
    simp only [List.getElem?_cons_zero, Option.some.injEq] at e
    subst e
    exact ⟨v, rfl, h1⟩
  | d :: ds, vs, k + 1, _, h, e => by
    simp only [RDs] at h
    obtain ⟨v, r, rfl, _, h2⟩ := h
    obtain ⟨x, e1, h3⟩ := RDs.get h2 (by simpa using e)
    exact ⟨x, by simpa using e1, h3⟩
theorem RDs.getV {c : CT} {G : Hp} {ds : List D} {vs : List V} {k : Nat} {v : V} (h : RDs c G ds vs) (e : vs[k]? = some v) : ∃ d, ds[k]? = some d ∧ RD c G d v := by
  have hk : k < ds.length := by rw [h.len]; exact (List.getElem?_eq_some_iff.mp e).1
  obtain ⟨x, e1, h1⟩ := h.get (List.getElem?_eq_getElem hk)
  rw [e] at e1; cases e1
  exact ⟨_, List.getElem?_eq_getElem hk, h1⟩
theorem RDs.app {c : CT} {G : Hp} : ∀ {ds es : List D} {vs us : List V}, RDs c G ds vs → RDs c G es us → RDs c G (ds ++ es) (vs ++ us)
  | [], _, _, _, h, k => by simp only [RDs] at h; subst h; exact k
  | d :: ds, es, vs, us, h, k => by
    simp only [RDs] at h
    obtain ⟨v, r, rfl, h1, h2⟩ := h
    rw [List.cons_append, List.cons_append]
    simp only [RDs]
    exact ⟨v, _, rfl, h1, RDs.app h2 k⟩
theorem RDs.take {c : CT} {G : Hp} : ∀ {ds : List D} {vs : List V} (n : Nat), RDs c G ds vs → RDs c G (ds.take n) (vs.take n)
  | _, _, 0, _ => by simp only [List.take_zero, RDs]
  | [], _, n + 1, h => by simp only [RDs] at h; subst h; simp only [List.take_nil, RDs]
  | d :: ds, vs, n + 1, h => by
    simp only [RDs] at h
    obtain ⟨v, r, rfl, h1, h2⟩ := h
    rw [List.take_succ_cons, List.take_succ_cons]
    simp only [RDs]
    exact ⟨v, _, rfl, h1, RDs.take n h2⟩
theorem RDs.drop {c : CT} {G : Hp} : ∀ {ds : List D} {vs : List V} (n : Nat), RDs c G ds vs → RDs c G (ds.drop n) (vs.drop n)
  | _, _, 0, h => h
  | [], _, n + 1, h => by simp only [RDs] at h; subst h; simp only [List.drop_nil, RDs]
  | d :: ds, vs, n + 1, h => by
    simp only [RDs] at h
    obtain ⟨v, r, rfl, h1, h2⟩ := h
    exact RDs.drop n h2
theorem RDs.rep {c : CT} {G : Hp} {ds : List D} {vs : List V} (h : RDs c G ds vs) : ∀ n : Nat, RDs c G (List.replicate n ds).flatten (List.replicate n vs).flatten
  | 0 => by simp only [List.replicate_zero, List.flatten_nil, RDs]
  | n + 1 => by rw [List.replicate_succ, List.replicate_succ, List.flatten_cons, List.flatten_cons]; exact h.app (RDs.rep h n)
theorem RDs.rev {c : CT} {G : Hp} : ∀ {ds : List D} {vs : List V}, RDs c G ds vs → RDs c G ds.reverse vs.reverse
  | [], _, h => by simp only [RDs] at h; subst h; simp only [List.reverse_nil, RDs]
  | d :: ds, vs, h => by
    simp only [RDs] at h
    obtain ⟨v, r, rfl, h1, h2⟩ := h
    rw [List.reverse_cons, List.reverse_cons]
    refine (RDs.rev h2).app ?_
    simp only [RDs]
    exact ⟨v, [], rfl, h1, rfl⟩
theorem RDs.of {c : CT} {G : Hp} : ∀ {ds : List D} {vs : List V}, ds.length = vs.length → (∀ (k : Nat) (d : D) (v : V), ds[k]? = some d → vs[k]? = some v → RD c G d v) → RDs c G ds vs
  | [], vs, e, _ => by simp only [RDs]; cases vs with | nil => rfl | cons _ _ => simp at e
  | d :: ds, vs, e, h => by
    cases vs with
    | nil => simp at e
    | cons v r =>
      simp only [RDs]
      exact ⟨v, r, rfl, h 0 d v rfl rfl, RDs.of (by simpa using e) fun k d' v' a b => h (k + 1) d' v' (by simpa using a) (by simpa using b)⟩

def fDif (F F' F'' : FS) : FS := fun a => (F a ∧ ¬ F' a) ∨ F'' a
theorem RTs.focus {c : CT} {G H : Hp} : ∀ {ts : List T} {vs : List V} {F : FS} {k : Nat} {s : T}, RTs c G H ts vs F → ts[k]? = some s →
    ∃ x Fk, vs[k]? = some x ∧ RT c G H s x Fk ∧ (∀ a, Fk a → F a) ∧ ∀ (G' H' : Hp) (s' : T) (Fk' : FS), Sub G G' → (∀ a o, F a → ¬ Fk a → H a = some o → H' a = some o) → RT c G' H' s' x Fk' →
      (∀ a, Fk' a → F a → Fk a) → RTs c G' H' (ts.set k s') vs (fDif F Fk Fk')
  | [], _, _, _, _, _, e => by simp at e
  | t :: ts, vs, F, 0, s, h, e => by
    simp only [RTs] at h
    obtain ⟨v, r, F1, F2, rfl, h1, h2, h3, h4, h5⟩ := h
    simp only [List.getElem?_cons_zero, Option.some.injEq] at e
    subst e
    refine ⟨v, F1, rfl, h4, h1, fun G' H' s' Fk' sG kp hs dj => ?_⟩
    rw [List.set_cons_zero]
    simp only [RTs]
    refine ⟨v, r, Fk', F2, rfl, fun b q => .inr q, fun b q => .inl ⟨h2 b q, fun z => h3 b z q⟩, fun b q z => h3 b (dj b q (h2 b z)) z, hs, ?_⟩
    exact RTs.stay sG ts r F2 F2 (fun _ q => q) (fun a o q ee => kp a o (h2 a q) (fun z => h3 a z q) ee) h5
  | t :: ts, vs, F, k + 1, s, h, e => by
    simp only [RTs] at h
    obtain ⟨v, r, F1, F2, rfl, h1, h2, h3, h4, h5⟩ := h
    obtain ⟨x, Fk, e1, g1, g2, g3⟩ := RTs.focus h5 (by simpa using e)
    refine ⟨x, Fk, by simpa using e1, g1, fun a q => h2 a (g2 a q), fun G' H' s' Fk' sG kp hs dj => ?_⟩
    rw [List.set_cons_succ]
    simp only [RTs]
    refine ⟨v, r, F1, fDif F2 Fk Fk', rfl, fun b q => .inl ⟨h1 b q, fun z => h3 b q (g2 b z)⟩, fun b q => ?_, fun b q z => ?_, ?_, ?_⟩
    · rcases q with ⟨q, z⟩ | q
      · exact .inl ⟨h2 b q, z⟩
      · exact .inr q
    · rcases z with ⟨z, _⟩ | z
      · exact h3 b q z
      · exact h3 b q (g2 b (dj b z (h1 b q)))
    · exact RT.stay sG t v F1 F1 (fun _ q => q) (fun a o q ee => kp a o (h1 a q) (fun z => h3 a q (g2 a z)) ee) h4
    · exact g3 G' H' s' Fk' sG (fun a o q z ee => kp a o (h2 a q) z ee) hs fun a q z => dj a q (h2 a z)

/-- one child -/
theorem RT.kid1 {c : CT} {G H : Hp} {t s : T} {v : V} {F : FS} {k : Nat} (h : RT c G H t v F) (e : t.kid k = some s) :
    ∃ a o x Fk, v = .ref a ∧ H a = some o ∧ hoKid o k = some x ∧ RT c G H s x Fk ∧ (∀ b, Fk b → F b) ∧ F a ∧ ¬ Fk a ∧ ∀ (G' H' : Hp) (s' : T) (Fk' : FS), Sub G G' → (∀ a o, F a → ¬ Fk a → H a = some o → H' a = some o) → RT c G' H' s' x Fk' →
      (∀ a, Fk' a → F a → Fk a) → RT c G' H' (t.setKid k s') v (fDif F Fk Fk') := by
  cases t with
  | fr d => cases e
  | lst ts =>
    simp only [RT] at h
    obtain ⟨a, vs, F', rfl, h1, h2, h3, h4, h5⟩ := h
    obtain ⟨x, Fk, e1, g1, g2, g3⟩ := RTs.focus h5 e
    refine ⟨a, _, x, Fk, rfl, h1, e1, g1, fun b q => h4 b (g2 b q), h2, fun z => h3 (g2 a z), fun G' H' s' Fk' sG kp hs dj => ?_⟩
    simp only [T.setKid, RT]
    refine ⟨a, vs, fDif F' Fk Fk', rfl, kp a _ h2 (fun z => h3 (g2 a z)) h1, .inl ⟨h2, fun z => h3 (g2 a z)⟩, fun z => ?_, fun b q => ?_, g3 G' H' s' Fk' sG (fun a o q z ee => kp a o (h4 a q) z ee) hs fun a q z => dj a q (h4 a z)⟩
    · rcases z with ⟨z, _⟩ | z
      · exact h3 z
      · exact h3 (g2 a (dj a z h2))
    · rcases q with ⟨q, z⟩ | q
      · exact .inl ⟨h4 b q, z⟩
      · exact .inr q
  | dic ks ts =>
    simp only [RT] at h
    obtain ⟨a, F', rfl, h2, h3, h4, hh⟩ := h
    have key : ∀ (vs : List V), RTs c G H ts vs F' → ∃ x Fk, vs[k]? = some x ∧ RT c G H s x Fk ∧ (∀ b, Fk b → F b) ∧ ¬ Fk a ∧ ∀ (G' H' : Hp) (s' : T) (Fk' : FS), Sub G G' → (∀ a o, F a → ¬ Fk a → H a = some o → H' a = some o) → RT c G' H' s' x Fk' →
      (∀ a, Fk' a → F a → Fk a) → RTs c G' H' (ts.set k s') vs (fDif F' Fk Fk') ∧ ¬ (fDif F' Fk Fk') a ∧ (∀ b, fDif F' Fk Fk' b → fDif F Fk Fk' b) := fun vs h5 => by
      obtain ⟨x, Fk, e1, g1, g2, g3⟩ := RTs.focus h5 e
      refine ⟨x, Fk, e1, g1, fun b q => h4 b (g2 b q), fun z => h3 (g2 a z), fun G' H' s' Fk' sG kp hs dj => ⟨g3 G' H' s' Fk' sG (fun a o q z ee => kp a o (h4 a q) z ee) hs fun a q z => dj a q (h4 a z), fun z => ?_, fun b q => ?_⟩⟩
      · rcases z with ⟨z, _⟩ | z
        · exact h3 z
        · exact h3 (g2 a (dj a z h2))
      · rcases q with ⟨q, z⟩ | q
        · exact .inl ⟨h4 b q, z⟩
        · exact .inr q
    rcases hh with ⟨kvs, h1, h6, h5⟩ | ⟨kvs, h1, h6, h5⟩
    · obtain ⟨x, Fk, e1, g1, g2, g4, g3⟩ := key _ h5
      refine ⟨a, _, x, Fk, rfl, h1, by simpa [hoKid] using e1, g1, g2, h2, g4, fun G' H' s' Fk' sG kp hs dj => ?_⟩
      obtain ⟨r1, r2, r3⟩ := g3 G' H' s' Fk' sG kp hs dj
      simp only [T.setKid, RT]
      exact ⟨a, fDif F' Fk Fk', rfl, .inl ⟨h2, g4⟩, r2, r3, .inl ⟨kvs, kp a _ h2 g4 h1, h6, r1⟩⟩
    · obtain ⟨x, Fk, e1, g1, g2, g4, g3⟩ := key _ h5
      refine ⟨a, _, x, Fk, rfl, h1, by simpa [hoKid] using e1, g1, g2, h2, g4, fun G' H' s' Fk' sG kp hs dj => ?_⟩
      obtain ⟨r1, r2, r3⟩ := g3 G' H' s' Fk' sG kp hs dj
      simp only [T.setKid, RT]
      exact ⟨a, fDif F' Fk Fk', rfl, .inl ⟨h2, g4⟩, r2, r3, .inr ⟨kvs, kp a _ h2 g4 h1, h6, r1⟩⟩
  | obj n ns ts =>
    simp only [RT] at h
    obtain ⟨a, C, dx, vs, F', rfl, h0, h1, h2, h3, h4, h5, h6, h7, h8, h9⟩ := h
    obtain ⟨x, Fk, e1, g1, g2, g3⟩ := RTs.focus h9 e
    have hk : k < vs.length := (List.getElem?_eq_some_iff.mp e1).1
    have hn : k < ns.length := by omega
    refine ⟨a, _, x, Fk, rfl, h1, ?_, g1, fun b q => h7 b (g2 b q), h3, fun z => h5 (g2 a z), fun G' H' s' Fk' sG kp hs dj => ?_⟩
    · show ((ns.zip vs)[k]?).map (·.2) = some x
      rw [List.getElem?_zip_eq_some (z := (ns[k], x)) |>.mpr ⟨List.getElem?_eq_getElem hn, e1⟩]
      rfl
    simp only [T.setKid, RT]
    refine ⟨a, C, dx, vs, fDif F' Fk Fk', rfl, h0, kp a _ h3 (fun z => h5 (g2 a z)) h1, kp dx _ h4 (fun z => h6 (g2 dx z)) h2, .inl ⟨h3, fun z => h5 (g2 a z)⟩, .inl ⟨h4, fun z => h6 (g2 dx z)⟩, fun z => ?_, fun z => ?_, fun b q => ?_, h8,
      g3 G' H' s' Fk' sG (fun a o q z ee => kp a o (h7 a q) z ee) hs fun a q z => dj a q (h7 a z)⟩
    · rcases z with ⟨z, _⟩ | z
      · exact h5 z
      · exact h5 (g2 a (dj a z h3))
    · rcases z with ⟨z, _⟩ | z
      · exact h6 z
      · exact h6 (g2 dx (dj dx z h4))
    · rcases q with ⟨q, z⟩ | q
      · exact .inl ⟨h7 b q, z⟩
      · exact .inr q
/-- a part of a tree, and what may be put in its place -/
theorem RT.focus {c : CT} {G H : Hp} : ∀ {p : List Nat} {t u : T} {v : V} {F : FS}, RT c G H t v F → t.get p = some u →
    ∃ x Fu, VPath H v p x ∧ RT c G H u x Fu ∧ (∀ b, Fu b → F b) ∧ ∀ (G' H' : Hp) (u' : T) (Fu' : FS), Sub G G' → (∀ a o, F a → ¬ Fu a → H a = some o → H' a = some o) → RT c G' H' u' x Fu' →
      (∀ a, Fu' a → F a → Fu a) → RT c G' H' (t.set p u') v (fDif F Fu Fu')
  | [], t, u, v, F, h, e => by
    simp only [T.get, Option.some.injEq] at e
    subst e
    refine ⟨v, F, rfl, h, fun _ q => q, fun G' H' u' Fu' sG kp hu dj => ?_⟩
    simp only [T.set]
    exact RT.stay (Sub.refl _) u' v Fu' _ (fun a q => .inr q) (fun _ _ _ q => q) hu
  | k :: p, t, u, v, F, h, e => by
    simp only [T.get] at e
    cases ek : t.kid k with
    | none => rw [ek] at e; cases e
    | some s =>
      rw [ek] at e
      obtain ⟨a, o, x, Fk, rfl, h1, h2, h3, h4, h5, h6, h7⟩ := h.kid1 ek
      obtain ⟨y, Fu, g1, g2, g3, g4⟩ := RT.focus (p := p) h3 e
      refine ⟨y, Fu, ⟨a, o, x, rfl, h1, h2, g1⟩, g2, fun b q => h4 b (g3 b q), fun G' H' u' Fu' sG kp hu dj => ?_⟩
      have r := h7 G' H' (s.set p u') (fDif Fk Fu Fu') sG (fun a o q z ee => kp a o q (fun z' => z (g3 a z')) ee) (g4 G' H' u' Fu' sG (fun a o q z ee => kp a o (h4 a q) z ee) hu fun a q z => dj a q (h4 a z)) (fun a q z => by
        rcases q with ⟨q, _⟩ | q
        · exact q
        · exact g3 a (dj a q z))
      simp only [T.set, ek]
      refine RT.stay (Sub.refl _) _ _ _ _ (fun b q => ?_) (fun _ _ _ q => q) r
      rcases q with ⟨q, z⟩ | ⟨q, z⟩ | q
      · exact .inl ⟨q, fun z' => z (g3 b z')⟩
      · exact .inl ⟨h4 b q, z⟩
      · exact .inr q

/-! ### readings of what the slots hold -/
def Env.at : Env → Nat → Option T
  | [], _ => none
  | x :: _, 0 => x
  | _ :: r, n + 1 => Env.at r n
theorem Env.at_some : ∀ {ε : Env} {i : Nat} {t : T}, ε.at i = some t → ε[i]? = some (some t)
  | [], _, _, h => by cases h
  | x :: r, 0, t, h => by
    have e : x = some t := h
    rw [e]; rfl
  | x :: r, n + 1, t, h => by
    have e := Env.at_some (ε := r) (i := n) h
    simpa using e
def Rv.tr (ε : Env) : Rv → Option T
  | .d x => some (.fr x)
  | .own t => some t
  | .at i p => (ε.at i).bind fun t => t.get p
/-- what a value is, now -/
def Rv.vw (ε : Env) (r : Rv) : Option D := (r.tr ε).map T.d
section
variable {c : CT} {G H : Hp} {σ : L2.St} {ε : Env} {F Ft : FS} {v : V}
theorem Sat.part (S : Sat c G H σ ε F) {i : Nat} {t u : T} {p : List Nat} {v0 : V} (h1 : ε.at i = some t) (h2 : t.get p = some u) (h3 : σ[i]? = some (some v0)) (h4 : VPath H v0 p v) : ∃ Fu, RT c G H u v Fu ∧ (∀ a, Fu a → F a) := by
  obtain ⟨Fs, d1, d2, d3⟩ := S.at_
  obtain ⟨v1, e1, r1⟩ := d3 i t (Env.at_some h1)
  rw [h3] at e1; cases e1
  obtain ⟨x, Fu, g1, g2, g3, _⟩ := r1.focus h2
  have := VPath.det h4 g1
  subst this
  exact ⟨Fu, g2, fun a q => d2 i a (g3 a q)⟩
theorem RV.rt (S : Sat c G H σ ε F) {r : Rv} {t : T} (h : RV c G H σ r v Ft) (e : r.tr ε = some t) : ∃ Fu, RT c G H t v Fu := by
  cases r with
  | d d => simp only [Rv.tr, Option.some.injEq] at e; subst e; exact ⟨Ft, by simpa only [RT, RV] using h⟩
  | own u => simp only [Rv.tr, Option.some.injEq] at e; subst e; exact ⟨Ft, by simpa only [RV] using h⟩
  | «at» i p =>
    obtain ⟨v0, h1, h2⟩ := h
    simp only [Rv.tr] at e
    cases q : ε.at i with
    | none => rw [q] at e; cases e
    | some u =>
      rw [q] at e
      obtain ⟨Fu, r, _⟩ := S.part q e h1 h2
      exact ⟨Fu, r⟩
theorem RV.now (S : Sat c G H σ ε F) {r : Rv} {d : D} (h : RV c G H σ r v Ft) (e : r.vw ε = some d) : RD c H d v := by
  unfold Rv.vw at e
  cases q : r.tr ε with
  | none => rw [q] at e; cases e
  | some t =>
    rw [q] at e
    simp only [Option.map_some, Option.some.injEq] at e
    subst e
    obtain ⟨Fu, z⟩ := h.rt S q
    exact z.now S.gh
/-- may be kept while b is run: data and own trees always; a slot; a part of a slot's tree if nothing is written meanwhile -/
def Rv.pend (r : Rv) (w : Bool) : Prop := match r with
  | .at _ (_ :: _) => w = false
  | _ => True
theorem RV.keep {G' H' : Hp} {F' : FS} {w : Bool} {r : Rv} (h : RV c G H σ r v Ft) (s : Step w G H F G' H' F') (pd : r.pend w) (ht : ∀ a, Ft a → F a → False) : RV c G' H' σ r v Ft := by
  cases r with
  | d d => exact RD.mono s.g d v h
  | own t => exact RT.stay s.g t v Ft Ft (fun _ q => q) (fun a o q e => s.h a o e fun _ z => ht a q z) h
  | «at» i p =>
    obtain ⟨v0, h1, h2⟩ := h
    cases p with
    | nil => exact ⟨v0, h1, h2⟩
    | cons k p =>
      obtain rfl : w = false := pd
      exact ⟨v0, h1, h2.sub fun a o e => s.h a o e fun z => nomatch z⟩
/-- a tree of its own is not touched -/
theorem Tmp.keep {H0 G' H' : Hp} {F0 F' : FS} {w : Bool} (t0 : Tmp H0 F0 G H F Ft) (s : Step w G H F G' H' F') : Tmp H0 F0 G' H' F' Ft := by
  refine ⟨fun a h1 h2 => ?_, fun a h1 => ?_, fun a h1 => ?_, t0.n⟩
  · rcases s.f a h2 with z | z
    · exact t0.dj a h1 z
    · obtain ⟨o, e⟩ := t0.fd a h1
      rw [e] at z; cases z
  · cases q : G' a with
    | none => rfl
    | some o =>
      rcases s.n a o q with z | z | z
      · rw [t0.g a h1] at z; cases z
      · obtain ⟨o, e⟩ := t0.fd a h1
        rw [e] at z; cases z
      · exact (t0.dj a h1 z).elim
  · obtain ⟨o, e⟩ := t0.fd a h1
    exact ⟨o, s.h a o e fun _ z => t0.dj a h1 z⟩
/-- the step ahead of it -/
theorem Tmp.pre {H0 G0 G' H' : Hp} {F0 F' : FS} {w : Bool} (s : Step w G0 H0 F0 G H F) (t : Tmp H F G' H' F' Ft) : Tmp H0 F0 G' H' F' Ft := by
  refine ⟨t.dj, t.g, t.fd, fun a h1 => ?_⟩
  rcases t.n a h1 with z | z
  · exact s.f a z
  · rcases s.no z with z | z
    · exact .inr z
    · exact .inl z
end
end DL

namespace DL
open PySem PySem.Spec L2

section
variable {c : CT} {G H G' H' G0 H0 : Hp} {σ : L2.St} {ε ε' : Env} {F F' F0 Ft : FS} {v : V} {w w' : Bool} {EX : EXN} {W : WX'}
theorem XOut.step (x : XOut c G H F σ EX W) (s : Step w G H F G' H' F') : XOut c G' H' F' σ EX W := fun e ε1 G1 H1 F1 cl d q s1 S r => x e ε1 G1 H1 F1 cl d q ((s.up.trans s1).mono fun _ => rfl) S r
theorem Sat.grow {p : Addr} {o : HO} (S : Sat c G H σ ε F) (hn : H p = none) : Sat c (upd G p o) (upd H p o) σ ε F := by
  have hF : ∀ a, F a → a ≠ p := fun a q e => by
    obtain ⟨u, z⟩ := S.fd a q
    rw [e, hn] at z; cases z
  refine ⟨S.gh.both, fun a q => by rw [upd_ne (hF a q)]; exact S.gf a q, fun a q => ?_, S.len, S.pr, ?_⟩
  · obtain ⟨u, z⟩ := S.fd a q
    exact ⟨u, by rw [upd_ne (hF a q)]; exact z⟩
  · obtain ⟨Fs, d1, d2, d3⟩ := S.at_
    refine ⟨Fs, d1, d2, fun i t e => ?_⟩
    obtain ⟨v, e1, r⟩ := d3 i t e
    exact ⟨v, e1, r.stay (Sub.new (S.gh.no hn)) t v (Fs i) _ (fun _ q => q) fun a o q e => Sub.new hn a o e⟩
theorem Sat.growH {p : Addr} {o : HO} (S : Sat c G H σ ε F) (hn : H p = none) : Sat c G (upd H p o) σ ε F := by
  have hF : ∀ a, F a → a ≠ p := fun a q e => by
    obtain ⟨u, z⟩ := S.fd a q
    rw [e, hn] at z; cases z
  refine ⟨S.gh.keep (S.gh.no hn), S.gf, fun a q => ?_, S.len, S.pr, ?_⟩
  · obtain ⟨u, z⟩ := S.fd a q
    exact ⟨u, by rw [upd_ne (hF a q)]; exact z⟩
  · obtain ⟨Fs, d1, d2, d3⟩ := S.at_
    refine ⟨Fs, d1, d2, fun i t e => ?_⟩
    obtain ⟨v, e1, r⟩ := d3 i t e
    exact ⟨v, e1, r.stay (Sub.refl _) t v (Fs i) _ (fun _ q => q) fun a o q e => Sub.new hn a o e⟩
theorem Step.grow {p : Addr} {o : HO} (hn : H p = none) (S : Sub G H) : Step false G H F (upd G p o) (upd H p o) F :=
  ⟨Sub.new (S.no hn), fun a u e _ => Sub.new hn a u e, fun a u e => by
    by_cases h : a = p
    · subst h; exact .inr (.inl hn)
    · rw [upd_ne h] at e; exact .inl e, fun a q => .inl q⟩
theorem Step.growH {p : Addr} {o : HO} (hn : H p = none) : Step false G H F G (upd H p o) F :=
  ⟨Sub.refl _, fun a u e _ => Sub.new hn a u e, fun a u e => .inl e, fun a q => .inl q⟩
theorem Step.then0 (s : Step w G0 H0 F0 G H F) (t : Step false G H F G' H' F') : Step w G0 H0 F0 G' H' F' := (s.trans t).mono fun q => by simpa using q

/-! ### freezing -/
theorem Tmp.step (t : Tmp H0 F0 G H F Ft) (s : Step w G0 H0 F0 G H F) : Step w G0 H0 F0 (frz G H Ft) H F :=
  ⟨fun a o e => by
    by_cases h : Ft a
    · rw [frz_in h]
      have := s.g a o e
      rw [t.g a h] at this; cases this
    · rw [frz_out h]; exact s.g a o e, s.h, fun a o e => by
    by_cases h : Ft a
    · rcases t.n a h with z | z
      · exact .inr (.inr z)
      · exact .inr (.inl z)
    · rw [frz_out h] at e; exact s.n a o e, s.f⟩
theorem Sat.frzT (S : Sat c G H σ ε F) (dj : ∀ a, Ft a → F a → False) : Sat c (frz G H Ft) H σ ε F := by
  refine ⟨frz_sub S.gh, fun a q => by rw [frz_out fun z => dj a z q]; exact S.gf a q, S.fd, S.len, S.pr, ?_⟩
  obtain ⟨Fs, d1, d2, d3⟩ := S.at_
  refine ⟨Fs, d1, d2, fun i t e => ?_⟩
  obtain ⟨v, e1, r⟩ := d3 i t e
  exact ⟨v, e1, r.stay (sub_frz S.gh) t v (Fs i) _ (fun _ q => q) fun a o q e => e⟩
/-- a part of slot i's tree is replaced: the heap changes at Fu alone -/
theorem Sat.put (S : Sat c G H σ ε F) {i : Nat} {t u u' : T} {p : List Nat} {v0 x : V} (h1 : ε.at i = some t) (h2 : t.get p = some u) (h3 : σ[i]? = some (some v0)) (h4 : VPath H v0 p x)
    : ∃ Fu : FS, RT c G H u x Fu ∧ (∀ a, Fu a → F a) ∧ ∀ (G' H' : Hp) (u' : T) (Fu' : FS), Sub G G' → Sub G' H' → (∀ a o, H a = some o → ¬ Fu a → H' a = some o) → (∀ a, F a → ¬ Fu a → G' a = none) → RT c G' H' u' x Fu' →
      (∀ a, Fu' a → F a → Fu a) → (∀ a, Fu' a → G' a = none) → (∀ a, Fu' a → ∃ o, H' a = some o) → Sat c G' H' σ (ε.set i (some (t.set p u'))) (fDif F Fu Fu') := by
  obtain ⟨Fs, d1, d2, d3⟩ := S.at_
  obtain ⟨v1, e1, r1⟩ := d3 i t (Env.at_some h1)
  rw [h3] at e1; cases e1
  obtain ⟨y, Fu, g1, g2, g3, g4⟩ := r1.focus h2
  have := VPath.det h4 g1
  subst this
  refine ⟨Fu, g2, fun a q => d2 i a (g3 a q), fun G' H' u' Fu' sG sGH kp gn hu dj ug ud => ?_⟩
  have hi : i < ε.length := (List.getElem?_eq_some_iff.mp (Env.at_some h1)).1
  refine ⟨sGH, fun a q => ?_, fun a q => ?_, by rw [List.length_set]; exact S.len, S.pr, fun j => if j = i then fDif (Fs i) Fu Fu' else Fs j, fun j k a hjk q z => ?_, fun j a q => ?_, fun j s e => ?_⟩
  · rcases q with ⟨q, z⟩ | q
    · exact gn a q z
    · exact ug a q
  · rcases q with ⟨q, z⟩ | q
    · obtain ⟨o, e⟩ := S.fd a q
      exact ⟨o, kp a o e z⟩
    · exact ud a q
  · have key : ∀ m, m ≠ i → Fs m a → fDif (Fs i) Fu Fu' a → False := fun m hm q z => by
      rcases z with ⟨z, _⟩ | z
      · exact d1 m i a hm q z
      · exact d1 m i a hm q (g3 a (dj a z (d2 m a q)))
    by_cases hj : j = i
    · by_cases hk : k = i
      · exact hjk (hj.trans hk.symm)
      · simp only [hj, if_true, hk, if_false] at q z
        exact key k hk z q
    · by_cases hk : k = i
      · simp only [hj, if_false, hk, if_true] at q z
        exact key j hj q z
      · simp only [hj, hk, if_false] at q z
        exact d1 j k a hjk q z
  · by_cases hj : j = i
    · simp only [hj, if_true] at q
      rcases q with ⟨q, z⟩ | q
      · exact .inl ⟨d2 i a q, z⟩
      · exact .inr q
    · simp only [hj, if_false] at q
      exact .inl ⟨d2 j a q, fun z => d1 j i a hj q (g3 a z)⟩
  · by_cases hj : j = i
    · subst hj
      rw [List.getElem?_set_self hi] at e
      simp only [Option.some.injEq] at e
      subst e
      simp only [if_true]
      exact ⟨v0, h3, g4 G' H' u' Fu' sG (fun a o q z ee => kp a o ee z) hu fun a q z => dj a q (d2 j a z)⟩
    · rw [List.getElem?_set_ne (Ne.symm hj)] at e
      simp only [hj, if_false]
      obtain ⟨v, e1, r⟩ := d3 j s e
      exact ⟨v, e1, r.stay sG s v (Fs j) _ (fun _ q => q) fun a o q ee => kp a o ee fun z => d1 j i a hj q (g3 a z)⟩
/-- freeze a value -/
def Rv.fz (ε : Env) : Rv → Option (D × Env)
  | .d x => some (x, ε)
  | .own t => some (t.d, ε)
  | .at i p => (ε.at i).bind fun t => (t.get p).map fun u => (u.d, ε.set i (some (t.set p (.fr u.d))))
theorem RV.fz (S : Sat c G H σ ε F) {r : Rv} {d : D} (h : RV c G H σ r v Ft) (dj : ∀ a, Ft a → F a → False) (hg : ∀ a, Ft a → G a = none) (e : r.fz ε = some (d, ε')) :
    ∃ G' F', Sub G G' ∧ (∀ a o, G' a = some o → G a = some o ∨ F a ∨ Ft a) ∧ (∀ a, F' a → F a) ∧ Sat c G' H σ ε' F' ∧ RD c G' d v := by
  cases r with
  | d x =>
    simp only [Rv.fz, Option.some.injEq, Prod.mk.injEq] at e
    obtain ⟨rfl, rfl⟩ := e
    exact ⟨G, F, Sub.refl _, fun a o q => .inl q, fun _ q => q, S, h⟩
  | own t =>
    simp only [Rv.fz, Option.some.injEq, Prod.mk.injEq] at e
    obtain ⟨rfl, rfl⟩ := e
    refine ⟨frz G H Ft, F, sub_frz S.gh, fun a o q => ?_, fun _ q => q, S.frzT dj, RT.frz S.gh h⟩
    by_cases z : Ft a
    · exact .inr (.inr z)
    · rw [frz_out z] at q; exact .inl q
  | «at» i p =>
    obtain ⟨v0, h1, h2⟩ := h
    simp only [Rv.fz] at e
    cases q : ε.at i with
    | none => rw [q] at e; cases e
    | some t =>
      rw [q] at e
      cases q2 : t.get p with
      | none => simp only [Option.bind_some, q2, Option.map_none] at e; cases e
      | some u =>
        simp only [Option.bind_some, q2, Option.map_some, Option.some.injEq, Prod.mk.injEq] at e
        obtain ⟨rfl, rfl⟩ := e
        obtain ⟨Fu, g1, g2, g3⟩ := S.put (u' := u) q q2 h1 h2
        refine ⟨frz G H Fu, fDif F Fu eNo, sub_frz S.gh, fun a o z => ?_, fun a z => ?_, g3 _ H (.fr u.d) eNo (sub_frz S.gh) (frz_sub S.gh) (fun a o e _ => e) (fun a z1 z2 => by rw [frz_out z2]; exact S.gf a z1) (by simp only [RT]; exact RT.frz S.gh g1) (fun _ z => z.elim) (fun _ z => z.elim) (fun _ z => z.elim), RT.frz S.gh g1⟩
        · by_cases z' : Fu a
          · exact .inr (.inl (g2 a z'))
          · rw [frz_out z'] at z; exact .inl z
        · rcases z with ⟨z, _⟩ | z
          · exact z
          · exact z.elim
/-- .. behind a step -/
theorem RV.fzS (s : Step w G0 H0 F0 G H F) (S : Sat c G H σ ε F) {r : Rv} {d : D} (h : RV c G H σ r v Ft) (tm : Tmp H0 F0 G H F Ft) (e : r.fz ε = some (d, ε')) :
    ∃ G' F', Step w G0 H0 F0 G' H F' ∧ Sub G G' ∧ (∀ a o, G' a = some o → G a = some o ∨ F a ∨ Ft a) ∧ (∀ a, F' a → F a) ∧ Sat c G' H σ ε' F' ∧ RD c G' d v := by
  obtain ⟨G', F', h1, h2, h3, h4, h5⟩ := h.fz S tm.dj tm.g e
  refine ⟨G', F', ⟨s.g.trans h1, s.h, fun a o q => ?_, fun a q => s.f a (h3 a q)⟩, h1, h2, h3, h4, h5⟩
  rcases h2 a o q with z | z | z
  · exact s.n a o z
  · rcases s.f a z with k | k
    · exact .inr (.inr k)
    · exact .inr (.inl k)
  · rcases tm.n a z with k | k
    · exact .inr (.inr k)
    · exact .inr (.inl k)
end

/-! ### several values -/
def RVs (c : CT) (G H : Hp) (σ : L2.St) : List Rv → List V → FS → Prop
  | [], vs, _ => vs = []
  | r :: rs, vs, F => ∃ v us F1 F2, vs = v :: us ∧ (∀ b, F1 b → F b) ∧ (∀ b, F2 b → F b) ∧ (∀ b, F1 b → F2 b → False) ∧ RV c G H σ r v F1 ∧ RVs c G H σ rs us F2
/-- their trees: what is a slot's is frozen -/
def owns : List Rv → Env → Option (List T × Env)
  | [], ε => some ([], ε)
  | .own t :: rs, ε => (owns rs ε).map fun q => (t :: q.1, q.2)
  | r :: rs, ε => (r.fz ε).bind fun q => (owns rs q.2).map fun q2 => (.fr q.1 :: q2.1, q2.2)
section
variable {c : CT} {G H G' H' G0 H0 : Hp} {σ : L2.St} {ε ε' : Env} {F F' F0 Ft : FS} {v : V} {w w' : Bool} {EX : EXN} {W : WX'}
theorem RV.sub (r : Rv) (h : RV c G H σ r v Ft) (s : Sub G G') : RV c G' H σ r v Ft := by
  cases r with
  | d x => exact RD.mono s x v h
  | own t => exact RT.stay s t v Ft Ft (fun _ q => q) (fun a o q e => e) h
  | «at» i p => exact h
theorem RVs.sub : ∀ {rs : List Rv} {vs : List V} {Ft : FS}, RVs c G H σ rs vs Ft → Sub G G' → RVs c G' H σ rs vs Ft
  | [], _, _, h, _ => h
  | r :: rs, vs, Ft, ⟨v, us, F1, F2, e, h1, h2, h3, h4, h5⟩, s => ⟨v, us, F1, F2, e, h1, h2, h3, h4.sub r s, RVs.sub h5 s⟩
theorem RVs.toT : ∀ {rs : List Rv} {vs : List V} {Ft : FS} {G : Hp} {ε ε' : Env} {F : FS} {ts : List T}, Sat c G H σ ε F → RVs c G H σ rs vs Ft → (∀ a, Ft a → F a → False) → (∀ a, Ft a → G a = none) → owns rs ε = some (ts, ε') →
    ∃ G' F', Sub G G' ∧ (∀ a o, G' a = some o → G a = some o ∨ F a) ∧ (∀ a, F' a → F a) ∧ Sat c G' H σ ε' F' ∧ RTs c G' H ts vs Ft
  | [], vs, Ft, G, ε, ε', F, ts, S, h, dj, hg, e => by
    simp only [DL.owns, Option.some.injEq, Prod.mk.injEq] at e
    obtain ⟨rfl, rfl⟩ := e
    exact ⟨G, F, Sub.refl _, fun a o q => .inl q, fun _ q => q, S, by simpa only [RTs, RVs] using h⟩
  | .own t :: rs, vs, Ft, G, ε, ε', F, ts, S, ⟨v, us, F1, F2, e0, h1, h2, h3, h4, h5⟩, dj, hg, e => by
    simp only [DL.owns] at e
    cases q : DL.owns rs ε with
    | none => rw [q] at e; cases e
    | some z =>
      obtain ⟨us', ε2⟩ := z
      rw [q] at e
      simp only [Option.map_some, Option.some.injEq, Prod.mk.injEq] at e
      obtain ⟨rfl, rfl⟩ := e
      obtain ⟨G', F', g1, g2, g3, g4, g5⟩ := RVs.toT S h5 (fun a q => dj a (h2 a q)) (fun a q => hg a (h2 a q)) q
      refine ⟨G', F', g1, g2, g3, g4, ?_⟩
      simp only [RTs]
      exact ⟨v, us, F1, F2, e0, h1, h2, h3, RT.stay g1 t v F1 F1 (fun _ q => q) (fun a o q e => e) h4, g5⟩
  | .d x :: rs, vs, Ft, G, ε, ε', F, ts, S, ⟨v, us, F1, F2, e0, h1, h2, h3, h4, h5⟩, dj, hg, e => by
    simp only [DL.owns, Rv.fz, Option.bind_some] at e
    cases q : DL.owns rs ε with
    | none => rw [q] at e; cases e
    | some z =>
      obtain ⟨us', ε2⟩ := z
      rw [q] at e
      simp only [Option.map_some, Option.some.injEq, Prod.mk.injEq] at e
      obtain ⟨rfl, rfl⟩ := e
      obtain ⟨G', F', g1, g2, g3, g4, g5⟩ := RVs.toT S h5 (fun a q => dj a (h2 a q)) (fun a q => hg a (h2 a q)) q
      refine ⟨G', F', g1, g2, g3, g4, ?_⟩
      simp only [RTs, RT]
      exact ⟨v, us, F1, F2, e0, h1, h2, h3, RD.mono g1 x v h4, g5⟩
  | .at i p :: rs, vs, Ft, G, ε, ε', F, ts, S, ⟨v, us, F1, F2, e0, h1, h2, h3, h4, h5⟩, dj, hg, e => by
    simp only [DL.owns] at e
    cases q0 : Rv.fz ε (.at i p) with
    | none => rw [q0] at e; cases e
    | some z0 =>
      obtain ⟨x, ε1⟩ := z0
      rw [q0] at e
      simp only [Option.bind_some] at e
      cases q : DL.owns rs ε1 with
      | none => rw [q] at e; cases e
      | some z =>
        obtain ⟨us', ε2⟩ := z
        rw [q] at e
        simp only [Option.map_some, Option.some.injEq, Prod.mk.injEq] at e
        obtain ⟨rfl, rfl⟩ := e
        obtain ⟨G1, F1', k1, k2, k3, k4, k5⟩ := RV.fz (Ft := eNo) S h4 (fun _ z => z.elim) (fun _ z => z.elim) q0
        obtain ⟨G', F', g1, g2, g3, g4, g5⟩ := RVs.toT k4 (RVs.sub h5 k1) (fun a q z => dj a (h2 a q) (k3 a z)) (fun a q => by
          cases z : G1 a with
          | none => rfl
          | some o =>
            rcases k2 a o z with z | z | z
            · rw [hg a (h2 a q)] at z; cases z
            · exact (dj a (h2 a q) z).elim
            · exact z.elim) q
        refine ⟨G', F', k1.trans g1, fun a o z => ?_, fun a z => k3 a (g3 a z), g4, ?_⟩
        · rcases g2 a o z with z | z
          · rcases k2 a o z with z | z | z
            · exact .inl z
            · exact .inr z
            · exact z.elim
          · exact .inr (k3 a z)
        · simp only [RTs, RT]
          exact ⟨v, us, F1, F2, e0, h1, h2, h3, RD.mono g1 x v k5, g5⟩
end
end DL

namespace DL
open PySem PySem.Spec L2

abbrev AT := Env → (List Rv → Env → Prop) → EXN → Prop
structure DA (X : Cx) (c : CT) (W : WX') (w : Bool) (es : List Expr) (t : AT) : Prop where
  ex : ∃ ta, PA X es ta ∧ ∀ (G H : Hp) (σ : L2.St) (ε : Env) (F : FS) (Q : List Rv → Env → Prop) (EX : EXN) (QH : List V → Hp → Prop), Sat c G H σ ε F → t ε Q EX →
    (∀ rs ε' vs G' H' F' Ft, Q rs ε' → Step w G H F G' H' F' → Sat c G' H' σ ε' F' → RVs c G' H' σ rs vs Ft → Tmp H F G' H' F' Ft → QH vs H') → XOut c G H F σ EX W → ta σ H QH

section
variable {X : Cx} {c : CT} {W : WX'} {w wa wb wc : Bool} {a b e : Expr} {ta tb : ET} {pos : Pos}

/-! ### names, constants -/
def tVr (i : Nat) : ET := fun ε Q _ => match ε.at i with
  | some (.fr d) => Q (.d d) ε
  | some _ => Q (.at i []) ε
  | none => False
theorem de_var {i : Nat} {x : Str} {pos : Pos} (hp : PE X (.Name x pos) (tVar i)) : DE X c W false (.Name x pos) (tVr i) := by
  refine ⟨_, hp, fun G H σ ε F Q EX QH S h o _ => ?_⟩
  unfold tVr at h
  obtain ⟨Fs, d1, d2, d3⟩ := id S.at_
  cases q : ε.at i with
  | none => rw [q] at h; exact h.elim
  | some t =>
    rw [q] at h
    obtain ⟨v, e1, r⟩ := d3 i t (Env.at_some q)
    refine ⟨v, e1, ?_⟩
    cases t with
    | fr d => exact o _ _ v G H F eNo h Step.refl S (by simpa only [RT, RV] using r) Tmp.no
    | lst ts => exact o _ _ v G H F eNo h Step.refl S ⟨v, e1, rfl⟩ Tmp.no
    | dic ks ts => exact o _ _ v G H F eNo h Step.refl S ⟨v, e1, rfl⟩ Tmp.no
    | obj n ns ts => exact o _ _ v G H F eNo h Step.refl S ⟨v, e1, rfl⟩ Tmp.no
def tK (d : D) : ET := fun ε Q _ => Q (.d d) ε
/-- a scalar's value -/
def scV : D → Option V
  | .non => some .non
  | .bl b => some (.bl b)
  | .int i => some (.int i)
  | .str x => some (.str x)
  | _ => none
theorem scV_rd {G : Hp} {d : D} {v : V} (h : scV d = some v) : RD c G d v := by
  cases d <;> simp only [scV, Option.some.injEq, reduceCtorEq] at h <;> (subst h; simp only [RD])
theorem rd_sc {G : Hp} {d : D} {v : V} (h : RD c G d v) {u : V} (e : scV d = some u) : v = u := by
  cases d <;> simp only [scV, Option.some.injEq, reduceCtorEq] at e <;> (subst e; simpa only [RD] using h)
theorem de_c {d : D} {v : V} (h : PE X e (tC v)) (hs : scV d = some v) : DE X c W false e (tK d) :=
  ⟨_, h, fun G H σ ε F Q EX QH S q o _ => o _ _ v G H F eNo q Step.refl S (scV_rd hs) Tmp.no⟩
theorem de_int {i : Int} {j pos} : DE X c W false (.Constant (.int i) j pos) (tK (.int i)) := de_c pe_int rfl
theorem de_bl {b : Bool} {j pos} : DE X c W false (.Constant (.bool b) j pos) (tK (.bl b)) := de_c pe_bl rfl
theorem de_non {j pos} : DE X c W false (.Constant .none j pos) (tK .non) := de_c pe_non rfl
theorem de_str {x : Str} {j pos} : DE X c W false (.Constant (.str x) j pos) (tK (.str x)) := de_c pe_str rfl

/-! ### one, two values -/
/-- what a value does: all but the last step -/
theorem one (ha : DE X c W wa a ta) : ∃ tea, PE X a tea ∧ ∀ (G H : Hp) (σ : L2.St) (ε : Env) (F : FS) (Q : EQ) (EX : EXN) (QH : VK), Sat c G H σ ε F → ta ε Q EX → XOut c G H F σ EX W →
    (∀ ra ε' x G' H' F' Fa, Q ra ε' → Step wa G H F G' H' F' → Sat c G' H' σ ε' F' → RV c G' H' σ ra x Fa → Tmp H F G' H' F' Fa → XOut c G' H' F' σ EX W → QH x H') → tea σ H QH := by
  obtain ⟨tea, pa, ra⟩ := ha
  refine ⟨tea, pa, fun G H σ ε F Q EX QH S h xo k => ra G H σ ε F Q EX QH S h (fun rv ε' v G' H' F' Ft q s S' r t => k rv ε' v G' H' F' Ft q s S' r t (xo.step s)) xo⟩
def t2 (wb : Bool) (ta tb : ET) (k : Rv → Rv → Env → Prop) (EX : EXN) : Env → Prop := fun ε => ta ε (fun ra ε1 => ra.pend wb ∧ tb ε1 (fun rb ε2 => k ra rb ε2) EX) EX
theorem two (ha : DE X c W wa a ta) (hb : DE X c W wb b tb) : ∃ tea teb, PE X a tea ∧ PE X b teb ∧ ∀ (G H : Hp) (σ : L2.St) (ε : Env) (F : FS) (k : Rv → Rv → Env → Prop) (EX : EXN) (QH : V → V → Hp → Prop), Sat c G H σ ε F → t2 wb ta tb k EX ε → XOut c G H F σ EX W →
    (∀ ra rb ε' x y G' H' F' Fa Fb, k ra rb ε' → Step (wa || wb) G H F G' H' F' → Sat c G' H' σ ε' F' → RV c G' H' σ ra x Fa → RV c G' H' σ rb y Fb → Tmp H F G' H' F' Fa → Tmp H F G' H' F' Fb → (∀ z, Fa z → Fb z → False) → XOut c G' H' F' σ EX W → QH x y H') →
    tea σ H (fun x H1 => teb σ H1 (fun y H2 => QH x y H2)) := by
  obtain ⟨tea, pa, ra⟩ := one ha
  obtain ⟨teb, pb, rb⟩ := one hb
  refine ⟨tea, teb, pa, pb, fun G H σ ε F k EX QH S h xo q => ?_⟩
  refine ra G H σ ε F _ EX _ S h xo fun r1 ε1 x G1 H1 F1 Fa ⟨pd, h1⟩ s1 S1 v1 t1 xo1 => ?_
  refine rb G1 H1 σ ε1 F1 _ EX _ S1 h1 xo1 fun r2 ε2 y G2 H2 F2 Fb h2 s2 S2 v2 t2' xo2 => ?_
  refine q r1 r2 ε2 x y G2 H2 F2 Fa Fb h2 (s1.trans s2) S2 (v1.keep s2 pd t1.dj) v2 (t1.keep s2) (t2'.pre s1) (fun z z1 z2 => ?_) xo2
  rcases t2'.n z z2 with z3 | z3
  · exact t1.dj z z1 z3
  · obtain ⟨o, e⟩ := t1.fd z z1
    rw [e] at z3; cases z3

/-- a scalar from one value -/
def tV1 (R : D → D → Prop) (ta : ET) : ET := fun ε Q EX => ta ε (fun ra ε1 => ∃ dx d, ra.vw ε1 = some dx ∧ R dx d ∧ Q (.d d) ε1) EX
def tV2 (R : D → D → D → Prop) (wb : Bool) (ta tb : ET) : ET := fun ε Q EX => t2 wb ta tb (fun ra rb ε2 => ∃ dx dy d, ra.vw ε2 = some dx ∧ rb.vw ε2 = some dy ∧ R dx dy d ∧ Q (.d d) ε2) EX ε
/-- r does R -/
def Does1 (c : CT) (r : V → Hp → VK → Prop) (R : D → D → Prop) : Prop := ∀ H x dx d, RD c H dx x → R dx d → ∃ v, scV d = some v ∧ ∀ Q : VK, Q v H → r x H Q
def Does2 (c : CT) (r : R2) (R : D → D → D → Prop) : Prop := ∀ H x y dx dy d, RD c H dx x → RD c H dy y → R dx dy d → ∃ v, scV d = some v ∧ ∀ Q : VK, Q v H → r x y H Q
theorem de_un {op : UnaryOp} {r : V → Hp → VK → Prop} {R : D → D → Prop} (ho : UnR X (unaryOp op) r) (hr : Does1 c r R) (ha : DE X c W wa a ta) : DE X c W wa (.UnaryOp op a pos) (tV1 R ta) := by
  obtain ⟨tea, pa, ra⟩ := one ha
  refine ⟨_, pe_un ho pa, fun G H σ ε F Q EX QH S h o xo => ?_⟩
  refine ra G H σ ε F _ EX _ S h xo fun r1 ε1 x G1 H1 F1 Fa ⟨dx, d, e1, e2, q⟩ s1 S1 v1 t1 _ => ?_
  obtain ⟨v, e3, k⟩ := hr H1 x dx d (v1.now S1 e1) e2
  exact k _ (o _ _ v G1 H1 F1 eNo q s1 S1 (scV_rd e3) Tmp.no)
theorem v2_core {R : D → D → D → Prop} {r : R2} (hr : Does2 c r R) (ha : DE X c W wa a ta) (hb : DE X c W wb b tb) :
    ∃ tea teb, PE X a tea ∧ PE X b teb ∧ ∀ (G H : Hp) (σ : L2.St) (ε : Env) (F : FS) (Q : EQ) (EX : EXN) (QH : VK), Sat c G H σ ε F → tV2 R wb ta tb ε Q EX → Out c (wa || wb) G H σ F Q QH → XOut c G H F σ EX W →
      tea σ H (fun x H1 => teb σ H1 (fun y H2 => r x y H2 QH)) := by
  obtain ⟨tea, teb, pa, pb, k⟩ := two ha hb
  refine ⟨tea, teb, pa, pb, fun G H σ ε F Q EX QH S h o xo => ?_⟩
  refine k G H σ ε F _ EX _ S h xo fun r1 r2 ε2 x y G2 H2 F2 Fa Fb ⟨dx, dy, d, e1, e2, e3, q⟩ s S2 v1 v2 _ _ _ _ => ?_
  obtain ⟨v, e4, k⟩ := hr H2 x y dx dy d (v1.now S2 e1) (v2.now S2 e2) e3
  exact k _ (o _ _ v G2 H2 F2 eNo q s S2 (scV_rd e4) Tmp.no)
theorem de_op {op : Operator} {r : R2} {R : D → D → D → Prop} (ho : OpR X (binaryOp op) r) (hr : Does2 c r R) (ha : DE X c W wa a ta) (hb : DE X c W wb b tb) : DE X c W (wa || wb) (.BinOp a op b pos) (tV2 R wb ta tb) := by
  obtain ⟨tea, teb, pa, pb, k⟩ := v2_core hr ha hb
  exact ⟨_, pe_op ho pa pb, k⟩
theorem de_cmp {op : CmpOp} {r : R2} {R : D → D → D → Prop} (ho : OpR X (compareOp op) r) (hr : Does2 c r R) (ha : DE X c W wa a ta) (hb : DE X c W wb b tb) (hm : behindInMarks op b = false) : DE X c W (wa || wb) (.Compare a [op] [b] pos) (tV2 R wb ta tb) := by
  obtain ⟨tea, teb, pa, pb, k⟩ := v2_core hr ha hb
  exact ⟨_, pe_cmpR ho pa pb hm, k⟩
/-- a value that is True or False, as a test -/
def tTs (t : ET) : TT' := fun ε Q EX => t ε (fun r ε1 => ∃ b, r = .d (.bl b) ∧ Q b ε1) EX
theorem dt_cmp {op : CmpOp} {r : R2} {R : D → D → D → Prop} (ho : OpR X (compareOp op) r) (hr : Does2 c r R) (ha : DE X c W wa a ta) (hb : DE X c W wb b tb) (hm : behindInMarks op b = false) : DT X c W (wa || wb) (.Compare a [op] [b] pos) (tTs (tV2 R wb ta tb)) := by
  obtain ⟨tea, teb, pa, pb, k⟩ := v2_core hr ha hb
  refine ⟨_, pt_cmpR ho pa pb hm, fun G H σ ε F Q EX QH S h o xo => ?_⟩
  refine k G H σ ε F _ EX _ S h (fun rv ε' v G' H' F' Ft ⟨b, e, q⟩ s S' r t => ?_) xo
  subst e
  simp only [RV, RD] at r
  exact ⟨b, r, o b ε' G' H' F' q s S'⟩
theorem dt_val (h : DE X c W wa e ta) (he : ∀ whole, isTrue e X.env whole = (do let v ← whole; standAt e.pos; holding [v] (truthy v)) := by intro _; rfl) : DT X c W wa e (tTs ta) := by
  obtain ⟨te, pe, k⟩ := h
  refine ⟨_, pt_val pe he, fun G H σ ε F Q EX QH S h o xo => ?_⟩
  refine k G H σ ε F _ EX _ S h (fun rv ε' v G' H' F' Ft ⟨b, e, q⟩ s S' r t => ?_) xo
  subst e
  simp only [RV, RD] at r
  exact ⟨b, r, o b ε' G' H' F' q s S'⟩
/-- not, and, or -/
def tN (t : TT') : TT' := fun ε Q EX => t ε (fun b ε1 => Q (!b) ε1) EX
theorem dt_not {t : TT'} (h : DT X c W wa a t) : DT X c W wa (.UnaryOp .Not a pos) (tN t) := by
  obtain ⟨tt, pt, k⟩ := h
  exact ⟨_, pt_not pt, fun G H σ ε F Q EX QH S h o xo => k G H σ ε F _ EX _ S h (fun b ε' G' H' F' q s S' => o _ ε' G' H' F' q s S') xo⟩
structure DW (X : Cx) (c : CT) (W : WX') (w : Bool) (e : Expr) (t : TT') : Prop where
  ex : ∃ tt, PW X e tt ∧ ∀ (G H : Hp) (σ : L2.St) (ε : Env) (F : FS) (Q : Bool → Env → Prop) (EX : EXN) (QH : Bool → Hp → Prop), Sat c G H σ ε F → t ε Q EX →
    (∀ b ε' G' H' F', Q b ε' → Step w G H F G' H' F' → Sat c G' H' σ ε' F' → QH b H') → XOut c G H F σ EX W → tt σ H QH
theorem DW.dt {t : TT'} (h : DW X c W w e t) : DT X c W w e t := let ⟨tt, p, k⟩ := h.ex; ⟨tt, p.pt, k⟩
theorem dw_and1 {t : TT'} (h : DT X c W wa a t) : DW X c W wa (.BoolOp .And [a] pos) t := let ⟨tt, p, k⟩ := h.ex; ⟨tt, pw_and1 p, k⟩
theorem dw_or1 {t : TT'} (h : DT X c W wa a t) : DW X c W wa (.BoolOp .Or [a] pos) t := let ⟨tt, p, k⟩ := h.ex; ⟨tt, pw_or1 p, k⟩
def tAn (t u : TT') : TT' := fun ε Q EX => t ε (fun b ε1 => (b = true → u ε1 Q EX) ∧ (b = false → Q false ε1)) EX
def tOn (t u : TT') : TT' := fun ε Q EX => t ε (fun b ε1 => (b = true → Q true ε1) ∧ (b = false → u ε1 Q EX)) EX
theorem dw_and {t u : TT'} {rest : List Expr} (ha : DT X c W wa a t) (hb : DW X c W wb (.BoolOp .And (b :: rest) pos) u) : DW X c W (wa || wb) (.BoolOp .And (a :: b :: rest) pos) (tAn t u) := by
  obtain ⟨tt, p, k⟩ := ha.ex
  obtain ⟨tu, p2, k2⟩ := hb.ex
  refine ⟨_, pw_and p p2, fun G H σ ε F Q EX QH S h o xo => ?_⟩
  refine k G H σ ε F _ EX _ S h (fun d ε' G' H' F' ⟨q1, q2⟩ s S' => ?_) xo
  cases d with
  | true =>
    rw [if_pos rfl]
    exact k2 G' H' σ ε' F' _ EX _ S' (q1 rfl) (fun d ε2 G2 H2 F2 q s2 S2 => o d ε2 G2 H2 F2 q (s.trans s2) S2) (xo.step s)
  | false =>
    rw [if_neg (by decide)]
    exact o _ _ _ _ _ (q2 rfl) (s.mono fun q => by rw [q]; rfl) S'
theorem dw_or {t u : TT'} {rest : List Expr} (ha : DT X c W wa a t) (hb : DW X c W wb (.BoolOp .Or (b :: rest) pos) u) : DW X c W (wa || wb) (.BoolOp .Or (a :: b :: rest) pos) (tOn t u) := by
  obtain ⟨tt, p, k⟩ := ha.ex
  obtain ⟨tu, p2, k2⟩ := hb.ex
  refine ⟨_, pw_or p p2, fun G H σ ε F Q EX QH S h o xo => ?_⟩
  refine k G H σ ε F _ EX _ S h (fun d ε' G' H' F' ⟨q1, q2⟩ s S' => ?_) xo
  cases d with
  | true =>
    rw [if_pos rfl]
    exact o _ _ _ _ _ (q1 rfl) (s.mono fun q => by rw [q]; rfl) S'
  | false =>
    rw [if_neg (by decide)]
    exact k2 G' H' σ ε' F' _ EX _ S' (q2 rfl) (fun d ε2 G2 H2 F2 q s2 S2 => o d ε2 G2 H2 F2 q (s.trans s2) S2) (xo.step s)
/-- .. as values -/
def tAv (ta tb : ET) : ET := fun ε Q EX => ta ε (fun r ε1 => ∃ b, r = .d (.bl b) ∧ (b = true → tb ε1 Q EX) ∧ (b = false → Q (.d (.bl false)) ε1)) EX
def tOv (ta tb : ET) : ET := fun ε Q EX => ta ε (fun r ε1 => ∃ b, r = .d (.bl b) ∧ (b = true → Q (.d (.bl true)) ε1) ∧ (b = false → tb ε1 Q EX)) EX
def tNv (ta : ET) : ET := fun ε Q EX => ta ε (fun r ε1 => ∃ b, r = .d (.bl b) ∧ Q (.d (.bl (!b))) ε1) EX
theorem de_one {op} (h : DE X c W wa a ta) : DE X c W wa (.BoolOp op [a] pos) ta := let ⟨te, p, k⟩ := h.ex; ⟨te, pe_one p, k⟩
theorem de_and {rest : List Expr} (ha : DE X c W wa a ta) (hb : DE X c W wb (.BoolOp .And (b :: rest) pos) tb) : DE X c W (wa || wb) (.BoolOp .And (a :: b :: rest) pos) (tAv ta tb) := by
  obtain ⟨tea, p, k⟩ := ha.ex
  obtain ⟨teb, p2, k2⟩ := hb.ex
  refine ⟨_, pe_and p p2, fun G H σ ε F Q EX QH S h o xo => ?_⟩
  refine k G H σ ε F _ EX _ S h (fun rv ε' v G' H' F' Ft ⟨d, e, q1, q2⟩ s S' r t => ?_) xo
  subst e
  simp only [RV, RD] at r
  refine ⟨d, r, ?_⟩
  cases d with
  | true =>
    rw [if_pos rfl]
    exact k2 G' H' σ ε' F' _ EX _ S' (q1 rfl) (fun rv ε2 v2 G2 H2 F2 Ft2 q s2 S2 r2 t2 => o rv ε2 v2 G2 H2 F2 Ft2 q (s.trans s2) S2 r2 (t2.pre s)) (xo.step s)
  | false =>
    rw [if_neg (by decide)]
    exact o _ _ _ G' H' F' eNo (q2 rfl) (s.mono fun q => by rw [q]; rfl) S' (by simp only [RV, RD]) Tmp.no
theorem de_or {rest : List Expr} (ha : DE X c W wa a ta) (hb : DE X c W wb (.BoolOp .Or (b :: rest) pos) tb) : DE X c W (wa || wb) (.BoolOp .Or (a :: b :: rest) pos) (tOv ta tb) := by
  obtain ⟨tea, p, k⟩ := ha.ex
  obtain ⟨teb, p2, k2⟩ := hb.ex
  refine ⟨_, pe_or p p2, fun G H σ ε F Q EX QH S h o xo => ?_⟩
  refine k G H σ ε F _ EX _ S h (fun rv ε' v G' H' F' Ft ⟨d, e, q1, q2⟩ s S' r t => ?_) xo
  subst e
  simp only [RV, RD] at r
  refine ⟨d, r, ?_⟩
  cases d with
  | true =>
    rw [if_pos rfl]
    exact o _ _ _ G' H' F' eNo (q1 rfl) (s.mono fun q => by rw [q]; rfl) S' (by simp only [RV, RD]) Tmp.no
  | false =>
    rw [if_neg (by decide)]
    exact k2 G' H' σ ε' F' _ EX _ S' (q2 rfl) (fun rv ε2 v2 G2 H2 F2 Ft2 q s2 S2 r2 t2 => o rv ε2 v2 G2 H2 F2 Ft2 q (s.trans s2) S2 r2 (t2.pre s)) (xo.step s)
theorem de_not (ha : DE X c W wa a ta) : DE X c W wa (.UnaryOp .Not a pos) (tNv ta) := by
  obtain ⟨tea, p, k⟩ := ha.ex
  refine ⟨_, pe_not p, fun G H σ ε F Q EX QH S h o xo => ?_⟩
  refine k G H σ ε F _ EX _ S h (fun rv ε' v G' H' F' Ft ⟨d, e, q⟩ s S' r t => ?_) xo
  subst e
  simp only [RV, RD] at r
  exact ⟨d, r, o _ _ _ G' H' F' eNo q s S' (by simp only [RV, RD]) Tmp.no⟩
/-- a if t else b -/
def tIf' (t : TT') (ta tb : ET) : ET := fun ε Q EX => t ε (fun b ε1 => (b = true → ta ε1 Q EX) ∧ (b = false → tb ε1 Q EX)) EX
theorem de_if {x : Expr} {t : TT'} (hc : DT X c W wc x t) (ha : DE X c W wa a ta) (hb : DE X c W wb b tb) : DE X c W (wc || (wa || wb)) (.IfExp x a b pos) (tIf' t ta tb) := by
  obtain ⟨tt, p0, k0⟩ := hc.ex
  obtain ⟨tea, p, k⟩ := ha.ex
  obtain ⟨teb, p2, k2⟩ := hb.ex
  refine ⟨_, pe_ifExp p0 p p2, fun G H σ ε F Q EX QH S h o xo => ?_⟩
  refine k0 G H σ ε F _ EX _ S h (fun d ε' G' H' F' ⟨q1, q2⟩ s S' => ?_) xo
  cases d with
  | true =>
    rw [if_pos rfl]
    exact k G' H' σ ε' F' _ EX _ S' (q1 rfl) (fun rv ε2 v2 G2 H2 F2 Ft2 q s2 S2 r2 t2 => o rv ε2 v2 G2 H2 F2 Ft2 q ((s.trans s2).mono fun q => by revert q; cases wc <;> cases wa <;> cases wb <;> decide) S2 r2 (t2.pre s)) (xo.step s)
  | false =>
    rw [if_neg (by decide)]
    exact k2 G' H' σ ε' F' _ EX _ S' (q2 rfl) (fun rv ε2 v2 G2 H2 F2 Ft2 q s2 S2 r2 t2 => o rv ε2 v2 G2 H2 F2 Ft2 q ((s.trans s2).mono fun q => by revert q; cases wc <;> cases wa <;> cases wb <;> decide) S2 r2 (t2.pre s)) (xo.step s)

/-! ### arguments, displays -/
def tA0 : AT := fun ε Q _ => Q [] ε
def tA1 (wb : Bool) (ta : ET) (tr : AT) : AT := fun ε Q EX => ta ε (fun r ε1 => r.pend wb ∧ tr ε1 (fun rs ε2 => Q (r :: rs) ε2) EX) EX
theorem da_nil : DA X c W false [] tA0 := ⟨_, pa_nil, fun G H σ ε F Q EX QH S h o _ => o [] ε [] G H F eNo h Step.refl S rfl Tmp.no⟩
theorem da_cons {es : List Expr} {tr : AT} (ha : DE X c W wa e ta) (hr : DA X c W wb es tr) (hs : starEach (e :: es) X.env = (false, eval e X.env) :: starEach es X.env := by rfl) : DA X c W (wa || wb) (e :: es) (tA1 wb ta tr) := by
  obtain ⟨tea, p, k⟩ := one ha
  obtain ⟨ter, p2, k2⟩ := hr.ex
  refine ⟨_, pa_cons p p2 hs, fun G H σ ε F Q EX QH S h o xo => ?_⟩
  refine k G H σ ε F _ EX _ S h xo fun r1 ε1 x G1 H1 F1 Fa ⟨pd, h1⟩ s1 S1 v1 t1 xo1 => ?_
  refine k2 G1 H1 σ ε1 F1 _ EX _ S1 h1 (fun rs ε2 vs G2 H2 F2 Ft h2 s2 S2 v2 t2 => ?_) xo1
  have u2 := t2.pre s1
  have u1 := t1.keep s2
  refine o (r1 :: rs) ε2 (x :: vs) G2 H2 F2 (fun z => Fa z ∨ Ft z) h2 (s1.trans s2) S2 ⟨x, vs, Fa, Ft, rfl, fun _ z => .inl z, fun _ z => .inr z, fun z z1 z2 => ?_, v1.keep s2 pd t1.dj, v2⟩
    ⟨fun z q => q.elim (u1.dj z) (u2.dj z), fun z q => q.elim (u1.g z) (u2.g z), fun z q => q.elim (u1.fd z) (u2.fd z), fun z q => q.elim (u1.n z) (u2.n z)⟩
  rcases t2.n z z2 with z3 | z3
  · exact t1.dj z z1 z3
  · obtain ⟨o, e⟩ := t1.fd z z1
    rw [e] at z3; cases z3
/-- (a, b, ..) -/
def tTp (t : AT) : ET := fun ε Q EX => t ε (fun rs ε1 => ∃ ts ε2, owns rs ε1 = some (ts, ε2) ∧ ts.length ≤ sizeLine ∧ Q (.d (.tup (T.ds ts))) ε2) EX
/-- [a, b, ..] -/
def tLs (t : AT) : ET := fun ε Q EX => t ε (fun rs ε1 => ∃ ts ε2, owns rs ε1 = some (ts, ε2) ∧ ts.length ≤ sizeLine ∧ Q (.own (.lst ts)) ε2) EX
theorem de_tup {es : List Expr} {t : AT} {x1} (h : DA X c W w es t) : DE X c W w (.Tuple es x1 pos) (tTp t) := by
  obtain ⟨ta, p, k⟩ := h.ex
  refine ⟨_, pe_tup p, fun G H σ ε F Q EX QH S h o xo => ?_⟩
  refine k G H σ ε F _ EX _ S h (fun rs ε' vs G' H' F' Ft ⟨ts, ε2, e1, hl, q⟩ s S' r t => ?_) xo
  obtain ⟨G2, F2, g1, g2, g3, S2, rt⟩ := r.toT S' t.dj t.g e1
  refine ⟨by rw [← rt.len]; exact hl, fun q0 hq => ?_⟩
  have dj : ∀ a, Ft a → F2 a → False := fun a z z2 => t.dj a z (g3 a z2)
  have S3 := (S2.frzT dj).grow (o := .tup vs) hq
  refine o _ _ (.ref q0) _ _ F2 eNo q ?_ S3 ?_ Tmp.no
  · have s2 : Step w G H F G2 H' F2 := ⟨s.g.trans g1, s.h, fun a o z => by
      rcases g2 a o z with z | z
      · exact s.n a o z
      · rcases s.f a z with z | z
        · exact .inr (.inr z)
        · exact .inr (.inl z), fun a z => s.f a (g3 a z)⟩
    have t2 : Tmp H F G2 H' F2 Ft := ⟨dj, fun a z => by
      cases e : G2 a with
      | none => rfl
      | some o =>
        rcases g2 a o e with k | k
        · rw [t.g a z] at k; cases k
        · exact (t.dj a z k).elim, t.fd, t.n⟩
    exact (t2.step s2).then0 (Step.grow hq (S2.frzT dj).gh)
  · simp only [RV, RD]
    refine ⟨q0, vs, rfl, upd_same, ?_⟩
    exact RDs.mono (Sub.new ((S2.frzT dj).gh.no hq)) _ _ (RTs.frz S2.gh rt)
theorem de_lst {es : List Expr} {t : AT} (h : DA X c W w es t) : DE X c W w (.List es pos) (tLs t) := by
  obtain ⟨ta, p, k⟩ := h.ex
  refine ⟨_, pe_lst p, fun G H σ ε F Q EX QH S h o xo => ?_⟩
  refine k G H σ ε F _ EX _ S h (fun rs ε' vs G' H' F' Ft ⟨ts, ε2, e1, hl, q⟩ s S' r t => ?_) xo
  obtain ⟨G2, F2, g1, g2, g3, S2, rt⟩ := r.toT S' t.dj t.g e1
  refine ⟨by rw [← rt.len]; exact hl, fun q0 hq => ?_⟩
  have s2 : Step w G H F G2 H' F2 := ⟨s.g.trans g1, s.h, fun a o z => by
    rcases g2 a o z with z | z
    · exact s.n a o z
    · rcases s.f a z with z | z
      · exact .inr (.inr z)
      · exact .inr (.inl z), fun a z => s.f a (g3 a z)⟩
  have nq : ¬ Ft q0 := fun z => by
    obtain ⟨o, e⟩ := t.fd q0 z
    rw [e] at hq; cases hq
  have nf : ¬ F2 q0 := fun z => by
    obtain ⟨o, e⟩ := S2.fd q0 z
    rw [e] at hq; cases hq
  have hG2 : ∀ a, Ft a → G2 a = none := fun a z => by
    cases e : G2 a with
    | none => rfl
    | some o =>
      rcases g2 a o e with k | k
      · rw [t.g a z] at k; cases k
      · exact (t.dj a z k).elim
  refine o _ _ (.ref q0) G2 (upd H' q0 (.lst vs)) F2 (fun z => z = q0 ∨ Ft z) q (s2.then0 (Step.growH hq)) (S2.growH hq) ?_ ⟨?_, ?_, ?_, ?_⟩
  · simp only [RV, RT]
    exact ⟨q0, vs, Ft, rfl, upd_same, .inl rfl, nq, fun b z => .inr z, RTs.stay (Sub.refl _) ts vs Ft Ft (fun _ q => q) (fun a o z e => Sub.new hq a o e) rt⟩
  · rintro a (rfl | z) z2
    · exact nf z2
    · exact t.dj a z (g3 a z2)
  · rintro a (rfl | z)
    · exact S2.gh.no hq
    · exact hG2 a z
  · rintro a (rfl | z)
    · exact ⟨_, upd_same⟩
    · obtain ⟨o, e⟩ := t.fd a z
      exact ⟨o, Sub.new hq a o e⟩
  · rintro a (rfl | z)
    · rcases s2.no hq with k | k
      · exact .inr k
      · exact .inl k
    · exact t.n a z
end
end DL

namespace DL
open PySem PySem.Spec L2

/-! ### as the library's data -/
mutual
def D.pd : D → PyData
  | .non => .none
  | .bl b => .bool b
  | .int i => .int i
  | .str x => .str x
  | .tup ds => .tuple (D.pds ds)
  | .lst ds => .list (D.pds ds)
  | .dic _ _ => .dict []
  | .obj _ _ _ => .none
  | .scr ns => .list (ns.map PyData.int)
def D.pds : List D → List PyData
  | [] => []
  | d :: ds => D.pd d :: D.pds ds
end
mutual
/-- none, bools, ints, texts, lists, tuples (and {}) -/
def D.py : D → Bool
  | .non | .bl _ | .int _ | .str _ => true
  | .tup ds | .lst ds => D.pys ds
  | .dic [] [] => true
  | _ => false
def D.pys : List D → Bool
  | [] => true
  | d :: ds => D.py d && D.pys ds
end
/-- the written part has the modules' dict, so no list stands there -/
def SmOk (K : PySem.W.Frag) : Prop := ∃ o, K.lookup sysModules = some o ∧ o.cls = .type "dict"
section
variable {X : Cx} {pins : List (Addr × Obj)} {σ : L2.St} {H : Hp} {s : Shared} {c : CT}
mutual
theorem RD.reads (sm : SmOk X.K) (I : Inv X pins σ H s) : ∀ (d : D) (v : V) (u : Value), RD c H d v → RelV v u → d.py = true → ∃ as, Reads s.heap u d.pd as ∧ sysModules ∉ as
  | .non, v, u, h, r, _ => by
    simp only [RD] at h; subst h; cases r
    exact ⟨_, Reads.none, by simp⟩
  | .bl b, v, u, h, r, _ => by
    simp only [RD] at h; subst h; cases r
    exact ⟨_, Reads.bool b, by simp⟩
  | .int i, v, u, h, r, _ => by
    simp only [RD] at h; subst h
    obtain ⟨t, rfl⟩ := r
    exact ⟨_, Reads.int i t, by simp⟩
  | .str x, v, u, h, r, _ => by
    simp only [RD] at h; subst h
    obtain ⟨t, rfl⟩ := r
    exact ⟨_, Reads.str x t, by simp⟩
  | .tup ds, v, u, h, r, hp => by
    simp only [RD] at h
    obtain ⟨a, vs, rfl, h1, h2⟩ := h
    cases r
    obtain ⟨its, rv, ⟨o, ho, hc, n, hd⟩, _⟩ := I.tuple (SqT.of h1)
    obtain ⟨as, hr, hn⟩ := RDs.reads sm I ds _ its h2 rv (by simpa [D.py] using hp)
    exact ⟨_, Reads.tuple ho hc hd hr, hn⟩
  | .lst ds, v, u, h, r, hp => by
    simp only [RD] at h
    obtain ⟨a, vs, rfl, h1, h2⟩ := h
    cases r
    obtain ⟨its, rv, ⟨o, n, ho, hc, _, hd⟩, _⟩ := I.list (SqL.of h1)
    obtain ⟨as, hr, hn⟩ := RDs.reads sm I ds _ its h2 rv (by simpa [D.py] using hp)
    refine ⟨_, Reads.list ho hc hd hr, fun z => ?_⟩
    rcases List.mem_cons.mp z with z | z
    · obtain ⟨o2, e1, e2⟩ := sm
      have e3 := I.kIn _ _ e1
      rw [z, ho] at e3; cases e3
      rw [hc] at e2
      injection e2 with e2
      exact absurd e2 (by decide)
    · exact hn z
  | .dic [] [], v, u, h, r, hp => by
    simp only [RD] at h
    obtain ⟨a, rfl, h⟩ := h
    cases r
    rcases h with ⟨kvs, h1, h2, h3⟩ | ⟨kvs, h1, h2, h3⟩
    · obtain rfl : kvs = [] := by
        cases kvs with
        | nil => rfl
        | cons x r => simp at h2
      obtain ⟨_, sm', vs, kv, o, es, ep, h4, h5, h6, _, h7, _⟩ := I.hok a _ h1
      cases kv
      have e0 : es.toList = [] := by
        cases q : es.toList with
        | nil => rfl
        | cons x r => rw [q] at h7; cases h7
      refine ⟨_, Reads.dict h4 h5.1 h6 (by rw [e0]; exact ReadsAll.nil) (by rw [e0]; exact ReadsAll.nil), fun z => ?_⟩
      simp only [List.append_nil, List.mem_singleton] at z
      rw [z] at sm'; simp at sm'
    · obtain rfl : kvs = [] := by
        cases kvs with
        | nil => rfl
        | cons x r => simp at h2
      obtain ⟨_, sm', vs, kv, o, es, ep, h4, h5, h6, h7, _⟩ := I.hok a _ h1
      cases kv
      have e0 : es.toList = [] := by simpa using h7
      refine ⟨_, Reads.dict h4 h5.1 h6 (by rw [e0]; exact ReadsAll.nil) (by rw [e0]; exact ReadsAll.nil), fun z => ?_⟩
      simp only [List.append_nil, List.mem_singleton] at z
      rw [z] at sm'; simp at sm'
  | .dic (_ :: _) _, _, _, _, _, hp => by simp [D.py] at hp
  | .dic [] (_ :: _), _, _, _, _, hp => by simp [D.py] at hp
  | .obj _ _ _, _, _, _, _, hp => by simp [D.py] at hp
  | .scr _, _, _, _, _, hp => by simp [D.py] at hp
theorem RDs.reads (sm : SmOk X.K) (I : Inv X pins σ H s) : ∀ (ds : List D) (vs : List V) (us : List Value), RDs c H ds vs → Vals vs us → D.pys ds = true → ∃ as, ReadsAll s.heap us (D.pds ds) as ∧ sysModules ∉ as
  | [], vs, us, h, r, _ => by
    simp only [RDs] at h; subst h; cases r
    exact ⟨_, ReadsAll.nil, by simp⟩
  | d :: ds, vs, us, h, r, hp => by
    simp only [RDs] at h
    obtain ⟨v, vr, rfl, h1, h2⟩ := h
    cases r with
    | cons r1 r2 =>
      simp only [D.pys, Bool.and_eq_true] at hp
      obtain ⟨as, q1, n1⟩ := RD.reads sm I d _ _ h1 r1 hp.1
      obtain ⟨bs, q2, n2⟩ := RDs.reads sm I ds _ _ h2 r2 hp.2
      exact ⟨_, ReadsAll.cons q1 q2, fun z => (List.mem_append.mp z).elim n1 n2⟩
end
end

/-- may be compared: data without dicts, texts of true signs, 64 deep -/
def D.eqOk (d : D) : Prop := d.py = true ∧ SeqAt.shaped d.pd = true
def D.eqv (a b : D) : Bool := PyData.eqv a.pd b.pd
/-- two texts, or data to be compared in depth -/
def EqC (x y : D) : Prop := (∃ a b, x = .str a ∧ y = .str b) ∨ (x.eqOk ∧ y.eqOk)
def REq : D → D → D → Prop := fun x y z => EqC x y ∧ z = .bl (x.eqv y)
def RNe : D → D → D → Prop := fun x y z => EqC x y ∧ z = .bl (!x.eqv y)
section
variable {X : Cx} {c : CT} {W : WX'} {w wa wb wc : Bool} {a b e : Expr} {ta tb : ET} {pos : Pos}
theorem op_eqDD (sm : SmOk X.K) (hu : X.A.units + 64 < cLine) : OpR X (compareOp .Eq) (fun x y H Q => ∃ dx dy, RD c H dx x ∧ RD c H dy y ∧ dx.eqOk ∧ dy.eqOk ∧ Q (.bl (dx.eqv dy)) H) := by
  intro pins s σ H x y v u Q I rx ry h
  obtain ⟨d, e, hd, he, sd, se, q⟩ := h
  obtain ⟨as, r1, _⟩ := RD.reads sm I d x v hd rx sd.1
  obtain ⟨bs, r2, _⟩ := RD.reads sm I e y u he ry se.1
  exact SeqAt.compareEq_shaped r1 r2 sd.2 se.2 hu ⟨.bl _, H, I, rfl, q⟩
theorem op_neDD (sm : SmOk X.K) (hu : X.A.units + 64 < cLine) : OpR X (compareOp .NotEq) (fun x y H Q => ∃ dx dy, RD c H dx x ∧ RD c H dy y ∧ dx.eqOk ∧ dy.eqOk ∧ Q (.bl (!dx.eqv dy)) H) := by
  intro pins s σ H x y v u Q I rx ry h
  obtain ⟨d, e, hd, he, sd, se, q⟩ := h
  obtain ⟨as, r1, _⟩ := RD.reads sm I d x v hd rx sd.1
  obtain ⟨bs, r2, _⟩ := RD.reads sm I e y u he ry se.1
  exact SeqAt.compareNe_shaped r1 r2 sd.2 se.2 hu ⟨.bl _, H, I, rfl, q⟩
theorem does_eq : Does2 c (fun x y H Q => rEq x y H Q ∨ ∃ dx dy, RD c H dx x ∧ RD c H dy y ∧ dx.eqOk ∧ dy.eqOk ∧ Q (.bl (dx.eqv dy)) H) REq :=
  fun H x y dx dy d h1 h2 ⟨o, e⟩ => ⟨.bl (dx.eqv dy), by rw [e]; rfl, fun Q q => by
    rcases o with ⟨a, b, rfl, rfl⟩ | ⟨o1, o2⟩
    · simp only [RD] at h1 h2
      subst h1 h2
      refine .inl ⟨rfl, ?_⟩
      rw [dec_str]
      exact q
    · exact .inr ⟨dx, dy, h1, h2, o1, o2, q⟩⟩
theorem does_ne : Does2 c (fun x y H Q => rNe x y H Q ∨ ∃ dx dy, RD c H dx x ∧ RD c H dy y ∧ dx.eqOk ∧ dy.eqOk ∧ Q (.bl (!dx.eqv dy)) H) RNe :=
  fun H x y dx dy d h1 h2 ⟨o, e⟩ => ⟨.bl (!dx.eqv dy), by rw [e]; rfl, fun Q q => by
    rcases o with ⟨a, b, rfl, rfl⟩ | ⟨o1, o2⟩
    · simp only [RD] at h1 h2
      subst h1 h2
      refine .inl ⟨rfl, ?_⟩
      rw [dec_str]
      exact q
    · exact .inr ⟨dx, dy, h1, h2, o1, o2, q⟩⟩

/-! ### ints -/
def RI2 (g : Int → Int → D) : D → D → D → Prop
  | .int i, .int j, z => z = g i j
  | _, _, _ => False
def RI2c (C : Int → Int → Prop) (g : Int → Int → D) : D → D → D → Prop
  | .int i, .int j, z => C i j ∧ z = g i j
  | _, _, _ => False
theorem ri2 {g : Int → Int → D} {x y z : D} (h : RI2 g x y z) : ∃ i j, x = .int i ∧ y = .int j ∧ z = g i j := by
  unfold RI2 at h
  split at h
  · exact ⟨_, _, rfl, rfl, h⟩
  · exact h.elim
theorem ri2c {C : Int → Int → Prop} {g : Int → Int → D} {x y z : D} (h : RI2c C g x y z) : ∃ i j, x = .int i ∧ y = .int j ∧ C i j ∧ z = g i j := by
  unfold RI2c at h
  split at h
  · exact ⟨_, _, rfl, rfl, h⟩
  · exact h.elim
theorem rd_int {H : Hp} {i : Int} {v : V} (h : RD c H (.int i) v) : v = .int i := by simpa only [RD] using h
theorem does_I0 {g : Int → Int → V} {gd : Int → Int → D} (hg : ∀ i j, scV (gd i j) = some (g i j)) : Does2 c (rI0 g) (RI2 gd) := fun H x y dx dy d h1 h2 h => by
  obtain ⟨i, j, rfl, rfl, rfl⟩ := ri2 h
  exact ⟨g i j, hg i j, fun Q q => ⟨i, j, rd_int h1, rd_int h2, q⟩⟩
theorem does_I {C : Int → Int → Prop} {g : Int → Int → V} {gd : Int → Int → D} (hg : ∀ i j, scV (gd i j) = some (g i j)) : Does2 c (rI C g) (RI2c C gd) := fun H x y dx dy d h1 h2 h => by
  obtain ⟨i, j, rfl, rfl, hc, rfl⟩ := ri2c h
  exact ⟨g i j, hg i j, fun Q q => ⟨i, j, rd_int h1, rd_int h2, hc, q⟩⟩
abbrev RSub := RI2 fun i j => .int (i - j)
abbrev RLt := RI2 fun i j => .bl (decide (i < j))
abbrev RLe := RI2 fun i j => .bl (decide (i ≤ j))
abbrev RGt := RI2 fun i j => .bl (decide (j < i))
abbrev RGe := RI2 fun i j => .bl (decide (j ≤ i))
/-- % and // by a positive number of at most 9000 bits, * below a million bits -/
abbrev RMod := RI2c (fun _ j => 0 < j) fun i j => .int (i % j)
abbrev RDiv := RI2c CDivW fun i j => .int (i / j)
abbrev RMulI := RI2c CMulW fun i j => .int (i * j)
theorem de_sub (ha : DE X c W wa a ta) (hb : DE X c W wb b tb) : DE X c W (wa || wb) (.BinOp a .Sub b pos) (tV2 RSub wb ta tb) := de_op op_sub (does_I0 fun _ _ => rfl) ha hb
theorem de_mod (ha : DE X c W wa a ta) (hb : DE X c W wb b tb) : DE X c W (wa || wb) (.BinOp a .Mod b pos) (tV2 RMod wb ta tb) := de_op op_mod (does_I fun _ _ => rfl) ha hb
theorem de_div (ha : DE X c W wa a ta) (hb : DE X c W wb b tb) : DE X c W (wa || wb) (.BinOp a .FloorDiv b pos) (tV2 RDiv wb ta tb) := de_op op_fdivW (does_I fun _ _ => rfl) ha hb
theorem de_mulI (ha : DE X c W wa a ta) (hb : DE X c W wb b tb) : DE X c W (wa || wb) (.BinOp a .Mult b pos) (tV2 RMulI wb ta tb) := de_op op_mulW (does_I fun _ _ => rfl) ha hb
/-- the comparisons of ints, by the operator -/
structure CmpD (X : Cx) (c : CT) (op : CmpOp) (R : D → D → D → Prop) : Prop where
  ex : ∃ r, OpR X (compareOp op) r ∧ Does2 c r R
theorem cd_lt : CmpD X c .Lt RLt := ⟨_, op_lt, does_I0 fun _ _ => rfl⟩
theorem cd_le : CmpD X c .LtE RLe := ⟨_, op_le, does_I0 fun _ _ => rfl⟩
theorem cd_gt : CmpD X c .Gt RGt := ⟨_, op_gt, does_I0 fun _ _ => rfl⟩
theorem cd_ge : CmpD X c .GtE RGe := ⟨_, op_ge, does_I0 fun _ _ => rfl⟩
theorem cd_eq (sm : SmOk X.K) (hu : X.A.units + 64 < cLine) : CmpD X c .Eq REq := ⟨_, op_eq.or (op_eqDD sm hu), does_eq⟩
theorem cd_ne (sm : SmOk X.K) (hu : X.A.units + 64 < cLine) : CmpD X c .NotEq RNe := ⟨_, op_ne.or (op_neDD sm hu), does_ne⟩
/-- x is None -/
def D.isN : D → Bool
  | .non => true
  | _ => false
def RIsN : D → D → D → Prop := fun x y z => y = .non ∧ z = .bl x.isN
def RNotN : D → D → D → Prop := fun x y z => y = .non ∧ z = .bl (!x.isN)
theorem rd_non {H : Hp} {d : D} {v : V} (h : RD c H d v) : decide (v = .non) = d.isN := by
  cases d <;> simp only [RD] at h
  case non => subst h; rfl
  case bl => subst h; rfl
  case int => subst h; rfl
  case str => subst h; rfl
  case tup => obtain ⟨a, _, rfl, _⟩ := h; rfl
  case lst => obtain ⟨a, _, rfl, _⟩ := h; rfl
  case dic => obtain ⟨a, rfl, _⟩ := h; rfl
  case obj => obtain ⟨a, _, _, _, rfl, _⟩ := h; rfl
  case scr => obtain ⟨a, rfl, _⟩ := h; rfl
theorem cd_is : CmpD X c .Is RIsN := ⟨_, op_isN, fun H x y dx dy d h1 h2 ⟨e1, e2⟩ => by
  subst e1 e2
  exact ⟨.bl dx.isN, rfl, fun Q q => ⟨by simpa only [RD] using h2, by rw [rd_non h1]; exact q⟩⟩⟩
theorem cd_isnot : CmpD X c .IsNot RNotN := ⟨_, op_notN, fun H x y dx dy d h1 h2 ⟨e1, e2⟩ => by
  subst e1 e2
  exact ⟨.bl (!dx.isN), rfl, fun Q q => ⟨by simpa only [RD] using h2, by rw [rd_non h1]; exact q⟩⟩⟩
/-- x is not False, of bools -/
def RNotB : D → D → D → Prop
  | .bl i, .bl j, z => z = .bl (!decide (i = j))
  | _, _, _ => False
theorem cd_isnotB : CmpD X c .IsNot RNotB := ⟨_, op_isnot_bl, fun H x y dx dy d h1 h2 h => by
  unfold RNotB at h
  split at h
  · subst h
    simp only [RD] at h1 h2
    exact ⟨_, rfl, fun Q q => ⟨_, _, h1, h2, q⟩⟩
  · exact h.elim⟩
theorem de_cm {op : CmpOp} {R : D → D → D → Prop} (h : CmpD X c op R) (ha : DE X c W wa a ta) (hb : DE X c W wb b tb) (hm : behindInMarks op b = false) : DE X c W (wa || wb) (.Compare a [op] [b] pos) (tV2 R wb ta tb) := let ⟨_, h1, h2⟩ := h.ex; de_cmp h1 h2 ha hb hm
theorem dt_cm {op : CmpOp} {R : D → D → D → Prop} (h : CmpD X c op R) (ha : DE X c W wa a ta) (hb : DE X c W wb b tb) (hm : behindInMarks op b = false) : DT X c W (wa || wb) (.Compare a [op] [b] pos) (tTs (tV2 R wb ta tb)) := let ⟨_, h1, h2⟩ := h.ex; dt_cmp h1 h2 ha hb hm

/-! ### in -/
mutual
theorem RD.dp {H : Hp} : ∀ (d : D) (v : V), RD c H d v → d.py = true → d.pd.hasDict = false → Dp c.K H v d.pd
  | .non, v, h, _, _ => by simp only [RD] at h; subst h; exact Dp.non
  | .bl b, v, h, _, _ => by simp only [RD] at h; subst h; exact Dp.bl b
  | .int i, v, h, _, _ => by simp only [RD] at h; subst h; exact Dp.int i
  | .str x, v, h, _, _ => by simp only [RD] at h; subst h; exact Dp.str x
  | .tup ds, v, h, hp, hn => by
    simp only [RD] at h
    obtain ⟨a, vs, rfl, h1, h2⟩ := h
    exact Dp.tup (SqT.of h1) (RDs.dp ds vs h2 (by simpa [D.py] using hp) (by simpa [D.pd, PyData.hasDict] using hn))
  | .lst ds, v, h, hp, hn => by
    simp only [RD] at h
    obtain ⟨a, vs, rfl, h1, h2⟩ := h
    exact Dp.lst (SqL.of h1) (RDs.dp ds vs h2 (by simpa [D.py] using hp) (by simpa [D.pd, PyData.hasDict] using hn))
  | .dic _ _, v, h, hp, hn => by simp [D.pd, PyData.hasDict] at hn
  | .obj _ _ _, v, h, hp, hn => by simp [D.py] at hp
  | .scr _, v, h, hp, hn => by simp [D.py] at hp
theorem RDs.dp {H : Hp} : ∀ (ds : List D) (vs : List V), RDs c H ds vs → D.pys ds = true → PyData.hasDictAll (D.pds ds) = false → DpAll c.K H vs (D.pds ds)
  | [], vs, h, _, _ => by simp only [RDs] at h; subst h; exact DpAll.nil
  | d :: ds, vs, h, hp, hn => by
    simp only [RDs] at h
    obtain ⟨v, r, rfl, h1, h2⟩ := h
    simp only [D.pys, Bool.and_eq_true] at hp
    simp only [D.pds, PyData.hasDictAll, Bool.or_eq_false_iff] at hn
    exact DpAll.cons (RD.dp d v h1 hp.1 hn.1) (RDs.dp ds r h2 hp.2 hn.2)
end
/-- x in a list of any data -/
def RInL (neg : Bool) : D → D → D → Prop
  | x, .lst ds, z => x.eqOk ∧ D.eqOk (.lst ds) ∧ x.pd.hasDict = false ∧ PyData.hasDictAll (D.pds ds) = false ∧ z = .bl (if neg then !(ds.any fun d => d.eqv x) else ds.any fun d => d.eqv x)
  | _, _, _ => False
/-- x in a tuple or list of flat things -/
def D.flat : D → Bool
  | .non | .bl _ | .int _ | .str _ => true
  | _ => false
def RInF (neg : Bool) : D → D → D → Prop
  | x, .lst ds, z => x.flat = true ∧ ds.all D.flat = true ∧ z = .bl (if neg then !(ds.any fun d => d.eqv x) else ds.any fun d => d.eqv x)
  | x, .tup ds, z => x.flat = true ∧ ds.all D.flat = true ∧ z = .bl (if neg then !(ds.any fun d => d.eqv x) else ds.any fun d => d.eqv x)
  | _, _, _ => False
theorem flat_V {H : Hp} {d : D} {v : V} (h : RD c H d v) (f : d.flat = true) : flatV v = true ∧ scV d = some v := by
  cases d <;> simp only [D.flat, Bool.false_eq_true] at f <;> (simp only [RD] at h; subst h; exact ⟨rfl, rfl⟩)
theorem eqv_V {H : Hp} {d e : D} {v u : V} (h : RD c H d v) (f : d.flat = true) (h' : RD c H e u) (f' : e.flat = true) : eqV v u = d.eqv e := by
  cases d <;> simp only [D.flat, Bool.false_eq_true] at f <;> cases e <;> simp only [D.flat, Bool.false_eq_true] at f' <;>
    (simp only [RD] at h h'; subst h; subst h'; simp [eqV, D.eqv, D.pd, PyData.eqv, PyProof.Rows.b2i])
theorem any_V {H : Hp} {x : D} {u : V} (h' : RD c H x u) (f' : x.flat = true) : ∀ {ds : List D} {vs : List V}, RDs c H ds vs → ds.all D.flat = true → vs.all flatV = true ∧ inV u vs = ds.any fun d => d.eqv x
  | [], vs, h, _ => by simp only [RDs] at h; subst h; exact ⟨rfl, rfl⟩
  | d :: ds, vs, h, f => by
    simp only [RDs] at h
    obtain ⟨v, r, rfl, h1, h2⟩ := h
    simp only [List.all_cons, Bool.and_eq_true] at f
    obtain ⟨g1, g2⟩ := any_V h' f' h2 f.2
    refine ⟨by simp only [List.all_cons, Bool.and_eq_true]; exact ⟨(flat_V h1 f.1).1, g1⟩, ?_⟩
    unfold inV at g2 ⊢
    rw [List.any_cons, List.any_cons, g2, eqv_V h1 f.1 h' f']
theorem does_inF (neg : Bool) : Does2 c (rIn c.K neg) (RInF neg) := fun H x y dx dy d h1 h2 h => by
  unfold RInF at h
  split at h
  · obtain ⟨f1, f2, rfl⟩ := h
    simp only [RD] at h2
    obtain ⟨a, vs, rfl, h3, h4⟩ := h2
    obtain ⟨g1, g2⟩ := any_V h1 f1 h4 f2
    exact ⟨_, rfl, fun Q q => ⟨a, vs, rfl, .inl (SqL.of h3), (flat_V h1 f1).1, g1, by rw [g2]; exact q⟩⟩
  · obtain ⟨f1, f2, rfl⟩ := h
    simp only [RD] at h2
    obtain ⟨a, vs, rfl, h3, h4⟩ := h2
    obtain ⟨g1, g2⟩ := any_V h1 f1 h4 f2
    exact ⟨_, rfl, fun Q q => ⟨a, vs, rfl, .inr (SqT.of h3), (flat_V h1 f1).1, g1, by rw [g2]; exact q⟩⟩
  · exact h.elim
theorem any_pd (x : D) : ∀ ds : List D, ((D.pds ds).any fun z => PyData.eqv z x.pd) = ds.any fun d => d.eqv x
  | [] => rfl
  | d :: ds => by simp only [D.pds, List.any_cons, any_pd x ds]; rfl
theorem cd_in (hk : c.K = X.K) : CmpD X c .In (RInF false) := ⟨_, by rw [hk]; exact op_in_seq, does_inF false⟩
theorem cd_notin (hk : c.K = X.K) : CmpD X c .NotIn (RInF true) := ⟨_, by rw [hk]; exact op_notIn_seq, does_inF true⟩
theorem cd_inL (hk : c.K = X.K) (hu : X.A.units + 65 < cLine) : CmpD X c .In (RInL false) := ⟨_, op_inD hu, fun H x y dx dy d h1 h2 h => by
  unfold RInL at h
  split at h
  · obtain ⟨o1, o2, n1, n2, rfl⟩ := h
    refine ⟨_, rfl, fun Q q => ⟨dx.pd, _, by rw [← hk]; exact RD.dp dx x h1 o1.1 n1, by rw [← hk]; exact RD.dp _ y h2 o2.1 (by simpa [D.pd, PyData.hasDict] using n2), o1.2, o2.2, ?_⟩⟩
    rw [any_pd]; exact q
  · exact h.elim⟩
theorem cd_notinL (hk : c.K = X.K) (hu : X.A.units + 65 < cLine) : CmpD X c .NotIn (RInL true) := ⟨_, op_notInD hu, fun H x y dx dy d h1 h2 h => by
  unfold RInL at h
  split at h
  · obtain ⟨o1, o2, n1, n2, rfl⟩ := h
    refine ⟨_, rfl, fun Q q => ⟨dx.pd, _, by rw [← hk]; exact RD.dp dx x h1 o1.1 n1, by rw [← hk]; exact RD.dp _ y h2 o2.1 (by simpa [D.pd, PyData.hasDict] using n2), o1.2, o2.2, ?_⟩⟩
    rw [any_pd]; exact q
  · exact h.elim⟩

/-! ### built-ins by the views of their arguments -/
def vws (ε : Env) : List Rv → Option (List D)
  | [] => some []
  | r :: rs => (r.vw ε).bind fun d => (vws ε rs).map fun ds => d :: ds
theorem RVs.now {G H : Hp} {σ : L2.St} {ε : Env} {F : FS} (S : Sat c G H σ ε F) : ∀ {rs : List Rv} {vs : List V} {Ft : FS} {ds : List D}, RVs c G H σ rs vs Ft → vws ε rs = some ds → RDs c H ds vs
  | [], vs, Ft, ds, h, e => by
    simp only [vws, Option.some.injEq] at e
    subst e
    simpa only [RDs, RVs] using h
  | r :: rs, vs, Ft, ds, ⟨v, us, F1, F2, e0, _, _, _, h4, h5⟩, e => by
    simp only [vws] at e
    cases q : r.vw ε with
    | none => rw [q] at e; cases e
    | some d =>
      rw [q] at e
      cases q2 : vws ε rs with
      | none => rw [q2] at e; cases e
      | some ds' =>
        rw [q2] at e
        simp only [Option.bind_some, Option.map_some, Option.some.injEq] at e
        subst e
        simp only [RDs]
        exact ⟨v, us, e0, h4.now S q, RVs.now S h5 q2⟩
def DoesL (c : CT) (r : List V → Hp → VK → Prop) (R : List D → D → Prop) : Prop := ∀ H xs ds d, RDs c H ds xs → R ds d → ∃ v, scV d = some v ∧ ∀ Q : VK, Q v H → r xs H Q
def tVL (R : List D → D → Prop) (ta : AT) : ET := fun ε Q EX => ta ε (fun rs ε1 => ∃ ds d, vws ε1 rs = some ds ∧ R ds d ∧ Q (.d d) ε1) EX
theorem vl_core {R : List D → D → Prop} {r : List V → Hp → VK → Prop} {es : List Expr} {t : AT} (hr : DoesL c r R) (ha : DA X c W wa es t) :
    ∃ ta, PA X es ta ∧ ∀ (G H : Hp) (σ : L2.St) (ε : Env) (F : FS) (Q : EQ) (EX : EXN) (QH : VK), Sat c G H σ ε F → tVL R t ε Q EX → Out c wa G H σ F Q QH → XOut c G H F σ EX W → tCB r ta σ H QH := by
  obtain ⟨ta, p, k⟩ := ha.ex
  refine ⟨ta, p, fun G H σ ε F Q EX QH S h o xo => ?_⟩
  refine k G H σ ε F _ EX _ S h (fun rs ε' vs G' H' F' Ft ⟨ds, d, e1, e2, q⟩ s S' rv t => ?_) xo
  obtain ⟨v, e3, k3⟩ := hr H' vs ds d (rv.now S' e1) e2
  exact k3 _ (o _ _ v G' H' F' eNo q s S' (scV_rd e3) Tmp.no)
theorem de_fn {R : List D → D → Prop} {r : List V → Hp → VK → Prop} {es : List Expr} {t : AT} {x : Str} {id : String} {p : Pos} (hr : DoesL c r R) (hc : CallR X (.builtin id) r) (ha : DA X c W wa (e :: es) t) (hg : Gl X x) (hm : X.mg x = none) (hv : bootBuiltins x = some (.builtin id))
    (hn : x ≠ "__name__" := by decide) (hdb : (x == ("__debug__" : Str)) = false := by decide)
    (he : starEach (e :: es) X.env = (false, eval e X.env) :: starEach es X.env := by rfl) (hpl : (backTo pos (starEach es X.env)).any (·.1) = false := by rfl) : DE X c W wa (.Call (.Name x p) (e :: es) [] pos) (tVL R t) := by
  obtain ⟨ta, pa, k⟩ := vl_core hr ha
  exact ⟨_, pe_callB hc hg hm hv pa hn hdb he hpl, k⟩
theorem de_ty {R : List D → D → Prop} {r : List V → Hp → VK → Prop} {es : List Expr} {t : AT} {x : Str} {T : String} {p : Pos} (hr : DoesL c r R) (hc : CallR X (.type T) r) (ha : DA X c W wa (e :: es) t) (hg : Gl X x) (hm : X.mg x = none) (hv : bootBuiltins x = some (.type T))
    (hn : x ≠ "__name__" := by decide) (hdb : (x == ("__debug__" : Str)) = false := by decide)
    (he : starEach (e :: es) X.env = (false, eval e X.env) :: starEach es X.env := by rfl) (hpl : (backTo pos (starEach es X.env)).any (·.1) = false := by rfl) : DE X c W wa (.Call (.Name x p) (e :: es) [] pos) (tVL R t) := by
  obtain ⟨ta, pa, k⟩ := vl_core hr ha
  exact ⟨_, pe_callTy hc hg hm hv pa hn hdb he hpl, k⟩
end
end DL

namespace DL
open PySem PySem.Spec L2

/-! ### sequences, as they are now -/
def flatT : List T → Option (List D)
  | [] => some []
  | .fr d :: r => (flatT r).map fun ds => d :: ds
  | _ :: _ => none
inductive Sq where
  | i (n : Int) | s (x : Str) | l (ds : List D) | t (ds : List D) | no
def D.sq : D → Sq
  | .int n => .i n
  | .str x => .s x
  | .lst ds => .l ds
  | .tup ds => .t ds
  | _ => .no
/-- a temporary list may hold lists of its own: they are frozen; a slot's may not -/
def Rv.sq (ε : Env) : Rv → Sq
  | .d x => x.sq
  | .own (.lst ts) => .l (T.ds ts)
  | .own (.fr x) => x.sq
  | .own _ => .no
  | .at i p => match (ε.at i).bind fun t => t.get p with
    | some (.fr x) => x.sq
    | some (.lst ts) => match flatT ts with
      | some ds => .l ds
      | none => .no
    | _ => .no
section
variable {c : CT} {G H G' H' G0 H0 : Hp} {σ : L2.St} {ε ε' : Env} {F F' F0 Ft : FS} {v : V} {w w' : Bool} {r : Rv}
theorem flat_rds : ∀ {ts : List T} {vs : List V} {F : FS} {ds : List D}, RTs c G H ts vs F → flatT ts = some ds → RDs c G ds vs
  | [], vs, F, ds, h, e => by
    simp only [flatT, Option.some.injEq] at e
    subst e
    simpa only [RTs, RDs] using h
  | .fr d :: r, vs, F, ds, h, e => by
    simp only [flatT] at e
    cases q : flatT r with
    | none => rw [q] at e; cases e
    | some ds' =>
      rw [q] at e
      simp only [Option.map_some, Option.some.injEq] at e
      subst e
      simp only [RTs, RT] at h
      obtain ⟨v, us, F1, F2, rfl, _, _, _, h4, h5⟩ := h
      simp only [RDs]
      exact ⟨v, us, rfl, h4, flat_rds h5 q⟩
  | .lst _ :: r, vs, F, ds, h, e => by cases e
  | .dic _ _ :: r, vs, F, ds, h, e => by cases e
  | .obj _ _ _ :: r, vs, F, ds, h, e => by cases e
/-- what a sequence's reading says -/
def SqP (c : CT) (G H : Hp) (v : V) : Sq → Prop
  | .i n => v = .int n
  | .s x => v = .str x
  | .l ds => ∃ a vs, v = .ref a ∧ H a = some (.lst vs) ∧ RDs c G ds vs
  | .t ds => ∃ a vs, v = .ref a ∧ G a = some (.tup vs) ∧ RDs c G ds vs
  | .no => True
theorem rd_sq (s : Sub G H) {d : D} (h : RD c G d v) : SqP c G H v d.sq := by
  cases d <;> simp only [RD] at h <;> simp only [D.sq, SqP]
  case int => exact h
  case str => exact h
  case tup => exact h
  case lst => obtain ⟨a, vs, e, h1, h2⟩ := h; exact ⟨a, vs, e, s _ _ h1, h2⟩
theorem RV.sq (S : Sat c G H σ ε F) (h : RV c G H σ r v Ft) : SqP c (frz G H Ft) H v (r.sq ε) := by
  cases r with
  | d x => exact rd_sq (frz_sub S.gh) (RD.mono (sub_frz S.gh) x v h)
  | own t =>
    cases t with
    | fr x =>
      simp only [RV, RT] at h
      exact rd_sq (frz_sub S.gh) (RD.mono (sub_frz S.gh) x v h)
    | lst ts =>
      simp only [RV] at h
      have h' := RT.frz S.gh h
      simp only [RT] at h
      obtain ⟨a, vs, F', rfl, h1, h2, h3, h4, h5⟩ := h
      simp only [T.d, RD] at h'
      obtain ⟨a', vs', e, k1, k2⟩ := h'
      cases e
      simp only [Rv.sq, SqP]
      exact ⟨a, vs', rfl, frz_sub S.gh _ _ k1, k2⟩
    | dic _ _ => trivial
    | obj _ _ _ => trivial
  | «at» i p =>
    simp only [Rv.sq]
    obtain ⟨v0, h1, h2⟩ := h
    cases q : ε.at i with
    | none => trivial
    | some t =>
      simp only [Option.bind_some]
      cases q2 : t.get p with
      | none => trivial
      | some u =>
        obtain ⟨Fu, g1, g2⟩ := S.part q q2 h1 h2
        cases u with
        | fr x =>
          simp only [RT] at g1
          exact rd_sq (frz_sub S.gh) (RD.mono (sub_frz S.gh) x v g1)
        | lst ts =>
          simp only [RT] at g1
          obtain ⟨a, vs, F', rfl, k1, k2, k3, k4, k5⟩ := g1
          simp only
          cases q3 : flatT ts with
          | none => trivial
          | some ds => exact ⟨a, vs, rfl, k1, RDs.mono (sub_frz S.gh) _ _ (flat_rds k5 q3)⟩
        | dic _ _ => trivial
        | obj _ _ _ => trivial
theorem SqP.mono {sq : Sq} (h : SqP c G H v sq) (s : Sub G G') : SqP c G' H v sq := by
  cases sq with
  | i n => exact h
  | s x => exact h
  | l ds => obtain ⟨a, vs, e, h1, h2⟩ := h; exact ⟨a, vs, e, h1, RDs.mono s _ _ h2⟩
  | t ds => obtain ⟨a, vs, e, h1, h2⟩ := h; exact ⟨a, vs, e, s _ _ h1, RDs.mono s _ _ h2⟩
  | no => trivial
theorem frz_mono {F F' : FS} (h : ∀ a, F a → F' a) (s : Sub G H) : Sub (frz G H F) (frz G H F') := fun a o e => by
  by_cases q : F' a
  · rw [frz_in q]; exact frz_sub s a o e
  · rw [frz_out q]; rw [frz_out fun z => q (h a z)] at e; exact e
theorem Tmp.or {Fa Fb : FS} (ta : Tmp H0 F0 G H F Fa) (tb : Tmp H0 F0 G H F Fb) : Tmp H0 F0 G H F (fun z => Fa z ∨ Fb z) :=
  ⟨fun z q => q.elim (ta.dj z) (tb.dj z), fun z q => q.elim (ta.g z) (tb.g z), fun z q => q.elim (ta.fd z) (tb.fd z), fun z q => q.elim (ta.n z) (tb.n z)⟩
theorem RDs.fr : ∀ {ds : List D} {vs : List V}, RDs c G ds vs → RTs c G H (ds.map T.fr) vs eNo
  | [], vs, h => by simp only [RDs] at h; simp only [List.map_nil, RTs]; exact h
  | d :: ds, vs, h => by
    simp only [RDs] at h
    obtain ⟨v, r, rfl, h1, h2⟩ := h
    rw [List.map_cons]
    simp only [RTs, RT]
    exact ⟨v, r, eNo, eNo, rfl, fun _ q => q, fun _ q => q, fun _ q => q.elim, h1, RDs.fr h2⟩
/-- a new list of what is frozen -/
theorem newL (s : Step w G0 H0 F0 G H F) (S : Sat c G H σ ε F) {p : Addr} {zs : List V} {ds : List D} (hn : H p = none) (h : RDs c G ds zs) :
    Step w G0 H0 F0 G (upd H p (.lst zs)) F ∧ Sat c G (upd H p (.lst zs)) σ ε F ∧ RV c G (upd H p (.lst zs)) σ (.own (.lst (ds.map T.fr))) (.ref p) (fun z => z = p) ∧ Tmp H0 F0 G (upd H p (.lst zs)) F (fun z => z = p) := by
  refine ⟨s.then0 (Step.growH hn), S.growH hn, ?_, ⟨fun a e z => ?_, fun a e => by subst e; exact S.gh.no hn, fun a e => by subst e; exact ⟨_, upd_same⟩, fun a e => ?_⟩⟩
  · simp only [RV, RT]
    exact ⟨p, zs, eNo, rfl, upd_same, rfl, fun z => z, fun _ z => z.elim, RDs.fr h⟩
  · subst e
    obtain ⟨o, e⟩ := S.fd a z
    rw [hn] at e; cases e
  · subst e
    rcases s.no hn with z | z
    · exact .inr z
    · exact .inl z
/-- a new tuple -/
theorem newT (s : Step w G0 H0 F0 G H F) (S : Sat c G H σ ε F) {p : Addr} {zs : List V} {ds : List D} (hn : H p = none) (h : RDs c G ds zs) :
    Step w G0 H0 F0 (upd G p (.tup zs)) (upd H p (.tup zs)) F ∧ Sat c (upd G p (.tup zs)) (upd H p (.tup zs)) σ ε F ∧ RV c (upd G p (.tup zs)) (upd H p (.tup zs)) σ (.d (.tup ds)) (.ref p) eNo := by
  refine ⟨s.then0 (Step.grow hn S.gh), S.grow hn, ?_⟩
  simp only [RV, RD]
  exact ⟨p, zs, rfl, upd_same, RDs.mono (Sub.new (S.gh.no hn)) _ _ h⟩
end

section
variable {X : Cx} {c : CT} {W : WX'} {w wa wb wc : Bool} {a b e : Expr} {ta tb : ET} {pos : Pos}
/-! ### a + b -/
def addQ (x y : Sq) (ε : Env) (Q : EQ) : Prop := match x, y with
  | .i n, .i m => Q (.d (.int (n + m))) ε
  | .s x, .s y => x.length + y.length ≤ sizeLine ∧ Q (.d (.str (x ++ y))) ε
  | .l xs, .l ys => xs.length + ys.length ≤ sizeLine ∧ Q (.own (.lst ((xs ++ ys).map .fr))) ε
  | .t xs, .t ys => xs.length + ys.length ≤ sizeLine ∧ Q (.d (.tup (xs ++ ys))) ε
  | _, _ => False
def tAd (wb : Bool) (ta tb : ET) : ET := fun ε Q EX => t2 wb ta tb (fun ra rb ε2 => addQ (ra.sq ε2) (rb.sq ε2) ε2 Q) EX ε
theorem de_add (hk : c.K = X.K) (ha : DE X c W wa a ta) (hb : DE X c W wb b tb) : DE X c W (wa || wb) (.BinOp a .Add b pos) (tAd wb ta tb) := by
  obtain ⟨tea, teb, pa, pb, k⟩ := two ha hb
  refine ⟨_, pe_op (((op_add (X := X)).or op_add_str).or (op_cat.or op_catA)) pa pb, fun G H σ ε F Q EX QH S h o xo => ?_⟩
  refine k G H σ ε F _ EX _ S h xo fun r1 r2 ε2 x y G2 H2 F2 Fa Fb h s S2 v1 v2 t1 t2 dj _ => ?_
  have tt := t1.or t2
  have q1 := (v1.sq S2).mono (frz_mono (F' := fun z => Fa z ∨ Fb z) (fun _ z => .inl z) S2.gh)
  have q2 := (v2.sq S2).mono (frz_mono (F' := fun z => Fa z ∨ Fb z) (fun _ z => .inr z) S2.gh)
  have s3 := tt.step s
  have S3 := S2.frzT tt.dj
  generalize hx : r1.sq ε2 = sx at h q1
  generalize hy : r2.sq ε2 = sy at h q2
  unfold addQ at h
  split at h
  · exact .inl (.inl ⟨_, _, q1, q2, o _ _ _ G2 H2 F2 eNo h s S2 (by simp only [RV, RD]) Tmp.no⟩)
  · exact .inl (.inr ⟨_, _, q1, q2, h.1, o _ _ _ G2 H2 F2 eNo h.2 s S2 (by simp only [RV, RD]) Tmp.no⟩)
  · obtain ⟨a1, vs, rfl, k1, k2⟩ := q1
    obtain ⟨b1, us, rfl, k3, k4⟩ := q2
    refine .inr (.inl ⟨a1, b1, vs, us, rfl, rfl, k1, k3, by rw [← k2.len, ← k4.len]; exact h.1, fun p hp => ?_⟩)
    obtain ⟨g1, g2, g3, g4⟩ := newL s3 S3 hp (k2.app k4)
    exact o _ _ _ _ _ _ _ h.2 g1 g2 g3 g4
  · obtain ⟨a1, vs, rfl, k1, k2⟩ := q1
    obtain ⟨b1, us, rfl, k3, k4⟩ := q2
    rename_i xs ys
    have sf := (frz_sub (F := fun z => Fa z ∨ Fb z) S2.gh)
    refine .inr (.inr ⟨a1, b1, vs, us, rfl, rfl, SqT.of (sf _ _ k1), SqT.of (sf _ _ k3), by rw [← k2.len, ← k4.len]; exact h.1, fun e => ?_, fun _ e => ?_, fun _ _ p hp => ?_⟩)
    · subst e
      have e0 : xs = [] := by have := k2.len; simpa using this
      subst e0
      exact o _ _ _ _ H2 F2 eNo h.2 s3 S3 (by simp only [RV, RD, List.nil_append]; exact ⟨b1, us, rfl, k3, k4⟩) Tmp.no
    · subst e
      have e0 : ys = [] := by have := k4.len; simpa using this
      subst e0
      exact o _ _ _ _ H2 F2 eNo h.2 s3 S3 (by simp only [RV, RD, List.append_nil]; exact ⟨a1, vs, rfl, k1, k2⟩) Tmp.no
    · obtain ⟨g1, g2, g3⟩ := newT s3 S3 hp (k2.app k4)
      exact o _ _ _ _ _ _ _ h.2 g1 g2 g3 Tmp.no
  · exact h.elim

/-! ### a * b: ints; a list, a tuple n times -/
def mulQ (x y : Sq) (ε : Env) (Q : EQ) : Prop := match x, y with
  | .i n, .i m => CMulW n m ∧ Q (.d (.int (n * m))) ε
  | .l xs, .i m => 0 ≤ m ∧ m < 2 ^ 40 ∧ xs.length * m.toNat ≤ sizeLine ∧ Q (.own (.lst ((List.replicate m.toNat xs).flatten.map .fr))) ε
  | _, _ => False
def tMu (wb : Bool) (ta tb : ET) : ET := fun ε Q EX => t2 wb ta tb (fun ra rb ε2 => mulQ (ra.sq ε2) (rb.sq ε2) ε2 Q) EX ε
theorem de_mul (hk : c.K = X.K) (ha : DE X c W wa a ta) (hb : DE X c W wb b tb) : DE X c W (wa || wb) (.BinOp a .Mult b pos) (tMu wb ta tb) := by
  obtain ⟨tea, teb, pa, pb, k⟩ := two ha hb
  refine ⟨_, pe_op ((op_mulW (X := X)).or op_rep) pa pb, fun G H σ ε F Q EX QH S h o xo => ?_⟩
  refine k G H σ ε F _ EX _ S h xo fun r1 r2 ε2 x y G2 H2 F2 Fa Fb h s S2 v1 v2 t1 t2 dj _ => ?_
  have tt := t1.or t2
  have q1 := (v1.sq S2).mono (frz_mono (F' := fun z => Fa z ∨ Fb z) (fun _ z => .inl z) S2.gh)
  have q2 := (v2.sq S2).mono (frz_mono (F' := fun z => Fa z ∨ Fb z) (fun _ z => .inr z) S2.gh)
  have s3 := tt.step s
  have S3 := S2.frzT tt.dj
  generalize hx : r1.sq ε2 = sx at h q1
  generalize hy : r2.sq ε2 = sy at h q2
  unfold mulQ at h
  split at h
  · exact .inl ⟨_, _, q1, q2, h.1, o _ _ _ G2 H2 F2 eNo h.2 s S2 (by simp only [RV, RD]) Tmp.no⟩
  · obtain ⟨a1, vs, rfl, k1, k2⟩ := q1
    obtain ⟨h1, h2, h3, h4⟩ := h
    refine .inr ⟨a1, _, vs, rfl, q2, k1, by omega, by omega, by rw [← k2.len]; exact h3, fun p hp => ?_⟩
    obtain ⟨g1, g2, g3, g4⟩ := newL s3 S3 hp (k2.rep _)
    exact o _ _ _ _ _ _ _ h4 g1 g2 g3 g4
  · exact h.elim

/-! ### a slice -/
def cutL {α : Type} (xs : List α) (lo hi : Option Int) : List α := (xs.drop (HT.sIx xs.length 0 lo)).take (HT.sIx xs.length xs.length hi - HT.sIx xs.length 0 lo)
structure DO (X : Cx) (c : CT) (W : WX') (e : Option Expr) (t : Env → (Option Int → Env → Prop) → EXN → Prop) (w : Bool) : Prop where
  ex : ∃ to, PO X e to ∧ ∀ (G H : Hp) (σ : L2.St) (ε : Env) (F : FS) (Q : Option Int → Env → Prop) (EX : EXN) (QH : Option Int → Hp → Prop), Sat c G H σ ε F → t ε Q EX →
    (∀ b ε' G' H' F', Q b ε' → Step w G H F G' H' F' → Sat c G' H' σ ε' F' → QH b H') → XOut c G H F σ EX W → to σ H QH
def tO0 : Env → (Option Int → Env → Prop) → EXN → Prop := fun ε Q _ => Q none ε
def tO1 (t : ET) : Env → (Option Int → Env → Prop) → EXN → Prop := fun ε Q EX => t ε (fun r ε1 => ∃ i, r.vw ε1 = some (.int i) ∧ Q (some i) ε1) EX
theorem do_none : DO X c W none tO0 false := ⟨_, po_none, fun G H σ ε F Q EX QH S h o _ => o none ε G H F h Step.refl S⟩
theorem do_some (h : DE X c W wa e ta) : DO X c W (some e) (tO1 ta) wa := by
  obtain ⟨te, p, k⟩ := h.ex
  refine ⟨_, po_some p, fun G H σ ε F Q EX QH S h o xo => ?_⟩
  refine k G H σ ε F _ EX _ S h (fun r ε' v G' H' F' Ft ⟨i, e1, q⟩ s S' rv t => ?_) xo
  exact ⟨i, rd_int (rv.now S' e1), o _ ε' G' H' F' q s S'⟩
def slQ (x : Sq) (lo hi : Option Int) (ε : Env) (Q : EQ) : Prop := match x with
  | .l ds => Q (.own (.lst ((cutL ds lo hi).map .fr))) ε
  | .t ds => Q (.d (.tup (cutL ds lo hi))) ε
  | .s x => x.length ≤ sizeLine ∧ Q (.d (.str (cutS x lo hi))) ε
  | _ => False
def tSc (wl wh : Bool) (ta : ET) (tl th : Env → (Option Int → Env → Prop) → EXN → Prop) : ET := fun ε Q EX => ta ε (fun ra ε1 => ra.pend (wl || wh) ∧ tl ε1 (fun lo ε2 => th ε2 (fun hi ε3 => slQ (ra.sq ε3) lo hi ε3 Q) EX) EX) EX
theorem RDs.cut {G : Hp} {ds : List D} {vs : List V} (h : RDs c G ds vs) (lo hi : Option Int) : RDs c G (cutL ds lo hi) (cutV vs lo hi) := by
  unfold cutL cutV
  rw [h.len]
  exact (h.drop _).take _
theorem de_slice {lo hi : Option Expr} {tl th : Env → (Option Int → Env → Prop) → EXN → Prop} {wl wh : Bool} {p2 : Pos} (hk : c.K = X.K) (ha : DE X c W wa a ta) (hl : DO X c W lo tl wl) (hh : DO X c W hi th wh) :
    DE X c W (wa || (wl || wh)) (.Subscript a (.Slice lo hi none p2) pos) (tSc wl wh ta tl th) := by
  obtain ⟨tea, pa, ka⟩ := one ha
  obtain ⟨tlo, pl, kl⟩ := hl.ex
  obtain ⟨thi, ph, kh⟩ := hh.ex
  refine ⟨_, pe_slice ((sl_list (X := X)).or (sl_tupA.or sl_str)) pa pl ph, fun G H σ ε F Q EX QH S h o xo => ?_⟩
  refine ka G H σ ε F _ EX _ S h xo fun r1 ε1 x G1 H1 F1 Fa ⟨pd, h1⟩ s1 S1 v1 t1 xo1 => ?_
  refine kl G1 H1 σ ε1 F1 _ EX _ S1 h1 (fun l ε2 G2 H2 F2 h2 s2 S2 => ?_) xo1
  refine kh G2 H2 σ ε2 F2 _ EX _ S2 h2 (fun u ε3 G3 H3 F3 h3 s3 S3 => ?_) (xo1.step s2)
  have s23 := s2.trans s3
  have v3 := v1.keep s23 pd t1.dj
  have t3 := t1.keep s23
  have s := s1.trans s23
  have q1 := v3.sq S3
  have s4 := t3.step s
  have S4 := S3.frzT t3.dj
  generalize hx : r1.sq ε3 = sx at h3 q1
  unfold slQ at h3
  split at h3
  · obtain ⟨a1, vs, rfl, k1, k2⟩ := q1
    refine .inl ⟨a1, vs, rfl, SqL.of k1, fun p hp => ?_⟩
    obtain ⟨g1, g2, g3, g4⟩ := newL s4 S4 hp (k2.cut l u)
    exact o _ _ _ _ _ _ _ h3 g1 g2 g3 g4
  · rename_i ds
    obtain ⟨a1, vs, rfl, k1, k2⟩ := q1
    refine .inr (.inl ⟨a1, vs, rfl, SqT.of (frz_sub S3.gh _ _ k1), fun ⟨e1, e2⟩ => ?_, fun _ p hp => ?_⟩)
    · have e3 : cutL ds l u = ds := by
        unfold cutL
        rw [k2.len, e1, e2, List.drop_zero, Nat.sub_zero, ← k2.len, List.take_length]
      exact o _ _ _ _ H3 F3 eNo h3 s4 S4 (by rw [e3]; simp only [RV, RD]; exact ⟨a1, vs, rfl, k1, k2⟩) Tmp.no
    · obtain ⟨g1, g2, g3⟩ := newT s4 S4 hp (k2.cut l u)
      exact o _ _ _ _ _ _ _ h3 g1 g2 g3 Tmp.no
  · exact .inr (.inr ⟨_, q1, h3.1, o _ _ _ _ _ _ eNo h3.2 s S3 (by simp only [RV, RD]) Tmp.no⟩)
  · exact h3.elim

/-! ### xs[i] -/
def ixQ (r : Rv) (j : Int) (ε : Env) (Q : EQ) : Prop := match r.tr ε with
  | some (.fr (.tup ds)) => ∃ d, atI ds j = some d ∧ Q (.d d) ε
  | some (.fr (.lst ds)) => ∃ d, atI ds j = some d ∧ Q (.d d) ε
  | some (.fr (.scr ns)) => ∃ n, atI ns j = some n ∧ Q (.d (.int n)) ε
  | some (.fr (.str x)) => x.length ≤ sizeLine ∧ ∃ ch, atI x.cps.toList j = some ch ∧ Q (.d (.str ⟨#[ch]⟩)) ε
  | some (.lst ts) => ∃ k t, ixN ts.length j = some k ∧ ts[k]? = some t ∧ match t with
    | .fr d => Q (.d d) ε
    | t => match r with
      | .at i p => Q (.at i (p ++ [k])) ε
      | .own _ => Q (.own t) ε
      | .d _ => False
  | _ => False
def tIx (wb : Bool) (ta tb : ET) : ET := fun ε Q EX => t2 wb ta tb (fun ra rb ε2 => ∃ j, rb.vw ε2 = some (.int j) ∧ ixQ ra j ε2 Q) EX ε
theorem atI_rd {G : Hp} {ds : List D} {vs : List V} {j : Int} {d : D} (h : RDs c G ds vs) (e : atI ds j = some d) : ∃ v, atI vs j = some v ∧ RD c G d v := by
  unfold atI at e ⊢
  rw [h.len] at e
  cases q : ixN vs.length j with
  | none => rw [q] at e; cases e
  | some k =>
    rw [q] at e
    obtain ⟨v, e1, h1⟩ := h.get e
    exact ⟨v, e1, h1⟩
theorem VPath.snoc {H : Hp} : ∀ {v : V} {p : List Nat} {u : V} {k : Nat} {a : Addr} {o : HO} {x : V}, VPath H v p u → u = .ref a → H a = some o → hoKid o k = some x → VPath H v (p ++ [k]) x
  | v, [], u, k, a, o, x, h, e, h1, h2 => ⟨a, o, x, (show u = v from h) ▸ e, h1, h2, rfl⟩
  | v, _ :: _, u, k, a, o, x, ⟨b, o', y, e', g1, g2, g3⟩, e, h1, h2 => ⟨b, o', y, e', g1, g2, VPath.snoc g3 e h1 h2⟩
theorem RTs.get {G H : Hp} {ts : List T} {vs : List V} {F : FS} {k : Nat} {t : T} (h : RTs c G H ts vs F) (e : ts[k]? = some t) : ∃ x Fk, vs[k]? = some x ∧ RT c G H t x Fk ∧ (∀ a, Fk a → F a) :=
  let ⟨x, Fk, e1, g1, g2, _⟩ := RTs.focus h e
  ⟨x, Fk, e1, g1, g2⟩
theorem Tmp.sub {H0 G H : Hp} {F0 F Ft Ft' : FS} (t : Tmp H0 F0 G H F Ft) (h : ∀ a, Ft' a → Ft a) : Tmp H0 F0 G H F Ft' := ⟨fun a q => t.dj a (h a q), fun a q => t.g a (h a q), fun a q => t.fd a (h a q), fun a q => t.n a (h a q)⟩
theorem de_ix (hk : c.K = X.K) (hs : PlainIx b) (ha : DE X c W wa a ta) (hb : DE X c W wb b tb) : DE X c W (wa || wb) (.Subscript a b pos) (tIx wb ta tb) := by
  obtain ⟨tea, teb, pa, pb, k⟩ := two ha hb
  refine ⟨_, pe_ix ix_seq pa pb hs, fun G H σ ε F Q EX QH S h o xo => ?_⟩
  refine k G H σ ε F _ EX _ S h xo fun r1 r2 ε2 x y G2 H2 F2 Fa Fb ⟨j, e1, h⟩ s S2 v1 v2 t1 t2 dj _ => ?_
  have ey := rd_int (v2.now S2 e1)
  subst ey
  have fin : ∀ d v, RD c G2 d v → Q (.d d) ε2 → QH v H2 := fun d v z q => o _ _ v G2 H2 F2 eNo q s S2 z Tmp.no
  -- a frozen value
  have frr : ∀ d, r1.tr ε2 = some (.fr d) → RD c G2 d x := fun d e => by
    cases r1 with
    | d z => simp only [Rv.tr, Option.some.injEq, T.fr.injEq] at e; subst e; exact v1
    | own t => simp only [Rv.tr, Option.some.injEq] at e; subst e; simpa only [RV, RT] using v1
    | «at» i p =>
      obtain ⟨v0, g1, g2⟩ := v1
      simp only [Rv.tr] at e
      cases q : ε2.at i with
      | none => rw [q] at e; cases e
      | some t =>
        rw [q] at e
        obtain ⟨Fu, g3, _⟩ := S2.part q e g1 g2
        simpa only [RT] using g3
  unfold ixQ at h
  split at h
  · rename_i ds e
    obtain ⟨d, e2, q⟩ := h
    have z := frr _ e
    simp only [RD] at z
    obtain ⟨a1, vs, rfl, k1, k2⟩ := z
    obtain ⟨v, e3, k3⟩ := atI_rd k2 e2
    exact .inr (.inl ⟨a1, vs, j, v, rfl, rfl, SqT.of (S2.gh _ _ k1), e3, fin d v k3 q⟩)
  · rename_i ds e
    obtain ⟨d, e2, q⟩ := h
    have z := frr _ e
    simp only [RD] at z
    obtain ⟨a1, vs, rfl, k1, k2⟩ := z
    obtain ⟨v, e3, k3⟩ := atI_rd k2 e2
    exact .inl ⟨a1, vs, j, v, rfl, rfl, SqL.of (S2.gh _ _ k1), e3, fin d v k3 q⟩
  · rename_i ns e
    obtain ⟨n, e2, q⟩ := h
    have z := frr _ e
    simp only [RD] at z
    obtain ⟨a1, rfl, k1⟩ := z
    refine .inl ⟨a1, ns.map V.int, j, .int n, rfl, rfl, by rw [← hk]; exact SqL.sub S2.gh k1, ?_, fin (.int n) _ (by simp only [RD]) q⟩
    unfold atI at e2 ⊢
    rw [List.length_map]
    cases q : ixN ns.length j with
    | none => rw [q] at e2; cases e2
    | some k => rw [q] at e2; simp only [Option.bind_some] at e2 ⊢; rw [List.getElem?_map, e2]; rfl
  · rename_i z e
    obtain ⟨hz, ch, e2, q⟩ := h
    have zz := frr _ e
    simp only [RD] at zz
    exact .inr (.inr ⟨z, j, ch, zz, rfl, hz, e2, fin (.str ⟨#[ch]⟩) _ (by simp only [RD]) q⟩)
  · rename_i ts e
    obtain ⟨k, t, e2, e3, h⟩ := h
    have main : ∃ a1 vs Fv, x = .ref a1 ∧ H2 a1 = some (.lst vs) ∧ RTs c G2 H2 ts vs Fv ∧ ((∃ z, r1 = .own z) → ∀ b, Fv b → Fa b) := by
      cases r1 with
      | d z => simp only [Rv.tr, Option.some.injEq, reduceCtorEq] at e
      | own t' =>
        simp only [Rv.tr, Option.some.injEq] at e; subst e
        simp only [RV, RT] at v1
        obtain ⟨a1, vs, F', g1, g2, g3, g4, g5, g6⟩ := v1
        exact ⟨a1, vs, F', g1, g2, g6, fun _ => g5⟩
      | «at» i p =>
        obtain ⟨v0, g1, g2⟩ := v1
        simp only [Rv.tr] at e
        cases q : ε2.at i with
        | none => rw [q] at e; cases e
        | some t' =>
          rw [q] at e
          obtain ⟨Fu, g3, _⟩ := S2.part q e g1 g2
          simp only [RT] at g3
          obtain ⟨a1, vs, F', g1, g2, g3, g4, g5, g6⟩ := g3
          exact ⟨a1, vs, F', g1, g2, g6, fun ⟨z, e⟩ => nomatch e⟩
    obtain ⟨a1, vs, Fv, rfl, k1, k2, k3⟩ := main
    obtain ⟨v, Fk, e4, k4, k5⟩ := k2.get e3
    refine .inl ⟨a1, vs, j, v, rfl, rfl, SqL.of k1, ?_, ?_⟩
    · unfold atI
      rw [← k2.len, e2]
      exact e4
    · split at h
      · exact fin _ v (by simpa only [RT] using k4) h
      · split at h
        · obtain ⟨v0, g1, g2⟩ := v1
          refine o _ _ v G2 H2 F2 eNo h s S2 ⟨v0, g1, g2.snoc rfl k1 e4⟩ Tmp.no
        · exact o _ _ v G2 H2 F2 Fk h s S2 k4 (t1.sub fun b z => k3 ⟨_, rfl⟩ b (k5 b z))
        · exact h.elim
  · exact h.elim
end
end DL

namespace DL
open PySem PySem.Spec L2

section
variable {X : Cx} {c : CT} {W : WX'} {w wa wb wc : Bool} {a b e : Expr} {ta tb : ET} {pos : Pos}

/-! ### powers -/
def CPowW (i j : Int) : Prop := 0 ≤ j ∧ (Builtin.Int.intBits i : Int) * j ≤ 2 ^ 27
theorem op_powW : OpR X (binaryOp .Pow) (rI CPowW fun i j => .int (i ^ j.toNat)) := opI fun _ _ _ _ _ _ _ hc q => PyProof.Rows.pow_int hc.1 hc.2 q
abbrev RPow := RI2c CPowW fun i j => .int (i ^ j.toNat)
theorem de_pow (ha : DE X c W wa a ta) (hb : DE X c W wb b tb) : DE X c W (wa || wb) (.BinOp a .Pow b pos) (tV2 RPow wb ta tb) := de_op op_powW (does_I fun _ _ => rfl) ha hb
theorem powW {i j : Int} (k : Nat) (h : i.natAbs < 2 ^ k) (h0 : 0 ≤ j) (hk : (k : Int) * j ≤ 2 ^ 27) : CPowW i j := by
  refine ⟨h0, Int.le_trans (Int.mul_le_mul_of_nonneg_right ?_ h0) hk⟩
  exact Int.ofNat_le.mpr (PyProof.Rows.intBits_le h)
/-- -a -/
def RNeg : D → D → Prop
  | .int i, z => z = .int (-i)
  | _, _ => False
theorem de_neg (ha : DE X c W wa a ta) : DE X c W wa (.UnaryOp .USub a pos) (tV1 RNeg ta) := de_un un_neg (fun H x dx d h1 h => by
  unfold RNeg at h
  split at h
  · subst h; exact ⟨_, rfl, fun Q q => ⟨_, rd_int h1, q⟩⟩
  · exact h.elim) ha

/-! ### built-in functions -/
theorem rds1 {H : Hp} {d : D} {xs : List V} (h : RDs c H [d] xs) : ∃ v, xs = [v] ∧ RD c H d v := by
  simp only [RDs] at h
  obtain ⟨v, r, rfl, h1, h2⟩ := h
  obtain rfl : r = [] := by simpa only [RDs] using h2
  exact ⟨v, rfl, h1⟩
theorem rds2 {H : Hp} {d e : D} {xs : List V} (h : RDs c H [d, e] xs) : ∃ v u, xs = [v, u] ∧ RD c H d v ∧ RD c H e u := by
  simp only [RDs] at h
  obtain ⟨v, r, rfl, h1, u, s, rfl, h2, h3⟩ := h
  obtain rfl : s = [] := by simpa only [RDs] using h3
  exact ⟨v, u, rfl, h1, h2⟩
def RLen : List D → D → Prop
  | [.str x], z => x.length ≤ sizeLine ∧ z = .int x.length
  | [.lst ds], z => z = .int ds.length
  | [.tup ds], z => z = .int ds.length
  | [.scr ns], z => z = .int ns.length
  | _, _ => False
theorem does_len (hk : c.K = X.K) : DoesL c (fun xs H Q => ∃ x n, xs = [x] ∧ LenV X.K x H n ∧ Q (.int n) H) RLen := fun H xs ds d h1 h => by
  unfold RLen at h
  split at h
  · obtain ⟨v, rfl, q⟩ := rds1 h1
    simp only [RD] at q; subst q
    obtain ⟨hx, rfl⟩ := h
    exact ⟨_, rfl, fun Q q => ⟨_, _, rfl, ⟨hx, rfl⟩, q⟩⟩
  · obtain ⟨v, rfl, q⟩ := rds1 h1
    simp only [RD] at q; subst h
    obtain ⟨a, vs, rfl, k1, k2⟩ := q
    exact ⟨_, rfl, fun Q q => ⟨_, _, rfl, .inl ⟨vs, SqL.of k1, k2.len⟩, q⟩⟩
  · obtain ⟨v, rfl, q⟩ := rds1 h1
    simp only [RD] at q; subst h
    obtain ⟨a, vs, rfl, k1, k2⟩ := q
    exact ⟨_, rfl, fun Q q => ⟨_, _, rfl, .inr ⟨vs, SqT.of k1, k2.len⟩, q⟩⟩
  · obtain ⟨v, rfl, q⟩ := rds1 h1
    simp only [RD] at q; subst h
    obtain ⟨a, rfl, k1⟩ := q
    exact ⟨_, rfl, fun Q q => ⟨_, _, rfl, .inl ⟨_, by rw [← hk]; exact k1, by simp⟩, q⟩⟩
  · exact h.elim
def RAbs : List D → D → Prop
  | [.int i], z => z = .int (if i < 0 then -i else i)
  | _, _ => False
theorem does_abs : DoesL c (fun xs H Q => ∃ i, xs = [.int i] ∧ Q (.int (if i < 0 then -i else i)) H) RAbs := fun H xs ds d h1 h => by
  unfold RAbs at h
  split at h
  · obtain ⟨v, rfl, q⟩ := rds1 h1
    simp only [RD] at q; subst q; subst h
    exact ⟨_, rfl, fun Q q => ⟨_, rfl, q⟩⟩
  · exact h.elim
def RMax2 : List D → D → Prop
  | [.int i, .int j], z => z = .int (if j > i then j else i)
  | _, _ => False
def RMin2 : List D → D → Prop
  | [.int i, .int j], z => z = .int (if j < i then j else i)
  | _, _ => False
theorem does_max : DoesL c (fun xs H Q => ∃ i j, xs = [.int i, .int j] ∧ Q (.int (if j > i then j else i)) H) RMax2 := fun H xs ds d h1 h => by
  unfold RMax2 at h
  split at h
  · obtain ⟨v, u, rfl, q, q2⟩ := rds2 h1
    simp only [RD] at q q2; subst q; subst q2; subst h
    exact ⟨_, rfl, fun Q q => ⟨_, _, rfl, q⟩⟩
  · exact h.elim
theorem does_min : DoesL c (fun xs H Q => ∃ i j, xs = [.int i, .int j] ∧ Q (.int (if j < i then j else i)) H) RMin2 := fun H xs ds d h1 h => by
  unfold RMin2 at h
  split at h
  · obtain ⟨v, u, rfl, q, q2⟩ := rds2 h1
    simp only [RD] at q q2; subst q; subst q2; subst h
    exact ⟨_, rfl, fun Q q => ⟨_, _, rfl, q⟩⟩
  · exact h.elim
def RInt : List D → D → Prop
  | [.int i], z => z = .int i
  | [.bl k], z => z = .int (if k then 1 else 0)
  | _, _ => False
theorem does_int : DoesL c (fun xs H Q => (∃ i, xs = [.int i] ∧ Q (.int i) H) ∨ ∃ k, xs = [.bl k] ∧ Q (.int (if k then 1 else 0)) H) RInt := fun H xs ds d h1 h => by
  unfold RInt at h
  split at h
  · obtain ⟨v, rfl, q⟩ := rds1 h1
    simp only [RD] at q; subst q; subst h
    exact ⟨_, rfl, fun Q q => .inl ⟨_, rfl, q⟩⟩
  · obtain ⟨v, rfl, q⟩ := rds1 h1
    simp only [RD] at q; subst q; subst h
    exact ⟨_, rfl, fun Q q => .inr ⟨_, rfl, q⟩⟩
  · exact h.elim
def RStr : List D → D → Prop
  | [.int i], z => i.natAbs.log2 < 1920 ∧ z = .str (toString i)
  | _, _ => False
theorem does_str : DoesL c (fun xs H Q => ∃ i, xs = [.int i] ∧ i.natAbs.log2 < 1920 ∧ Q (.str (toString i)) H) RStr := fun H xs ds d h1 h => by
  unfold RStr at h
  split at h
  · obtain ⟨v, rfl, q⟩ := rds1 h1
    simp only [RD] at q; subst q
    obtain ⟨hi, rfl⟩ := h
    exact ⟨_, rfl, fun Q q => ⟨_, rfl, hi, q⟩⟩
  · exact h.elim
/-- all(list of bools), any -/
def blsD : List D → Option (List Bool)
  | [] => some []
  | .bl b :: r => (blsD r).map fun bs => b :: bs
  | _ :: _ => none
theorem blsD_V {H : Hp} : ∀ {ds : List D} {vs : List V} {bs : List Bool}, RDs c H ds vs → blsD ds = some bs → vs = bs.map V.bl
  | [], vs, bs, h, e => by
    simp only [blsD, Option.some.injEq] at e; subst e
    simp only [RDs] at h
    subst h
    rfl
  | d :: ds, vs, bs, h, e => by
    cases d with
    | bl b =>
      simp only [blsD] at e
      cases q : blsD ds with
      | none => rw [q] at e; cases e
      | some bs' =>
        rw [q] at e
        simp only [Option.map_some, Option.some.injEq] at e; subst e
        simp only [RDs] at h
        obtain ⟨v, r, rfl, h1, h2⟩ := h
        simp only [RD] at h1; subst h1
        rw [blsD_V h2 q, List.map_cons]
    | _ => simp [blsD] at e
theorem blsD_map : ∀ bs : List Bool, blsD (bs.map D.bl) = some bs
  | [] => rfl
  | b :: bs => by simp only [List.map_cons, blsD, blsD_map bs, Option.map_some]
def RAll : List D → D → Prop
  | [.lst ds], z => ∃ bs, blsD ds = some bs ∧ z = .bl (bs.all id)
  | _, _ => False
def RAny : List D → D → Prop
  | [.lst ds], z => ∃ bs, blsD ds = some bs ∧ z = .bl (bs.any id)
  | _, _ => False
theorem does_all (hk : c.K = X.K) : DoesL c (rAll X.K) RAll := fun H xs ds d h1 h => by
  unfold RAll at h
  split at h
  · obtain ⟨v, rfl, q⟩ := rds1 h1
    simp only [RD] at q
    obtain ⟨bs, e, rfl⟩ := h
    obtain ⟨a, vs, rfl, k1, k2⟩ := q
    have := blsD_V k2 e
    subst this
    exact ⟨_, rfl, fun Q q => ⟨a, bs, rfl, SqL.of k1, q⟩⟩
  · exact h.elim
theorem does_any (hk : c.K = X.K) : DoesL c (rAny X.K) RAny := fun H xs ds d h1 h => by
  unfold RAny at h
  split at h
  · obtain ⟨v, rfl, q⟩ := rds1 h1
    simp only [RD] at q
    obtain ⟨bs, e, rfl⟩ := h
    obtain ⟨a, vs, rfl, k1, k2⟩ := q
    have := blsD_V k2 e
    subst this
    exact ⟨_, rfl, fun Q q => ⟨a, bs, rfl, SqL.of k1, q⟩⟩
  · exact h.elim
/-- the ints of a list -/
def intsD : List D → Option (List Int)
  | [] => some []
  | .int b :: r => (intsD r).map fun bs => b :: bs
  | _ :: _ => none
theorem intsD_V {H : Hp} : ∀ {ds : List D} {vs : List V} {bs : List Int}, RDs c H ds vs → intsD ds = some bs → vs = bs.map V.int
  | [], vs, bs, h, e => by
    simp only [intsD, Option.some.injEq] at e; subst e
    simp only [RDs] at h
    subst h
    rfl
  | d :: ds, vs, bs, h, e => by
    cases d with
    | int b =>
      simp only [intsD] at e
      cases q : intsD ds with
      | none => rw [q] at e; cases e
      | some bs' =>
        rw [q] at e
        simp only [Option.map_some, Option.some.injEq] at e; subst e
        simp only [RDs] at h
        obtain ⟨v, r, rfl, h1, h2⟩ := h
        simp only [RD] at h1; subst h1
        rw [intsD_V h2 q, List.map_cons]
    | _ => simp [intsD] at e
theorem intsD_map : ∀ bs : List Int, intsD (bs.map D.int) = some bs
  | [] => rfl
  | b :: bs => by simp only [List.map_cons, intsD, intsD_map bs, Option.map_some]
def RSum : List D → D → Prop
  | [.lst ds], z => ∃ ns, intsD ds = some ns ∧ z = .int ns.sum
  | _, _ => False
theorem does_sum (hk : c.K = X.K) : DoesL c (rSum X.K) RSum := fun H xs ds d h1 h => by
  unfold RSum at h
  split at h
  · obtain ⟨v, rfl, q⟩ := rds1 h1
    simp only [RD] at q
    obtain ⟨bs, e, rfl⟩ := h
    obtain ⟨a, vs, rfl, k1, k2⟩ := q
    have := intsD_V k2 e
    subst this
    exact ⟨_, rfl, fun Q q => ⟨a, bs, rfl, SqL.of k1, q⟩⟩
  · exact h.elim
/-- repr -/
def RRep : List D → D → Prop
  | [x], z => x.py = true ∧ x.pd.showable = true ∧ x.pd.depth ≤ 50 ∧ x.pd.shown.length ≤ sizeLine ∧ z = .str x.pd.shown
  | _, _ => False
theorem call_reprD (sm : SmOk X.K) (hu : X.A.units + 64 < cLine) (hgd : X.A.guards = some []) : CallR X (.builtin "repr") (fun xs H Q => ∃ x d, xs = [x] ∧ RD c H d x ∧ d.py = true ∧ d.pd.showable = true ∧ d.pd.depth ≤ 50 ∧ d.pd.shown.length ≤ sizeLine ∧ Q (.str d.pd.shown) H) := by
  intro pins s σ H xs us Q I r h
  obtain ⟨x, d, rfl, h1, h2, h3, h4, h5, q⟩ := h
  obtain ⟨u, rfl, rx⟩ := vals1 r
  obtain ⟨as, rd, hn⟩ := RD.reads sm I d x u h1 rx h2
  generalize d.pd = dd at h3 h4 h5 q rd
  cases rd with
  | none => exact PySem.P.repr_of_none ⟨.str _, H, I.tok _, ⟨_, rfl⟩, q⟩
  | bool b =>
    refine PySem.P.repr_of_bool ⟨.str _, H, I.tok _, ⟨_, rfl⟩, ?_⟩
    exact q
  | int i t => exact PySem.P.repr_of_int (by simpa [PyData.showable] using h3) ⟨.str _, H, I.tok _, ⟨_, rfl⟩, q⟩
  | str z t => exact PySem.P.repr_of_str ⟨.str _, H, I.tok _, ⟨_, rfl⟩, q⟩ (by simpa only [PyData.shown] using h5)
  | list k1 k2 k3 k4 => exact repr_of_reads' (.list k1 k2 k3 k4) h3 (fun _ => hn) hgd (by omega) (fun _ _ e => e) (fun h' u tk hk => ⟨.str _, H, I.kept hk, ⟨_, rfl⟩, q⟩) h5
  | tuple k1 k2 k3 k4 => exact repr_of_reads' (.tuple k1 k2 k3 k4) h3 (fun _ => hn) hgd (by omega) (fun _ _ e => e) (fun h' u tk hk => ⟨.str _, H, I.kept hk, ⟨_, rfl⟩, q⟩) h5
  | dict k1 k2 k3 k4 k5 => exact repr_of_reads' (.dict k1 k2 k3 k4 k5) h3 (fun _ => hn) hgd (by omega) (fun _ _ e => e) (fun h' u tk hk => ⟨.str _, H, I.kept hk, ⟨_, rfl⟩, q⟩) h5
theorem does_repr : DoesL c (fun xs H Q => ∃ x d, xs = [x] ∧ RD c H d x ∧ d.py = true ∧ d.pd.showable = true ∧ d.pd.depth ≤ 50 ∧ d.pd.shown.length ≤ sizeLine ∧ Q (.str d.pd.shown) H) RRep := fun H xs ds d h1 h => by
  unfold RRep at h
  split at h
  · obtain ⟨v, rfl, q⟩ := rds1 h1
    obtain ⟨p1, p2, p3, p4, rfl⟩ := h
    exact ⟨_, rfl, fun Q k => ⟨v, _, rfl, q, p1, p2, p3, p4, k⟩⟩
  · exact h.elim

/-! ### isinstance(x, T), T a built-in type -/
def D.ty : D → Option String
  | .non => some "NoneType"
  | .bl _ => some "bool"
  | .int _ => some "int"
  | .str _ => some "str"
  | .tup _ => some "tuple"
  | .lst _ => some "list"
  | .dic _ _ => some "dict"
  | _ => none
theorem rd_ty {K : PySem.W.Frag} {H : Hp} {d : D} {v : V} {T : String} (h : RD c H d v) (e : d.ty = some T) : TyX K H v (.type T) := by
  cases d <;> simp only [D.ty, Option.some.injEq, reduceCtorEq] at e <;> subst e <;> simp only [RD] at h
  case non => subst h; exact .base .non
  case bl => subst h; exact .base (.bl _)
  case int => subst h; exact .base (.int _)
  case str => subst h; exact .base (.str _)
  case tup => obtain ⟨a, vs, rfl, k1, _⟩ := h; exact .base (.tup k1)
  case lst => obtain ⟨a, vs, rfl, k1, _⟩ := h; exact .base (.lst k1)
  case dic =>
    obtain ⟨a, rfl, ⟨kvs, k1, _⟩ | ⟨kvs, k1, _⟩⟩ := h
    · exact .base (.dK k1)
    · exact .base (.dT k1)
/-- isinstance's answer by the types' names -/
def isK (T : String) (d : D) : Option Bool := d.ty.bind fun t => kitB t T
def tIsi (T : String) (ta : ET) : ET := fun ε Q EX => ta ε (fun r ε1 => ∃ d b, r.vw ε1 = some d ∧ isK T d = some b ∧ Q (.d (.bl b)) ε1) EX
theorem de_isi {T : String} {eT : Expr} {p : Pos} (hk : c.K = X.K) (ha : DE X c W wa a ta) (hT : PE X eT (tC (.ty T))) (hg : Gl X "isinstance") (hm : X.mg "isinstance" = none)
    (he : starEach [a, eT] X.env = (false, eval a X.env) :: starEach [eT] X.env := by rfl) (he2 : starEach [eT] X.env = (false, eval eT X.env) :: starEach [] X.env := by rfl)
    (hpl : (backTo pos (starEach [eT] X.env)).any (·.1) = false := by rfl) : DE X c W wa (.Call (.Name "isinstance" p) [a, eT] [] pos) (tIsi T ta) := by
  obtain ⟨tea, pa, k⟩ := one ha
  refine ⟨_, pe_callB call_isi hg hm (by decide +kernel) (pa_cons pa (pa_cons hT pa_nil he2) he) (by decide) (by decide) he hpl, fun G H σ ε F Q EX QH S h o xo => ?_⟩
  refine k G H σ ε F _ EX _ S h xo fun r1 ε1 x G1 H1 F1 Fa ⟨d, b, e1, e2, q⟩ s1 S1 v1 t1 _ => ?_
  have z := v1.now S1 e1
  unfold isK at e2
  cases q3 : d.ty with
  | none => rw [q3] at e2; cases e2
  | some t =>
    rw [q3] at e2
    exact ⟨x, .ty T, .type t, .type T, b, rfl, ClsV.ty T, rd_ty z q3, kit_ty e2, o _ _ _ G1 H1 F1 eNo q s1 S1 (by simp only [RV, RD]) Tmp.no⟩

/-! ### list(x), tuple(x) -/
/-- the items of a list or tuple -/
def Sq.its : Sq → Option (List D)
  | .l ds => some ds
  | .t ds => some ds
  | _ => none
def tLi (ta : AT) : ET := fun ε Q EX => ta ε (fun rs ε1 => ∃ r ds, rs = [r] ∧ (r.sq ε1).its = some ds ∧ Q (.own (.lst (ds.map .fr))) ε1) EX
def tTu (ta : AT) : ET := fun ε Q EX => ta ε (fun rs ε1 => ∃ r ds, rs = [r] ∧ (r.sq ε1).its = some ds ∧ Q (.d (.tup ds)) ε1) EX
theorem its_V {G H : Hp} {v : V} {sq : Sq} {ds : List D} (s : Sub G H) (h : SqP c G H v sq) (e : sq.its = some ds) : ∃ a vs, v = .ref a ∧ (H a = some (.lst vs) ∨ G a = some (.tup vs)) ∧ RDs c G ds vs := by
  cases sq with
  | l ds' => simp only [Sq.its, Option.some.injEq] at e; subst e; obtain ⟨a, vs, e, h1, h2⟩ := h; exact ⟨a, vs, e, .inl h1, h2⟩
  | t ds' => simp only [Sq.its, Option.some.injEq] at e; subst e; obtain ⟨a, vs, e, h1, h2⟩ := h; exact ⟨a, vs, e, .inr h1, h2⟩
  | _ => cases e
theorem rvs1 {G H : Hp} {σ : L2.St} {r : Rv} {vs : List V} {Ft : FS} (h : RVs c G H σ [r] vs Ft) : ∃ v F1, vs = [v] ∧ RV c G H σ r v F1 ∧ (∀ a, F1 a → Ft a) := by
  obtain ⟨v, us, F1, F2, rfl, h1, h2, h3, h4, h5⟩ := h
  obtain rfl : us = [] := h5
  exact ⟨v, F1, rfl, h4, h1⟩
theorem de_list {t : AT} {p : Pos} (hk : c.K = X.K) (ha : DA X c W wa [a] t) (hg : Gl X "list") (hm : X.mg "list" = none)
    (he : starEach [a] X.env = (false, eval a X.env) :: starEach [] X.env := by rfl) (hpl : (backTo pos (starEach [] X.env)).any (·.1) = false := by rfl) : DE X c W wa (.Call (.Name "list" p) [a] [] pos) (tLi t) := by
  obtain ⟨ta, pa, k⟩ := ha.ex
  refine ⟨_, pe_callTy call_list_of hg hm (by decide +kernel) pa (by decide) (by decide) he hpl, fun G H σ ε F Q EX QH S h o xo => ?_⟩
  refine k G H σ ε F _ EX _ S h (fun rs ε1 vs G1 H1 F1 Ft ⟨r, ds, e0, e1, q⟩ s1 S1 v1 t1 => ?_) xo
  subst e0
  obtain ⟨v, Fv, rfl, v2, hsub⟩ := rvs1 v1
  have t2 := t1.sub hsub
  obtain ⟨a1, us, rfl, k1, k2⟩ := its_V (frz_sub S1.gh) (v2.sq S1) e1
  refine ⟨a1, us, rfl, k1.elim (fun z => .inl (SqL.of z)) (fun z => .inr (SqT.of (frz_sub S1.gh _ _ z))), fun l hl => ?_⟩
  obtain ⟨g1, g2, g3, g4⟩ := newL (t2.step s1) (S1.frzT t2.dj) hl k2
  exact o _ _ _ _ _ _ _ q g1 g2 g3 g4
theorem de_tuple {t : AT} {p : Pos} (hk : c.K = X.K) (ha : DA X c W wa [a] t) (hg : Gl X "tuple") (hm : X.mg "tuple" = none)
    (he : starEach [a] X.env = (false, eval a X.env) :: starEach [] X.env := by rfl) (hpl : (backTo pos (starEach [] X.env)).any (·.1) = false := by rfl) : DE X c W wa (.Call (.Name "tuple" p) [a] [] pos) (tTu t) := by
  obtain ⟨ta, pa, k⟩ := ha.ex
  refine ⟨_, pe_callTy call_tuple_of hg hm (by decide +kernel) pa (by decide) (by decide) he hpl, fun G H σ ε F Q EX QH S h o xo => ?_⟩
  refine k G H σ ε F _ EX _ S h (fun rs ε1 vs G1 H1 F1 Ft ⟨r, ds, e0, e1, q⟩ s1 S1 v1 t1 => ?_) xo
  subst e0
  obtain ⟨v, Fv, rfl, v2, hsub⟩ := rvs1 v1
  have t2 := t1.sub hsub
  obtain ⟨a1, us, rfl, k1, k2⟩ := its_V (frz_sub S1.gh) (v2.sq S1) e1
  rcases k1 with k1 | k1
  · refine ⟨a1, us, rfl, .inl ⟨SqL.of k1, fun l hl => ?_⟩⟩
    obtain ⟨g1, g2, g3⟩ := newT (t2.step s1) (S1.frzT t2.dj) hl k2
    exact o _ _ _ _ _ _ _ q g1 g2 g3 Tmp.no
  · refine ⟨a1, us, rfl, .inr ⟨SqT.of (frz_sub S1.gh _ _ k1), ?_⟩⟩
    exact o _ _ _ _ H1 F1 eNo q (t2.step s1) (S1.frzT t2.dj) (by simp only [RV, RD]; exact ⟨a1, us, rfl, k1, k2⟩) Tmp.no
end
end DL

namespace DL
open PySem PySem.Spec L2

/-! ### the slots that are fixed do not matter for what data is -/
section
variable {K : PySem.W.Frag} {ca : Str → Option Addr} {p1 p2 : Nat → Option V}
mutual
theorem RD.cv {G : Hp} : ∀ (d : D) (v : V), RD ⟨K, ca, p1⟩ G d v → RD ⟨K, ca, p2⟩ G d v
  | .non, _, h => by simpa only [RD] using h
  | .bl _, _, h => by simpa only [RD] using h
  | .int _, _, h => by simpa only [RD] using h
  | .str _, _, h => by simpa only [RD] using h
  | .scr _, _, h => by simpa only [RD] using h
  | .tup ds, v, h => by
    simp only [RD] at h ⊢
    obtain ⟨a, vs, e, h1, h2⟩ := h
    exact ⟨a, vs, e, h1, RDs.cv ds vs h2⟩
  | .lst ds, v, h => by
    simp only [RD] at h ⊢
    obtain ⟨a, vs, e, h1, h2⟩ := h
    exact ⟨a, vs, e, h1, RDs.cv ds vs h2⟩
  | .dic ks ds, v, h => by
    simp only [RD] at h ⊢
    obtain ⟨a, e, ⟨kvs, h1, h2, h3⟩ | ⟨kvs, h1, h2, h3⟩⟩ := h
    · exact ⟨a, e, .inl ⟨kvs, h1, h2, RDs.cv ds _ h3⟩⟩
    · exact ⟨a, e, .inr ⟨kvs, h1, h2, RDs.cv ds _ h3⟩⟩
  | .obj n ns ds, v, h => by
    simp only [RD] at h ⊢
    obtain ⟨a, C, dx, vs, e, h0, h1, h2, h3, h4⟩ := h
    exact ⟨a, C, dx, vs, e, h0, h1, h2, h3, RDs.cv ds vs h4⟩
theorem RDs.cv {G : Hp} : ∀ (ds : List D) (vs : List V), RDs ⟨K, ca, p1⟩ G ds vs → RDs ⟨K, ca, p2⟩ G ds vs
  | [], _, h => by simpa only [RDs] using h
  | d :: ds, vs, h => by
    simp only [RDs] at h ⊢
    obtain ⟨v, r, e, h1, h2⟩ := h
    exact ⟨v, r, e, RD.cv d v h1, RDs.cv ds r h2⟩
end
mutual
theorem RT.cv {G H : Hp} : ∀ (t : T) (v : V) (F : FS), RT ⟨K, ca, p1⟩ G H t v F → RT ⟨K, ca, p2⟩ G H t v F
  | .fr d, v, _, h => by simp only [RT] at h ⊢; exact RD.cv d v h
  | .lst ts, v, F, h => by
    simp only [RT] at h ⊢
    obtain ⟨a, vs, F', e, h1, h2, h3, h4, h5⟩ := h
    exact ⟨a, vs, F', e, h1, h2, h3, h4, RTs.cv ts vs F' h5⟩
  | .dic ks ts, v, F, h => by
    simp only [RT] at h ⊢
    obtain ⟨a, F', e, h2, h3, h4, ⟨kvs, h1, h6, h5⟩ | ⟨kvs, h1, h6, h5⟩⟩ := h
    · exact ⟨a, F', e, h2, h3, h4, .inl ⟨kvs, h1, h6, RTs.cv ts _ F' h5⟩⟩
    · exact ⟨a, F', e, h2, h3, h4, .inr ⟨kvs, h1, h6, RTs.cv ts _ F' h5⟩⟩
  | .obj n ns ts, v, F, h => by
    simp only [RT] at h ⊢
    obtain ⟨a, C, dx, vs, F', e, h0, h1, h2, h3, h4, h5, h6, h7, h8, h9⟩ := h
    exact ⟨a, C, dx, vs, F', e, h0, h1, h2, h3, h4, h5, h6, h7, h8, RTs.cv ts vs F' h9⟩
theorem RTs.cv {G H : Hp} : ∀ (ts : List T) (vs : List V) (F : FS), RTs ⟨K, ca, p1⟩ G H ts vs F → RTs ⟨K, ca, p2⟩ G H ts vs F
  | [], _, _, h => by simpa only [RTs] using h
  | t :: ts, vs, F, h => by
    simp only [RTs] at h ⊢
    obtain ⟨v, r, F1, F2, e, h1, h2, h3, h4, h5⟩ := h
    exact ⟨v, r, F1, F2, e, h1, h2, h3, RT.cv t v F1 h4, RTs.cv ts r F2 h5⟩
end
theorem XR.cv {G : Hp} {x : Ex} {cl : Value} {d : Option Addr} (h : XR ⟨K, ca, p1⟩ G x cl d) : XR ⟨K, ca, p2⟩ G x cl d := by
  obtain ⟨C, h1, h2, h3⟩ := h
  refine ⟨C, h1, h2, ?_⟩
  rcases h3 with h3 | ⟨p, vs, e1, e2, e3, e4⟩
  · exact .inl h3
  · exact .inr ⟨p, vs, e1, e2, e3, RDs.cv _ _ e4⟩
end

/-! ### slots lent, given back -/
section
variable {c : CT} {G H G' H' G0 H0 : Hp} {σ : L2.St} {ε ε' : Env} {F F' F0 Fo Ft : FS} {v : V} {w w' : Bool}
/-- a slot's tree is taken out -/
theorem Sat.take (S : Sat c G H σ ε F) {i : Nat} {t : T} (h : ε.at i = some t) : ∃ (Fi Fo : FS) (v : V), σ[i]? = some (some v) ∧ RT c G H t v Fi ∧ (∀ a, Fi a → F a) ∧ (∀ a, Fo a → F a) ∧ (∀ a, Fi a → Fo a → False) ∧ Sat c G H σ (ε.set i none) Fo := by
  obtain ⟨Fs, d1, d2, d3⟩ := id S.at_
  obtain ⟨v, e1, r⟩ := d3 i t (Env.at_some h)
  refine ⟨Fs i, fun a => ∃ j, j ≠ i ∧ Fs j a, v, e1, r, d2 i, fun a ⟨j, _, q⟩ => d2 j a q, fun a q ⟨j, hj, z⟩ => d1 j i a hj z q, ?_⟩
  refine ⟨S.gh, fun a ⟨j, _, q⟩ => S.gf a (d2 j a q), fun a ⟨j, _, q⟩ => S.fd a (d2 j a q), by rw [List.length_set]; exact S.len, S.pr, fun j a => j ≠ i ∧ Fs j a, fun j k a hjk q z => d1 j k a hjk q.2 z.2, fun j a q => ⟨j, q.1, q.2⟩, fun j s e => ?_⟩
  have hj : j ≠ i := fun z => by
    subst z
    rw [List.getElem?_set_self (List.getElem?_eq_some_iff.mp (Env.at_some h)).1] at e
    cases e
  rw [List.getElem?_set_ne (Ne.symm hj)] at e
  obtain ⟨u, e2, r2⟩ := d3 j s e
  exact ⟨u, e2, r2.stay (Sub.refl _) s u (Fs j) _ (fun a q => ⟨hj, q⟩) fun _ _ _ q => q⟩
/-- a slot is given a tree -/
theorem Sat.give (S : Sat c G H σ ε F) {i : Nat} {t : T} {Fi : FS} (hv : σ[i]? = some (some v)) (r : RT c G H t v Fi) (dj : ∀ a, Fi a → F a → False) (hg : ∀ a, Fi a → G a = none) (hd : ∀ a, Fi a → ∃ o, H a = some o) : Sat c G H σ (ε.set i (some t)) (fun a => F a ∨ Fi a) := by
  obtain ⟨Fs, d1, d2, d3⟩ := id S.at_
  refine ⟨S.gh, fun a q => q.elim (S.gf a) (hg a), fun a q => q.elim (S.fd a) (hd a), by rw [List.length_set]; exact S.len, S.pr, fun j => if j = i then Fi else Fs j, fun j k a hjk q z => ?_, fun j a q => ?_, fun j s e => ?_⟩
  · by_cases hj : j = i
    · by_cases hk : k = i
      · exact hjk (hj.trans hk.symm)
      · simp only [hj, hk, if_true, if_false] at q z
        exact dj a q (d2 k a z)
    · by_cases hk : k = i
      · simp only [hj, hk, if_true, if_false] at q z
        exact dj a z (d2 j a q)
      · simp only [hj, hk, if_false] at q z
        exact d1 j k a hjk q z
  · by_cases hj : j = i
    · simp only [hj, if_true] at q; exact .inr q
    · simp only [hj, if_false] at q; exact .inl (d2 j a q)
  · by_cases hj : j = i
    · subst hj
      simp only [if_true]
      have hl : j < ε.length := by
        rw [S.len]; exact (List.getElem?_eq_some_iff.mp hv).1
      rw [List.getElem?_set_self hl] at e
      simp only [Option.some.injEq] at e
      subst e
      exact ⟨v, hv, r⟩
    · simp only [hj, if_false]
      rw [List.getElem?_set_ne (Ne.symm hj)] at e
      exact d3 j s e
/-- what the slots hold stands through what is done beside them -/
theorem Sat.over {wx : Bool} (S : Sat c G H σ ε F) (s : Step wx G H F0 G' H' F') (dj : ∀ a, F0 a → F a → False) (gh : Sub G' H') : Sat c G' H' σ ε F := by
  have kp : ∀ a o, F a → H a = some o → H' a = some o := fun a o q e => s.h a o e fun _ z => dj a z q
  refine ⟨gh, fun a q => ?_, fun a q => ?_, S.len, S.pr, ?_⟩
  · cases e : G' a with
    | none => rfl
    | some o =>
      rcases s.n a o e with z | z | z
      · rw [S.gf a q] at z; cases z
      · obtain ⟨o', e'⟩ := S.fd a q
        rw [e'] at z; cases z
      · exact (dj a z q).elim
  · obtain ⟨o, e⟩ := S.fd a q
    exact ⟨o, kp a o q e⟩
  · obtain ⟨Fs, d1, d2, d3⟩ := S.at_
    refine ⟨Fs, d1, d2, fun i t e => ?_⟩
    obtain ⟨v, e1, r⟩ := d3 i t e
    exact ⟨v, e1, r.stay s.g t v (Fs i) _ (fun _ q => q) fun a o q e => kp a o (d2 i a q) e⟩
theorem Sat.shrink (S : Sat c G H σ ε F) : True := trivial
def takeT : List Rv → Env → Option (List T × Env)
  | [], ε => some ([], ε)
  | .d x :: rs, ε => (takeT rs ε).map fun q => (.fr x :: q.1, q.2)
  | .own t :: rs, ε => (takeT rs ε).map fun q => (t :: q.1, q.2)
  | .at i [] :: rs, ε => (ε.at i).bind fun t => (takeT rs (ε.set i none)).map fun q => (t :: q.1, q.2)
  | .at _ (_ :: _) :: _, _ => none
def giveT : List Rv → List T → Env → Env
  | .at i [] :: rs, t :: ts, ε => giveT rs ts (ε.set i (some t))
  | _ :: rs, _ :: ts, ε => giveT rs ts ε
  | _, _, ε => ε
theorem RVs.takeT : ∀ {rs : List Rv} {vs : List V} {Ft : FS} {ε ε' : Env} {F : FS} {ts : List T}, Sat c G H σ ε F → RVs c G H σ rs vs Ft → (∀ a, Ft a → F a → False) → DL.takeT rs ε = some (ts, ε') →
    ∃ Fl Fo : FS, Sat c G H σ ε' Fo ∧ RTs c G H ts vs Fl ∧ (∀ a, Fl a → Ft a ∨ F a) ∧ (∀ a, Fo a → F a) ∧ (∀ a, Fl a → Fo a → False)
  | [], vs, Ft, ε, ε', F, ts, S, h, dj, e => by
    simp only [DL.takeT, Option.some.injEq, Prod.mk.injEq] at e
    obtain ⟨rfl, rfl⟩ := e
    exact ⟨eNo, F, S, by simpa only [RTs, RVs] using h, fun _ z => z.elim, fun _ q => q, fun _ z => z.elim⟩
  | .d x :: rs, vs, Ft, ε, ε', F, ts, S, ⟨v, us, F1, F2, e0, h1, h2, h3, h4, h5⟩, dj, e => by
    simp only [DL.takeT] at e
    cases q : DL.takeT rs ε with
    | none => rw [q] at e; cases e
    | some z =>
      obtain ⟨us', ε2⟩ := z
      rw [q] at e
      simp only [Option.map_some, Option.some.injEq, Prod.mk.injEq] at e
      obtain ⟨rfl, rfl⟩ := e
      obtain ⟨Fl, Fo, g1, g2, g3, g4, g5⟩ := RVs.takeT S h5 (fun a q => dj a (h2 a q)) q
      refine ⟨Fl, Fo, g1, ?_, fun a z => (g3 a z).elim (fun z => .inl (h2 a z)) .inr, g4, g5⟩
      simp only [RTs, RT]
      exact ⟨v, us, eNo, Fl, e0, fun _ z => z.elim, fun _ z => z, fun _ z => z.elim, h4, g2⟩
  | .own t :: rs, vs, Ft, ε, ε', F, ts, S, ⟨v, us, F1, F2, e0, h1, h2, h3, h4, h5⟩, dj, e => by
    simp only [DL.takeT] at e
    cases q : DL.takeT rs ε with
    | none => rw [q] at e; cases e
    | some z =>
      obtain ⟨us', ε2⟩ := z
      rw [q] at e
      simp only [Option.map_some, Option.some.injEq, Prod.mk.injEq] at e
      obtain ⟨rfl, rfl⟩ := e
      obtain ⟨Fl, Fo, g1, g2, g3, g4, g5⟩ := RVs.takeT S h5 (fun a q => dj a (h2 a q)) q
      refine ⟨fun a => F1 a ∨ Fl a, Fo, g1, ?_, fun a z => z.elim (fun z => .inl (h1 a z)) fun z => (g3 a z).elim (fun z => .inl (h2 a z)) .inr, g4, fun a z z2 => z.elim (fun z => dj a (h1 a z) (g4 a z2)) fun z => g5 a z z2⟩
      simp only [RTs]
      refine ⟨v, us, F1, Fl, e0, fun _ z => .inl z, fun _ z => .inr z, fun a z z2 => ?_, h4, g2⟩
      rcases g3 a z2 with z3 | z3
      · exact h3 a z z3
      · exact dj a (h1 a z) z3
  | .at i [] :: rs, vs, Ft, ε, ε', F, ts, S, ⟨v, us, F1, F2, e0, h1, h2, h3, h4, h5⟩, dj, e => by
    simp only [DL.takeT] at e
    cases q0 : ε.at i with
    | none => rw [q0] at e; cases e
    | some t =>
      rw [q0] at e
      simp only [Option.bind_some] at e
      cases q : DL.takeT rs (ε.set i none) with
      | none => rw [q] at e; cases e
      | some z =>
        obtain ⟨us', ε2⟩ := z
        rw [q] at e
        simp only [Option.map_some, Option.some.injEq, Prod.mk.injEq] at e
        obtain ⟨rfl, rfl⟩ := e
        obtain ⟨Fi, Fo1, v1, k1, k2, k3, k4, k5, k6⟩ := S.take q0
        obtain ⟨v0, e1, e2⟩ := h4
        have e2 : v = v0 := e2
        subst e2
        rw [k1] at e1; cases e1
        obtain ⟨Fl, Fo, g1, g2, g3, g4, g5⟩ := RVs.takeT k6 h5 (fun a q z => dj a (h2 a q) (k4 a z)) q
        refine ⟨fun a => Fi a ∨ Fl a, Fo, g1, ?_, fun a z => z.elim (fun z => .inr (k3 a z)) fun z => (g3 a z).elim (fun z => .inl (h2 a z)) fun z => .inr (k4 a z), fun a z => k4 a (g4 a z), fun a z z2 => z.elim (fun z => k5 a z (g4 a z2)) fun z => g5 a z z2⟩
        simp only [RTs]
        refine ⟨v, us, Fi, Fl, e0, fun _ z => .inl z, fun _ z => .inr z, fun a z z2 => ?_, k2, g2⟩
        rcases g3 a z2 with z3 | z3
        · exact dj a (h2 a z3) (k3 a z)
        · exact k5 a z z3
  | .at i (_ :: _) :: rs, vs, Ft, ε, ε', F, ts, S, _, dj, e => by cases e
theorem Sat.giveT : ∀ {rs : List Rv} {vs : List V} {Ft : FS} {ε : Env} {F Fl : FS} {ts : List T} {Gx Hx : Hp}, Sat c G H σ ε F → RVs c Gx Hx σ rs vs Ft → RTs c G H ts vs Fl → (∀ a, Fl a → F a → False) → (∀ a, Fl a → G a = none) → (∀ a, Fl a → ∃ o, H a = some o) →
    ∃ F', Sat c G H σ (DL.giveT rs ts ε) F' ∧ (∀ a, F' a → F a ∨ Fl a)
  | [], vs, Ft, ε, F, Fl, ts, _, _, S, h, r, dj, hg, hd => by
    cases ts <;> exact ⟨F, S, fun _ q => .inl q⟩
  | .d x :: rs, vs, Ft, ε, F, Fl, ts, _, _, S, ⟨v, us, F1, F2, e0, h1, h2, h3, h4, h5⟩, r, dj, hg, hd => by
    cases ts with
    | nil => exact ⟨F, S, fun _ q => .inl q⟩
    | cons t ts =>
      simp only [RTs] at r
      obtain ⟨v', r', Fa, Fb, e1, k1, k2, k3, k4, k5⟩ := r
      subst e0
      cases e1
      obtain ⟨F', g1, g2⟩ := Sat.giveT S h5 k5 (fun a q => dj a (k2 a q)) (fun a q => hg a (k2 a q)) (fun a q => hd a (k2 a q))
      exact ⟨F', g1, fun a z => (g2 a z).elim .inl fun z => .inr (k2 a z)⟩
  | .own x :: rs, vs, Ft, ε, F, Fl, ts, _, _, S, ⟨v, us, F1, F2, e0, h1, h2, h3, h4, h5⟩, r, dj, hg, hd => by
    cases ts with
    | nil => exact ⟨F, S, fun _ q => .inl q⟩
    | cons t ts =>
      simp only [RTs] at r
      obtain ⟨v', r', Fa, Fb, e1, k1, k2, k3, k4, k5⟩ := r
      subst e0
      cases e1
      obtain ⟨F', g1, g2⟩ := Sat.giveT S h5 k5 (fun a q => dj a (k2 a q)) (fun a q => hg a (k2 a q)) (fun a q => hd a (k2 a q))
      exact ⟨F', g1, fun a z => (g2 a z).elim .inl fun z => .inr (k2 a z)⟩
  | .at i [] :: rs, vs, Ft, ε, F, Fl, ts, _, _, S, ⟨v, us, F1, F2, e0, h1, h2, h3, h4, h5⟩, r, dj, hg, hd => by
    cases ts with
    | nil => exact ⟨F, S, fun _ q => .inl q⟩
    | cons t ts =>
      simp only [RTs] at r
      obtain ⟨v', r', Fa, Fb, e1, k1, k2, k3, k4, k5⟩ := r
      subst e0
      cases e1
      obtain ⟨v0, e2, e3⟩ := h4
      have e3 : v = v0 := e3
      subst e3
      have S2 := S.give e2 k4 (fun a q => dj a (k1 a q)) (fun a q => hg a (k1 a q)) (fun a q => hd a (k1 a q))
      obtain ⟨F', g1, g2⟩ := Sat.giveT S2 h5 k5 (fun a q z => z.elim (fun z => dj a (k2 a q) z) fun z => k3 a z q) (fun a q => hg a (k2 a q)) (fun a q => hd a (k2 a q))
      exact ⟨F', g1, fun a z => (g2 a z).elim (fun z => z.elim .inl fun z => .inr (k1 a z)) fun z => .inr (k2 a z)⟩
  | .at i (_ :: _) :: rs, vs, Ft, ε, F, Fl, ts, _, _, S, ⟨v, us, F1, F2, e0, h1, h2, h3, h4, h5⟩, r, dj, hg, hd => by
    cases ts with
    | nil => exact ⟨F, S, fun _ q => .inl q⟩
    | cons t ts =>
      simp only [RTs] at r
      obtain ⟨v', r', Fa, Fb, e1, k1, k2, k3, k4, k5⟩ := r
      subst e0
      cases e1
      obtain ⟨F', g1, g2⟩ := Sat.giveT S h5 k5 (fun a q => dj a (k2 a q)) (fun a q => hg a (k2 a q)) (fun a q => hd a (k2 a q))
      exact ⟨F', g1, fun a z => (g2 a z).elim .inl fun z => .inr (k2 a z)⟩
theorem RTs.split : ∀ {ts : List T} {vs : List V} {F : FS}, RTs c G H ts vs F → ∃ Fs : Nat → FS, (∀ i j a, i ≠ j → Fs i a → Fs j a → False) ∧ (∀ i a, Fs i a → F a) ∧ ∀ i t, ts[i]? = some t → ∃ v, vs[i]? = some v ∧ RT c G H t v (Fs i)
  | [], vs, F, h => ⟨fun _ => eNo, fun _ _ _ _ z => z.elim, fun _ _ z => z.elim, fun i t e => by simp at e⟩
  | t :: ts, vs, F, h => by
    simp only [RTs] at h
    obtain ⟨v, r, F1, F2, rfl, h1, h2, h3, h4, h5⟩ := h
    obtain ⟨Fs, d1, d2, d3⟩ := RTs.split h5
    refine ⟨fun | 0 => F1 | i + 1 => Fs i, fun i j a hij q z => ?_, fun i a q => ?_, fun i s e => ?_⟩
    · cases i with
      | zero => cases j with
        | zero => exact hij rfl
        | succ j => exact h3 a q (d2 j a z)
      | succ i => cases j with
        | zero => exact h3 a z (d2 i a q)
        | succ j => exact d1 i j a (fun e => hij (by rw [e])) q z
    · cases i with
      | zero => exact h1 a q
      | succ i => exact h2 a (d2 i a q)
    · cases i with
      | zero => simp only [List.getElem?_cons_zero, Option.some.injEq] at e; subst e; exact ⟨v, rfl, h4⟩
      | succ i => exact d3 i s (by simpa using e)
theorem RTs.join : ∀ {ts : List T} {vs : List V} {Fs : Nat → FS}, ts.length = vs.length → (∀ i j a, i ≠ j → Fs i a → Fs j a → False) → (∀ (i : Nat) (t : T) (v : V), ts[i]? = some t → vs[i]? = some v → RT c G H t v (Fs i)) → RTs c G H ts vs (fun a => ∃ i, i < ts.length ∧ Fs i a)
  | [], vs, Fs, e, _, _ => by simp only [RTs]; cases vs with | nil => rfl | cons _ _ => simp at e
  | t :: ts, vs, Fs, e, dj, h => by
    cases vs with
    | nil => simp at e
    | cons v r =>
      simp only [RTs]
      refine ⟨v, r, Fs 0, fun a => ∃ i, i < ts.length ∧ Fs (i + 1) a, rfl, fun b q => ⟨0, by simp, q⟩, fun b ⟨i, hi, q⟩ => ⟨i + 1, by simpa using hi, q⟩, fun b q ⟨i, _, z⟩ => dj 0 (i + 1) b (by simp) q z, h 0 t v rfl rfl,
        RTs.join (by simpa using e) (fun i j a hij => dj (i + 1) (j + 1) a fun z => hij (by omega)) fun i s u e1 e2 => h (i + 1) s u (by simpa using e1) (by simpa using e2)⟩
end
end DL

namespace DL
open PySem PySem.Spec L2

/-! ### targets -/
inductive Pat where
  | nm (i : Nat) | tp (ps : List Pat)
mutual
def Pat.bind : Pat → D → Env → Option Env
  | .nm i, d, ε => some (ε.set i (some (.fr d)))
  | .tp ps, .tup ds, ε => Pat.binds ps ds ε
  | .tp _, _, _ => none
def Pat.binds : List Pat → List D → Env → Option Env
  | [], [], ε => some ε
  | p :: ps, d :: ds, ε => (Pat.bind p d ε).bind fun ε1 => Pat.binds ps ds ε1
  | _, _, _ => none
end
mutual
def Pat.slots : Pat → List Nat
  | .nm i => [i]
  | .tp ps => Pat.slotss ps
def Pat.slotss : List Pat → List Nat
  | [] => []
  | p :: ps => Pat.slots p ++ Pat.slotss ps
end
section
variable {c : CT} {G H G' H' G0 H0 : Hp} {σ : L2.St} {ε ε' : Env} {F F' F0 Fo Ft : FS} {v : V} {w w' : Bool}
/-- a slot is assigned -/
theorem Sat.assign (S : Sat c G H σ ε F) {i : Nat} {t : T} (hp : c.pr i = none) (r : RT c G H t v Ft) (dj : ∀ a, Ft a → F a → False) (hg : ∀ a, Ft a → G a = none) (hd : ∀ a, Ft a → ∃ o, H a = some o) :
    ∃ F', Sat c G H (σ.set i (some v)) (ε.set i (some t)) F' ∧ (∀ a, F' a → F a ∨ Ft a) := by
  obtain ⟨Fs, d1, d2, d3⟩ := id S.at_
  refine ⟨fun a => F a ∨ Ft a, ⟨S.gh, fun a q => q.elim (S.gf a) (hg a), fun a q => q.elim (S.fd a) (hd a), by rw [List.length_set, List.length_set]; exact S.len, fun j u e => ?_, fun j => if j = i then Ft else Fs j, fun j k a hjk q z => ?_, fun j a q => ?_, fun j s e => ?_⟩, fun a q => q⟩
  · have hj : j ≠ i := fun z => by rw [z, hp] at e; cases e
    rw [List.getElem?_set_ne (Ne.symm hj)]
    exact S.pr j u e
  · by_cases hj : j = i
    · by_cases hk : k = i
      · exact hjk (hj.trans hk.symm)
      · simp only [hj, hk, if_true, if_false] at q z
        exact dj a q (d2 k a z)
    · by_cases hk : k = i
      · simp only [hj, hk, if_true, if_false] at q z
        exact dj a z (d2 j a q)
      · simp only [hj, hk, if_false] at q z
        exact d1 j k a hjk q z
  · by_cases hj : j = i
    · simp only [hj, if_true] at q; exact .inr q
    · simp only [hj, if_false] at q; exact .inl (d2 j a q)
  · by_cases hj : j = i
    · subst hj
      simp only [if_true]
      have hl : j < ε.length := by
        have := (List.getElem?_eq_some_iff.mp e).1
        rwa [List.length_set] at this
      rw [List.getElem?_set_self hl] at e
      simp only [Option.some.injEq] at e
      subst e
      exact ⟨v, List.getElem?_set_self (by rw [← S.len]; exact hl), r⟩
    · simp only [hj, if_false]
      rw [List.getElem?_set_ne (Ne.symm hj)] at e ⊢
      exact d3 j s e
theorem Sat.assignD (S : Sat c G H σ ε F) {i : Nat} {d : D} (hp : c.pr i = none) (r : RD c G d v) : ∃ F', Sat c G H (σ.set i (some v)) (ε.set i (some (.fr d))) F' ∧ (∀ a, F' a → F a) := by
  obtain ⟨F', h1, h2⟩ := S.assign (t := .fr d) (Ft := eNo) hp (by simpa only [RT] using r) (fun _ z => z.elim) (fun _ z => z.elim) (fun _ z => z.elim)
  exact ⟨F', h1, fun a q => (h2 a q).elim id fun z => z.elim⟩
end
/-- the slots of a target are not fixed -/
def PFree (c : CT) (is : List Nat) : Prop := ∀ i ∈ is, c.pr i = none
structure DG (X : Cx) (c : CT) (p : Pat) (tg : Expr) : Prop where
  ex : ∃ g, PG X tg g ∧ ∀ (G H : Hp) (σ : L2.St) (ε ε' : Env) (F : FS) (d : D) (v : V) (Q : L2.St → Hp → Prop), Sat c G H σ ε F → RD c G d v → p.bind d ε = some ε' →
    (∀ σ' F', Sat c G H σ' ε' F' → (∀ a, F' a → F a) → (∀ i, i ∉ p.slots → σ'[i]? = σ[i]?) → σ'.length = σ.length → Q σ' H) → g v σ H Q
structure DGs (X : Cx) (c : CT) (ps : List Pat) (tgs : List Expr) : Prop where
  ex : ∃ g, PGs X tgs g ∧ ∀ (G H : Hp) (σ : L2.St) (ε ε' : Env) (F : FS) (ds : List D) (vs : List V) (Q : L2.St → Hp → Prop), Sat c G H σ ε F → RDs c G ds vs → Pat.binds ps ds ε = some ε' →
    (∀ σ' F', Sat c G H σ' ε' F' → (∀ a, F' a → F a) → (∀ i, i ∉ Pat.slotss ps → σ'[i]? = σ[i]?) → σ'.length = σ.length → Q σ' H) → g vs σ H Q
section
variable {X : Cx} {c : CT} {pos : Pos}
theorem dg_name {i : Nat} {tg : Expr} (h : PG X tg (gName i)) (hp : c.pr i = none) : DG X c (.nm i) tg := by
  refine ⟨_, h, fun G H σ ε ε' F d v Q S r e k => ?_⟩
  simp only [Pat.bind, Option.some.injEq] at e
  subst e
  obtain ⟨F', h1, h2⟩ := S.assignD hp r
  refine k _ F' h1 h2 (fun j hj => ?_) (by rw [List.length_set])
  rw [List.getElem?_set_ne]
  intro z
  subst z
  exact hj (by simp [Pat.slots])
theorem dgs_nil : DGs X c [] [] := by
  refine ⟨_, pgs_nil, fun G H σ ε ε' F ds vs Q S r e k => ?_⟩
  cases ds with
  | nil =>
    simp only [Pat.binds, Option.some.injEq] at e
    subst e
    simp only [RDs] at r
    exact ⟨r, k σ F S (fun _ q => q) (fun _ _ => rfl) rfl⟩
  | cons d ds => simp [Pat.binds] at e
theorem dgs_cons {p : Pat} {ps : List Pat} {e : Expr} {es : List Expr} (h1 : DG X c p e) (h2 : DGs X c ps es)
    (hs : (assignEach (e :: es) X.env).map (·.2) = assign e X.env :: (assignEach es X.env).map (·.2) := by rfl) : DGs X c (p :: ps) (e :: es) := by
  obtain ⟨g1, p1, k1⟩ := h1.ex
  obtain ⟨g2, p2, k2⟩ := h2.ex
  refine ⟨_, pgs_cons p1 p2 hs, fun G H σ ε ε' F ds vs Q S r e k => ?_⟩
  cases ds with
  | nil => simp [Pat.binds] at e
  | cons d ds =>
    simp only [Pat.binds] at e
    cases q : p.bind d ε with
    | none => rw [q] at e; cases e
    | some ε1 =>
      rw [q] at e
      simp only [RDs] at r
      obtain ⟨v, us, rfl, r1, r2⟩ := r
      refine ⟨v, us, rfl, k1 G H σ ε ε1 F d v _ S r1 q fun σ1 F1 S1 f1 s1 l1 => ?_⟩
      refine k2 G H σ1 ε1 ε' F1 ds us _ S1 r2 e fun σ2 F2 S2 f2 s2 l2 => ?_
      refine k σ2 F2 S2 (fun a z => f1 a (f2 a z)) (fun i hi => ?_) (l2.trans l1)
      simp only [Pat.slotss, List.mem_append, not_or] at hi
      rw [s2 i hi.2, s1 i hi.1]
theorem dg_tup {es : List Expr} {k : Nat} {ps : List Pat} (hk : c.K = X.K) (hc : X.calm = true) (h : DGs X c ps es) (hl : ps.length = es.length := by rfl)
    (hn : (assignEach es X.env).length = es.length := by rfl) (hst : (assignEach es X.env).findIdx? (·.1) = none := by rfl) : DG X c (.tp ps) (.Tuple es k pos) := by
  obtain ⟨g, p, k1⟩ := h.ex
  refine ⟨_, pg_tup hc p hn hst, fun G H σ ε ε' F d v Q S r e k => ?_⟩
  cases d <;> simp only [Pat.bind, reduceCtorEq] at e
  rename_i ds
  simp only [RD] at r
  obtain ⟨a, vs, rfl, h1, h2⟩ := r
  have hlen : ∀ {ps : List Pat} {ds : List D} {ε ε' : Env}, Pat.binds ps ds ε = some ε' → ps.length = ds.length := by
    intro ps
    induction ps with
    | nil => intro ds ε ε' e; cases ds with
      | nil => rfl
      | cons _ _ => simp [Pat.binds] at e
    | cons p ps ih => intro ds ε ε' e; cases ds with
      | nil => simp [Pat.binds] at e
      | cons d ds =>
        simp only [Pat.binds] at e
        cases q : p.bind d ε with
        | none => rw [q] at e; cases e
        | some ε1 => rw [q] at e; simp only [List.length_cons, ih e]
  refine ⟨a, vs, rfl, SqT.of (S.gh _ _ h1), ?_, k1 G H σ ε ε' F ds vs Q S h2 e k⟩
  rw [← h2.len, ← hlen e, hl]
end

/-! ### what is walked -/
def WalkD (c : CT) (J : It) (items : List D) (G' : Hp) : Prop :=
  Walk J items.length (fun H => Sub G' H) (fun i H x H' => ∀ G, Sub G' G → Sub G H → ∃ G'' d, Sub G G'' ∧ Sub G'' H' ∧ Sub H H' ∧ (∀ a o, G'' a = some o → G a = some o ∨ H a = none) ∧ items[i]? = some d ∧ RD c G'' d x)
abbrev IT := Env → (List D → Env → Prop) → EXN → Prop
structure DI (X : Cx) (c : CT) (W : WX') (w : Bool) (tg iter : Expr) (t : IT) : Prop where
  ex : ∃ wi, PI X tg iter wi ∧ ∀ (G H : Hp) (σ : L2.St) (ε : Env) (F : FS) (Q : List D → Env → Prop) (EX : EXN) (R : It → Hp → Prop), Sat c G H σ ε F → t ε Q EX →
    (∀ items ε' J G' H' F', Q items ε' → Step w G H F G' H' F' → Sat c G' H' σ ε' F' → WalkD c J items G' → R J H') → XOut c G H F σ EX W → wi σ H R
section
variable {X : Cx} {c : CT} {W : WX'} {w wa wb wc : Bool} {a b e tg : Expr} {ta tb : ET} {pos : Pos}
/-- a list or a tuple (a slot's list is frozen) -/
def tItL (ta : ET) : IT := fun ε Q EX => ta ε (fun r ε1 => ∃ ds ε2, r.fz ε1 = some (.lst ds, ε2) ∧ Q ds ε2) EX
def tItT (ta : ET) : IT := fun ε Q EX => ta ε (fun r ε1 => ∃ ds ε2, r.fz ε1 = some (.tup ds, ε2) ∧ Q ds ε2) EX
theorem walkD_list {G' : Hp} {a : Addr} {vs : List V} {ds : List D} (h1 : G' a = some (.lst vs)) (h2 : RDs c G' ds vs) : WalkD c (Itl c.K a) ds G' := by
  unfold WalkD
  rw [h2.len]
  refine (walk_list (xs := vs)).mono (fun H s => SqL.of (s _ _ h1)) fun i H x H' hi s ⟨e, y⟩ G s1 s2 => ?_
  subst e
  obtain ⟨d, e1, r⟩ := h2.getV y
  exact ⟨G, d, Sub.refl _, s2, Sub.refl _, fun a o q => .inl q, e1, RD.mono s1 d x r⟩
theorem walkD_tup {G' : Hp} {a : Addr} {vs : List V} {ds : List D} (h1 : G' a = some (.tup vs)) (h2 : RDs c G' ds vs) : WalkD c (Itt c.K a) ds G' := by
  unfold WalkD
  rw [h2.len]
  refine (walk_tup (xs := vs)).mono (fun H s => SqT.of (s _ _ h1)) fun i H x H' hi s ⟨e, y⟩ G s1 s2 => ?_
  subst e
  obtain ⟨d, e1, r⟩ := h2.getV y
  exact ⟨G, d, Sub.refl _, s2, Sub.refl _, fun a o q => .inl q, e1, RD.mono s1 d x r⟩
theorem di_list (hk : c.K = X.K) (ha : DE X c W wa a ta) : DI X c W wa tg a (tItL ta) := by
  obtain ⟨tea, pa, k⟩ := one ha
  refine ⟨_, pi_list pa, fun G H σ ε F Q EX R S h o xo => ?_⟩
  refine k G H σ ε F _ EX _ S h xo fun r ε1 x G1 H1 F1 Fa ⟨ds, ε2, e1, q⟩ s1 S1 v1 t1 _ => ?_
  obtain ⟨G2, F2, g1, g2, g3, g4, g5, g6⟩ := RV.fzS s1 S1 v1 t1 e1
  simp only [RD] at g6
  obtain ⟨a1, vs, rfl, k1, k2⟩ := g6
  refine ⟨a1, rfl, ⟨vs, SqL.of (g5.gh _ _ k1)⟩, ?_⟩
  rw [← hk]
  exact o ds ε2 _ G2 H1 F2 q g1 g5 (walkD_list k1 k2)
theorem di_tup (hk : c.K = X.K) (ha : DE X c W wa a ta) : DI X c W wa tg a (tItT ta) := by
  obtain ⟨tea, pa, k⟩ := one ha
  refine ⟨_, pi_tup pa, fun G H σ ε F Q EX R S h o xo => ?_⟩
  refine k G H σ ε F _ EX _ S h xo fun r ε1 x G1 H1 F1 Fa ⟨ds, ε2, e1, q⟩ s1 S1 v1 t1 _ => ?_
  obtain ⟨G2, F2, g1, g2, g3, g4, g5, g6⟩ := RV.fzS s1 S1 v1 t1 e1
  simp only [RD] at g6
  obtain ⟨a1, vs, rfl, k1, k2⟩ := g6
  refine ⟨a1, rfl, ⟨vs, SqT.of (g5.gh _ _ k1)⟩, ?_⟩
  rw [← hk]
  exact o ds ε2 _ G2 H1 F2 q g1 g5 (walkD_tup k1 k2)
/-- range -/
def rgD (lo : Int) (n : Nat) : List D := (List.range n).map fun i => .int (lo + (i : Nat))
theorem walkD_range {G' : Hp} {lo : Int} {n : Nat} : WalkD c (Itr lo n) (rgD lo n) G' := by
  unfold WalkD
  rw [show (rgD lo n).length = n by simp [rgD]]
  refine (walk_range (lo := lo) (n := n)).mono (fun H s => trivial) fun i H x H' hi s ⟨e, y⟩ G s1 s2 => ?_
  subst e y
  exact ⟨G, .int (lo + (i : Nat)), Sub.refl _, s2, Sub.refl _, fun a o q => .inl q, by simp [rgD, hi], by simp only [RD]⟩
def tIt1 (t : AT) : IT := fun ε Q EX => t ε (fun rs ε1 => ∃ j : Int, vws ε1 rs = some [.int j] ∧ -(2 ^ 62) ≤ j ∧ j < 2 ^ 62 ∧ Q (rgD 0 j.toNat) ε1) EX
def tIt2 (t : AT) : IT := fun ε Q EX => t ε (fun rs ε1 => ∃ i j : Int, vws ε1 rs = some [.int i, .int j] ∧ (-(2 ^ 62) ≤ i ∧ i < 2 ^ 62 ∧ -(2 ^ 62) ≤ j ∧ j < 2 ^ 62) ∧ Q (rgD i (j - i).toNat) ε1) EX
theorem di_range1 {t : AT} {p : Pos} (hg : Gl X "range") (hm : X.mg "range" = none) (ha : DA X c W wa [a] t) (hs : starEach [a] X.env = [(false, eval a X.env)] := by rfl) : DI X c W wa tg (.Call (.Name "range" p) [a] [] pos) (tIt1 t) := by
  obtain ⟨ta, pa, k⟩ := ha.ex
  refine ⟨_, pi_range1 hg hm pa hs, fun G H σ ε F Q EX R S h o xo => ?_⟩
  refine k G H σ ε F _ EX _ S h (fun rs ε1 vs G1 H1 F1 Ft ⟨j, e1, e2, e3, q⟩ s1 S1 v1 t1 => ?_) xo
  obtain ⟨v, rfl, r⟩ := rds1 (v1.now S1 e1)
  simp only [RD] at r
  subst r
  exact ⟨j, rfl, e2, e3, o _ _ _ G1 H1 F1 q s1 S1 walkD_range⟩
theorem di_range2 {t : AT} {p : Pos} (hg : Gl X "range") (hm : X.mg "range" = none) (ha : DA X c W wa [a, b] t) (hs : starEach [a, b] X.env = [(false, eval a X.env), (false, eval b X.env)] := by rfl) (hs2 : starEach [b] X.env = [(false, eval b X.env)] := by rfl) :
    DI X c W wa tg (.Call (.Name "range" p) [a, b] [] pos) (tIt2 t) := by
  obtain ⟨ta, pa, k⟩ := ha.ex
  refine ⟨_, pi_range2 hg hm pa hs hs2, fun G H σ ε F Q EX R S h o xo => ?_⟩
  refine k G H σ ε F _ EX _ S h (fun rs ε1 vs G1 H1 F1 Ft ⟨i, j, e1, e2, q⟩ s1 S1 v1 t1 => ?_) xo
  obtain ⟨v, u, rfl, r, r2⟩ := rds2 (v1.now S1 e1)
  simp only [RD] at r r2
  subst r r2
  exact ⟨i, j, rfl, e2, o _ _ _ G1 H1 F1 q s1 S1 walkD_range⟩
end

/-! ### statements -/
structure SEnds where
  nx : Env → Prop
  rt : T → Env → Prop
  bk : Env → Prop
  ct : Env → Prop
abbrev ST' := SEnds → EXN → Env → Prop
structure SLink (c : CT) (G H : Hp) (F : FS) (D : SEnds) (DH : Ends) : Prop where
  nx : ∀ ε' σ' G' H' F', D.nx ε' → Step true G H F G' H' F' → Sat c G' H' σ' ε' F' → DH.nx σ' H'
  bk : ∀ ε' σ' G' H' F', D.bk ε' → Step true G H F G' H' F' → Sat c G' H' σ' ε' F' → DH.bk σ' H'
  ct : ∀ ε' σ' G' H' F', D.ct ε' → Step true G H F G' H' F' → Sat c G' H' σ' ε' F' → DH.ct σ' H'
  rt : ∀ t ε' σ' v G' H' F' Ft, D.rt t ε' → Step true G H F G' H' F' → Sat c G' H' σ' ε' F' → RT c G' H' t v Ft → Tmp H F G' H' F' Ft → DH.rt v H'
def XOutS (c : CT) (G H : Hp) (F : FS) (EX : EXN) (W : WX') : Prop :=
  ∀ x ε' σ' G' H' F' cl d, EX x ε' → Step true G H F G' H' F' → Sat c G' H' σ' ε' F' → XR c G' x cl d → W cl d σ' H'
structure DS (X : Cx) (c : CT) (W : WX') (st : Stmt) (g : ST') : Prop where
  ex : ∃ ts, PS X st ts ∧ ∀ (G H : Hp) (σ : L2.St) (ε : Env) (F : FS) (D : SEnds) (EX : EXN) (DH : Ends), Sat c G H σ ε F → g D EX ε → SLink c G H F D DH → XOutS c G H F EX W → ts DH σ H
structure DSs (X : Cx) (c : CT) (W : WX') (sts : List Stmt) (g : ST') : Prop where
  ex : ∃ ts, PSs X sts ts ∧ ∀ (G H : Hp) (σ : L2.St) (ε : Env) (F : FS) (D : SEnds) (EX : EXN) (DH : Ends), Sat c G H σ ε F → g D EX ε → SLink c G H F D DH → XOutS c G H F EX W → ts DH σ H
section
variable {c : CT} {G H G' H' : Hp} {F F' : FS} {D : SEnds} {DH : Ends} {EX : EXN} {W : WX'} {w : Bool} {σ : L2.St}
theorem tr2 {G1 H1 G2 H2 : Hp} {F1 F2 : FS} {w' : Bool} (s : Step w G H F G1 H1 F1) (t : Step w' G1 H1 F1 G2 H2 F2) : Step true G H F G2 H2 F2 := (s.up.trans t.up).mono fun _ => rfl
theorem SLink.step (l : SLink c G H F D DH) (s : Step w G H F G' H' F') : SLink c G' H' F' D DH :=
  ⟨fun ε1 σ1 G1 H1 F1 q s1 S => l.nx ε1 σ1 G1 H1 F1 q (tr2 s s1) S, fun ε1 σ1 G1 H1 F1 q s1 S => l.bk ε1 σ1 G1 H1 F1 q (tr2 s s1) S, fun ε1 σ1 G1 H1 F1 q s1 S => l.ct ε1 σ1 G1 H1 F1 q (tr2 s s1) S,
    fun t ε1 σ1 v G1 H1 F1 Ft q s1 S r tm => l.rt t ε1 σ1 v G1 H1 F1 Ft q (tr2 s s1) S r (tm.pre s)⟩
theorem XOutS.step (x : XOutS c G H F EX W) (s : Step w G H F G' H' F') : XOutS c G' H' F' EX W := fun e ε1 σ1 G1 H1 F1 cl d q s1 S r => x e ε1 σ1 G1 H1 F1 cl d q (tr2 s s1) S r
theorem XOutS.at (x : XOutS c G H F EX W) : XOut c G H F σ EX W := fun e ε1 G1 H1 F1 cl d q s1 S r => x e ε1 σ G1 H1 F1 cl d q s1 S r
end
section
variable {X : Cx} {c : CT} {W : WX'} {w wa wb wc : Bool} {a b e tg : Expr} {ta tb te : ET} {pos : Pos} {st : Stmt} {rest : List Stmt} {g g' : ST'}
def sNx : ST' := fun D _ ε => D.nx ε
def sSq (g g' : ST') : ST' := fun D EX ε => g { D with nx := fun ε1 => g' D EX ε1 } EX ε
theorem dss_nil : DSs X c W [] sNx := ⟨_, pss_nil, fun G H σ ε F D EX DH S h l _ => l.nx ε σ G H F h Step.refl S⟩
theorem dss_cons (h1 : DS X c W st g) (h2 : DSs X c W rest g') : DSs X c W (st :: rest) (sSq g g') := by
  obtain ⟨t1, p1, k1⟩ := h1.ex
  obtain ⟨t2, p2, k2⟩ := h2.ex
  refine ⟨_, pss_cons p1 p2, fun G H σ ε F D EX DH S h l xo => ?_⟩
  exact k1 G H σ ε F _ EX _ S h ⟨fun ε1 σ1 G1 H1 F1 q s1 S1 => k2 G1 H1 σ1 ε1 F1 D EX DH S1 q (l.step s1) (xo.step s1), l.bk, l.ct, l.rt⟩ xo
theorem dss_one (h1 : DS X c W st g) : DSs X c W [st] g := let ⟨t, p, k⟩ := h1.ex; ⟨t, pss_one p, k⟩
theorem ds_pass : DS X c W (.Pass pos) sNx := ⟨_, ps_pass, fun G H σ ε F D EX DH S h l _ => l.nx ε σ G H F h Step.refl S⟩
theorem ds_continue : DS X c W (.Continue pos) (fun D _ ε => D.ct ε) := ⟨_, ps_continue, fun G H σ ε F D EX DH S h l _ => l.ct ε σ G H F h Step.refl S⟩
theorem ds_break : DS X c W (.Break pos) (fun D _ ε => D.bk ε) := ⟨_, ps_break, fun G H σ ε F D EX DH S h l _ => l.bk ε σ G H F h Step.refl S⟩
def sNever : ST' := fun _ _ _ => False
theorem ds_never : DS X c W st sNever := ⟨_, ps_never, fun _ _ _ _ _ _ _ _ _ h _ _ => h.elim⟩
theorem ds_doc {x j pos'} : DS X c W (.Expr (.Constant (.str x) j pos) pos') sNx := ⟨_, ps_doc, fun G H σ ε F D EX DH S h l _ => l.nx ε σ G H F h Step.refl S⟩
def sEx (te : ET) : ST' := fun D EX ε => te ε (fun _ ε1 => D.nx ε1) EX
theorem ds_expr (he : DE X c W w e te) (hs : swapsWith e none pos.line X.env = pure false := by rfl) : DS X c W (.Expr e pos) (sEx te) := by
  obtain ⟨tt, p, k⟩ := he.ex
  exact ⟨_, ps_expr p hs, fun G H σ ε F D EX DH S h l xo => k G H σ ε F _ EX _ S h (fun rv ε' v G' H' F' Ft q s S' r t => l.nx ε' σ G' H' F' q s.up S') xo.at⟩
/-- what is handed back: a slot's own list is moved out, a part of one is frozen -/
def retQ (r : Rv) (ε : Env) (Q : T → Env → Prop) : Prop := match r with
  | .d d => Q (.fr d) ε
  | .own t => Q t ε
  | .at i [] => ∃ t, ε.at i = some t ∧ Q t (ε.set i none)
  | .at i p => ∃ d ε1, Rv.fz ε (.at i p) = some (d, ε1) ∧ Q (.fr d) ε1
def sRt (te : ET) : ST' := fun D EX ε => te ε (fun rv ε1 => retQ rv ε1 D.rt) EX
theorem ds_ret (he : DE X c W w e te) : DS X c W (.Return (some e) pos) (sRt te) := by
  obtain ⟨tt, p, k⟩ := he.ex
  refine ⟨_, ps_ret p, fun G H σ ε F D EX DH S h l xo => k G H σ ε F _ EX _ S h (fun rv ε' v G' H' F' Ft q s S' r t => ?_) xo.at⟩
  unfold retQ at q
  split at q
  · exact l.rt _ ε' σ v G' H' F' eNo q s.up S' (by simpa only [RT, RV] using r) Tmp.no
  · exact l.rt _ ε' σ v G' H' F' Ft q s.up S' r t
  · obtain ⟨t1, e1, q⟩ := q
    obtain ⟨v0, e2, e3⟩ := r
    have e3 : v = v0 := e3
    subst e3
    obtain ⟨Fi, Fo, v1, k1, k2, k3, k4, k5, k6⟩ := S'.take e1
    rw [k1] at e2; cases e2
    have s2 : Step true G H F G' H' Fo := ⟨s.g, s.up.h, s.n, fun a q => s.f a (k4 a q)⟩
    exact l.rt t1 _ σ v G' H' Fo Fi q s2 k6 k2 ⟨k5, fun a z => S'.gf a (k3 a z), fun a z => S'.fd a (k3 a z), fun a z => s.f a (k3 a z)⟩
  · obtain ⟨d, ε1, e1, q⟩ := q
    obtain ⟨G2, F2, g1, g2, g3, g4, g5, g6⟩ := RV.fzS (Ft := eNo) s S' r Tmp.no e1
    exact l.rt _ ε1 σ v G2 H' F2 eNo q g1.up g5 (by simpa only [RT] using g6) Tmp.no
def sRtN : ST' := fun D _ ε => D.rt (.fr .non) ε
theorem ds_retN : DS X c W (.Return none pos) sRtN := ⟨_, ps_retN, fun G H σ ε F D EX DH S h l _ => l.rt _ ε σ .non G H F eNo h Step.refl S (by simp only [RT, RD]) Tmp.no⟩
def sIf (t : TT') (g g' : ST') : ST' := fun D EX ε => t ε (fun b ε1 => (b = true → g D EX ε1) ∧ (b = false → g' D EX ε1)) EX
theorem ds_if {x : Expr} {t : TT'} {sa sb : List Stmt} (hc : DT X c W wc x t) (ha : DSs X c W sa g) (hb : DSs X c W sb g') : DS X c W (.If x sa sb pos) (sIf t g g') := by
  obtain ⟨tt, p, k⟩ := hc.ex
  obtain ⟨t1, p1, k1⟩ := ha.ex
  obtain ⟨t2, p2, k2⟩ := hb.ex
  refine ⟨_, ps_if p p1 p2, fun G H σ ε F D EX DH S h l xo => k G H σ ε F _ EX _ S h (fun d ε' G' H' F' ⟨q1, q2⟩ s S' => ?_) xo.at⟩
  cases d with
  | true => rw [if_pos rfl]; exact k1 G' H' σ ε' F' D EX DH S' (q1 rfl) (l.step s) (xo.step s)
  | false => rw [if_neg (by decide)]; exact k2 G' H' σ ε' F' D EX DH S' (q2 rfl) (l.step s) (xo.step s)
/-- x = e -/
def asgQ (i : Nat) (r : Rv) (ε : Env) (Q : Env → Prop) : Prop := match r with
  | .d d => Q (ε.set i (some (.fr d)))
  | .own t => Q (ε.set i (some t))
  | .at j p => ∃ d ε1, Rv.fz ε (.at j p) = some (d, ε1) ∧ Q (ε1.set i (some (.fr d)))
def sAs (i : Nat) (te : ET) : ST' := fun D EX ε => te ε (fun rv ε1 => asgQ i rv ε1 D.nx) EX
theorem asg_core {G H G' H' : Hp} {σ : L2.St} {ε' : Env} {F F' Ft : FS} {v : V} {i : Nat} {rv : Rv} {Q : Env → Prop} {R : L2.St → Hp → Prop} (hp : c.pr i = none) (q : asgQ i rv ε' Q) (s : Step w G H F G' H' F') (S' : Sat c G' H' σ ε' F') (r : RV c G' H' σ rv v Ft) (t : Tmp H F G' H' F' Ft)
    (k : ∀ ε1 G1 F1, Q ε1 → Step true G H F G1 H' F1 → Sat c G1 H' (σ.set i (some v)) ε1 F1 → R (σ.set i (some v)) H') : R (σ.set i (some v)) H' := by
  unfold asgQ at q
  split at q
  · obtain ⟨F1, h1, h2⟩ := S'.assignD (i := i) hp r
    exact k _ G' F1 q ⟨s.g, s.up.h, s.n, fun a z => s.f a (h2 a z)⟩ h1
  · obtain ⟨F1, h1, h2⟩ := S'.assign (i := i) hp r t.dj t.g t.fd
    exact k _ G' F1 q ⟨s.g, s.up.h, s.n, fun a z => (h2 a z).elim (s.f a) (t.n a)⟩ h1
  · obtain ⟨d, ε1, e1, q⟩ := q
    obtain ⟨G2, F2, g1, g2, g3, g4, g5, g6⟩ := RV.fzS (Ft := eNo) s S' r Tmp.no e1
    obtain ⟨F1, h1, h2⟩ := g5.assignD (i := i) hp g6
    exact k _ G2 F1 q ⟨g1.g, g1.up.h, g1.n, fun a z => g1.f a (h2 a z)⟩ h1
theorem ds_set {i : Nat} {x : Str} {pos' : Pos} (he : DE X c W w e te) (hp : c.pr i = none) (h : ∀ t, PE X e t → PS X (.Assign [.Name x pos'] e pos) (tAsg t (gName i))) : DS X c W (.Assign [.Name x pos'] e pos) (sAs i te) := by
  obtain ⟨tt, p, k⟩ := he.ex
  refine ⟨_, h _ p, fun G H σ ε F D EX DH S hh l xo => k G H σ ε F _ EX _ S hh (fun rv ε' v G' H' F' Ft q s S' r t => ?_) xo.at⟩
  exact asg_core (R := fun σ H => DH.nx σ H) hp q s S' r t fun ε1 G1 F1 q s1 S1 => l.nx ε1 _ G1 H' F1 q s1 S1
/-- a, b = e -/
def sUn (p : Pat) (te : ET) : ST' := fun D EX ε => te ε (fun rv ε1 => ∃ d ε2 ε3, rv.fz ε1 = some (d, ε2) ∧ p.bind d ε2 = some ε3 ∧ D.nx ε3) EX
theorem ds_unpack {p : Pat} (he : DE X c W w e te) (hg : DG X c p tg) (hs : swapsWithSole [tg] e pos.line X.env = pure false := by rfl) (hw : swappedStores [tg] e X.env = pure none := by rfl)
    (h1 : (assignEach [tg] X.env).map (·.2) = [assign tg X.env] := by rfl) : DS X c W (.Assign [tg] e pos) (sUn p te) := by
  obtain ⟨tt, pe, k⟩ := he.ex
  obtain ⟨g, pg, k2⟩ := hg.ex
  refine ⟨_, ps_asg pe pg hs hw h1, fun G H σ ε F D EX DH S hh l xo => k G H σ ε F _ EX _ S hh (fun rv ε' v G' H' F' Ft ⟨d, ε2, ε3, e1, e2, q⟩ s S' r t => ?_) xo.at⟩
  obtain ⟨G2, F2, g1, g2, g3, g4, g5, g6⟩ := RV.fzS s S' r t e1
  refine k2 G2 H' σ ε2 ε3 F2 d v _ g5 g6 e2 fun σ' F3 S3 f3 _ _ => ?_
  exact l.nx ε3 σ' G2 H' F3 q ⟨g1.g, g1.up.h, g1.n, fun a z => g1.f a (f3 a z)⟩ S3
/-- for -/
def forGo (p : Pat) (g : ST') (D : SEnds) (EX : EXN) : List DL.D → Env → Prop
  | [], ε => D.nx ε
  | d :: ds, ε => ∃ ε1, p.bind d ε = some ε1 ∧ g { nx := forGo p g D EX ds, ct := forGo p g D EX ds, bk := D.nx, rt := D.rt } EX ε1
def sFor (ti : IT) (p : Pat) (g : ST') : ST' := fun D EX ε => ti ε (fun items ε1 => forGo p g D EX items ε1) EX
theorem ds_for {iter : Expr} {body : List Stmt} {ti : IT} {p : Pat} (hpo : PassesOwn (model X.prog X.w) X.A X.env X.xe) (hc : X.calm = true) (hi : DI X c W w tg iter ti) (hg : DG X c p tg) (hb : DSs X c W body g) (hs : ∀ x, foldedSetIterable iter X.env x = pure x := by intro _; rfl) :
    DS X c W (.For tg iter body [] pos) (sFor ti p g) := by
  obtain ⟨wi, pi, ki⟩ := hi.ex
  obtain ⟨gg, pg, kg⟩ := hg.ex
  obtain ⟨tb, pb, kb⟩ := hb.ex
  refine ⟨_, ps_for hpo hc pi pg pb hs, fun G H σ ε F D EX DH S h l xo => ?_⟩
  refine ki G H σ ε F _ EX _ S h (fun items ε1 J G1 H1 F1 q s1 S1 wk => ?_) xo.at
  refine for_it wk (fun i σ' H' => ∃ G' ε' F', Step true G H F G' H' F' ∧ Sub G1 G' ∧ Sat c G' H' σ' ε' F' ∧ forGo p g D EX (items.drop i) ε') ⟨G1, ε1, F1, s1.up, Sub.refl _, S1, q⟩ (fun i σ' H' _ ⟨G', ε', F', _, s2, S2, _⟩ => s2.trans S2.gh) (fun i x σ' H2 H3 hi ⟨G', ε', F', st, s2, S2, q2⟩ y => ?_) (fun σ' H' ⟨G', ε', F', st, s2, S2, q2⟩ => ?_)
  · obtain ⟨G3, d, y1, y2, y3, y4, y5, y6⟩ := y G' s2 S2.gh
    have hd : items.drop i = d :: items.drop (i + 1) := by
      obtain ⟨hl, e⟩ := List.getElem?_eq_some_iff.mp y5
      rw [List.drop_eq_getElem_cons hl, e]
    rw [hd] at q2
    obtain ⟨ε3, e3, q3⟩ := q2
    have st3 : Step false G' H2 F' G3 H3 F' := ⟨y1, fun a o e _ => y3 a o e, fun a o e => (y4 a o e).elim .inl fun z => .inr (.inl z), fun a z => .inl z⟩
    have S3 : Sat c G3 H3 σ' ε' F' := by
      refine ⟨y2, fun a z => ?_, fun a z => ?_, S2.len, S2.pr, ?_⟩
      · cases e : G3 a with
        | none => rfl
        | some o =>
          rcases y4 a o e with k | k
          · rw [S2.gf a z] at k; cases k
          · obtain ⟨o', e'⟩ := S2.fd a z
            rw [e'] at k; cases k
      · obtain ⟨o, e⟩ := S2.fd a z
        exact ⟨o, y3 a o e⟩
      · obtain ⟨Fs, d1, d2, d3⟩ := S2.at_
        refine ⟨Fs, d1, d2, fun i t e => ?_⟩
        obtain ⟨v, e1, r⟩ := d3 i t e
        exact ⟨v, e1, r.stay y1 t v (Fs i) _ (fun _ q => q) fun a o q e => y3 a o e⟩
    refine kg G3 H3 σ' ε' ε3 F' d x _ S3 y6 e3 fun σ4 F4 S4 f4 _ _ => ?_
    have st4 : Step true G H F G3 H3 F4 := ⟨(st.trans st3).g, (tr2 st st3).h, (st.trans st3).n, fun a z => (tr2 st st3).f a (f4 a z)⟩
    refine kb G3 H3 σ4 ε3 F4 _ EX _ S4 q3 ⟨?_, ?_, ?_, ?_⟩ (xo.step st4)
    · exact fun ε5 σ5 G5 H5 F5 q5 s5 S5 => ⟨G5, ε5, F5, tr2 st4 s5, (s2.trans y1).trans s5.g, S5, q5⟩
    · exact fun ε5 σ5 G5 H5 F5 q5 s5 S5 => l.nx ε5 σ5 G5 H5 F5 q5 (tr2 st4 s5) S5
    · exact fun ε5 σ5 G5 H5 F5 q5 s5 S5 => ⟨G5, ε5, F5, tr2 st4 s5, (s2.trans y1).trans s5.g, S5, q5⟩
    · exact fun t ε5 σ5 v G5 H5 F5 Ft q5 s5 S5 r5 t5 => l.rt t ε5 σ5 v G5 H5 F5 Ft q5 (tr2 st4 s5) S5 r5 (t5.pre st4)
  · rw [List.drop_length] at q2
    exact l.nx ε' σ' G' H' F' q2 st S2
/-- while -/
def whGo (t : TT') (g : ST') (D : SEnds) (EX : EXN) : Nat → Env → Prop
  | 0, _ => False
  | n + 1, ε => t ε (fun b ε1 => (b = true → g { nx := whGo t g D EX n, ct := whGo t g D EX n, bk := D.nx, rt := D.rt } EX ε1) ∧ (b = false → D.nx ε1)) EX
def sWh (t : TT') (g : ST') : ST' := fun D EX ε => ∃ n, whGo t g D EX n ε
theorem ds_while {x : Expr} {body : List Stmt} {t : TT'} (hpo : PassesOwn (model X.prog X.w) X.A X.env X.xe) (hc : DT X c W wc x t) (hb : DSs X c W body g) : DS X c W (.While x body [] pos) (sWh t g) := by
  obtain ⟨tt, pt, kt⟩ := hc.ex
  obtain ⟨tb, pb, kb⟩ := hb.ex
  refine ⟨_, ps_while hpo pt pb, fun G H σ ε F D EX DH S ⟨n, h⟩ l xo => ?_⟩
  refine ⟨fun m σ' H' => ∃ G' ε' F', Step true G H F G' H' F' ∧ Sat c G' H' σ' ε' F' ∧ whGo t g D EX m ε', ⟨n, G, ε, F, Step.refl, S, h⟩, fun m σ' H' ⟨G', ε', F', st, S', q⟩ => ?_⟩
  cases m with
  | zero => exact q.elim
  | succ m =>
    refine kt G' H' σ' ε' F' _ EX _ S' q (fun d ε2 G2 H2 F2 ⟨q1, q2⟩ s2 S2 => ?_) (xo.step st).at
    have st2 := tr2 st s2
    cases d with
    | true =>
      rw [if_pos rfl]
      refine ⟨fun σ3 H3 => ∃ G' ε' F', Step true G H F G' H3 F' ∧ Sat c G' H3 σ3 ε' F' ∧ whGo t g D EX m ε', fun σ3 H3 z => ⟨m, Nat.lt_succ_self m, z⟩, ?_⟩
      refine kb G2 H2 σ' ε2 F2 _ EX _ S2 (q1 rfl) ⟨?_, ?_, ?_, ?_⟩ (xo.step st2)
      · exact fun ε5 σ5 G5 H5 F5 q5 s5 S5 => ⟨G5, ε5, F5, tr2 st2 s5, S5, q5⟩
      · exact fun ε5 σ5 G5 H5 F5 q5 s5 S5 => l.nx ε5 σ5 G5 H5 F5 q5 (tr2 st2 s5) S5
      · exact fun ε5 σ5 G5 H5 F5 q5 s5 S5 => ⟨G5, ε5, F5, tr2 st2 s5, S5, q5⟩
      · exact fun t ε5 σ5 v G5 H5 F5 Ft q5 s5 S5 r5 t5 => l.rt t ε5 σ5 v G5 H5 F5 Ft q5 (tr2 st2 s5) S5 r5 (t5.pre st2)
    | false =>
      rw [if_neg (by decide)]
      exact l.nx ε2 σ' G2 H2 F2 (q2 rfl) st2 S2
end
end DL

namespace DL
open PySem PySem.Spec L2

/-! ### slots forgotten for a while -/
def wipeE (ε : Env) : List Nat → Env
  | [] => ε
  | v :: vs => (wipeE ε vs).set v none
def unwipe (ε1 ε2 : Env) : List Nat → Env
  | [] => ε2
  | v :: vs => (unwipe ε1 ε2 vs).set v (ε1.at v)
theorem wipeE_get (ε : Env) (j : Nat) : ∀ vs : List Nat, (wipeE ε vs)[j]? = if j ∈ vs then (ε[j]?).map (fun _ => none) else ε[j]?
  | [] => by simp [wipeE]
  | v :: vs => by
    have hl : (wipeE ε vs).length = ε.length := by
      clear j
      induction vs with
      | nil => rfl
      | cons u us ih => simp only [wipeE, List.length_set]; exact ih
    simp only [wipeE, List.getElem?_set, wipeE_get ε j vs, List.mem_cons, hl]
    by_cases h : v = j
    · subst h
      simp only [if_true, true_or]
      by_cases h2 : v < ε.length
      · simp [h2]
      · simp [h2]
    · simp only [h, if_false, Ne.symm h, false_or]
theorem unwipe_get (ε1 ε2 : Env) (j : Nat) : ∀ vs : List Nat, (unwipe ε1 ε2 vs)[j]? = if j ∈ vs then (ε2[j]?).map (fun _ => ε1.at j) else ε2[j]?
  | [] => by simp [unwipe]
  | v :: vs => by
    have hl : (unwipe ε1 ε2 vs).length = ε2.length := by
      clear j
      induction vs with
      | nil => rfl
      | cons u us ih => simp only [unwipe, List.length_set]; exact ih
    simp only [unwipe, List.getElem?_set, unwipe_get ε1 ε2 j vs, List.mem_cons, hl]
    by_cases h : v = j
    · subst h
      simp only [if_true, true_or]
      by_cases h2 : v < ε2.length
      · simp [h2]
      · simp [h2]
    · simp only [h, if_false, Ne.symm h, false_or]
theorem wipeE_len (ε : Env) : ∀ vs : List Nat, (wipeE ε vs).length = ε.length
  | [] => rfl
  | v :: vs => by simp only [wipeE, List.length_set, wipeE_len ε vs]
theorem unwipe_len (ε1 ε2 : Env) : ∀ vs : List Nat, (unwipe ε1 ε2 vs).length = ε2.length
  | [] => rfl
  | v :: vs => by simp only [unwipe, List.length_set, unwipe_len ε1 ε2 vs]
theorem wipe_get (σ : L2.St) (j : Nat) : ∀ vs : List Nat, (wipe σ vs)[j]? = if j ∈ vs then (σ[j]?).map (fun _ => none) else σ[j]?
  | [] => by simp [wipe]
  | v :: vs => by
    have hl : (wipe σ vs).length = σ.length := wipe_length σ vs
    simp only [wipe, List.getElem?_set, wipe_get σ j vs, List.mem_cons, hl]
    by_cases h : v = j
    · subst h
      simp only [if_true, true_or]
      by_cases h2 : v < σ.length
      · simp [h2]
      · simp [h2]
    · simp only [h, if_false, Ne.symm h, false_or]
theorem wipe_same {σ σ' : L2.St} {vs : List Nat} (hl : σ'.length = σ.length) (h : ∀ i, i ∉ vs → σ'[i]? = σ[i]?) : wipe σ' vs = wipe σ vs := by
  apply List.ext_getElem?
  intro j
  rw [wipe_get, wipe_get]
  by_cases hj : j ∈ vs
  · simp only [hj, if_true]
    by_cases h2 : j < σ.length
    · rw [List.getElem?_eq_getElem h2, List.getElem?_eq_getElem (by rw [hl]; exact h2)]; rfl
    · rw [List.getElem?_eq_none (by omega), List.getElem?_eq_none (by omega)]
  · simp only [hj, if_false]; exact h j hj
theorem Env.at_get : ∀ {ε : Env} {i : Nat} {t : T}, ε[i]? = some (some t) → ε.at i = some t
  | [], _, _, h => by simp at h
  | x :: r, 0, t, h => by simp only [List.getElem?_cons_zero, Option.some.injEq] at h; subst h; rfl
  | x :: r, n + 1, t, h => by
    have := Env.at_get (ε := r) (i := n) (t := t) (by simpa using h)
    exact this
section
variable {c : CT} {G H G' H' G0 H0 G1 H1 : Hp} {σ : L2.St} {ε ε' ε1 : Env} {F F' F0 Fo Ft F1 : FS} {v : V} {w w' : Bool}
theorem Sat.wipe (S : Sat c G1 H1 σ ε1 F1) {vs : List Nat} (hp : PFree c vs) : ∃ Fb : FS, (∀ a, Fb a → F1 a) ∧ Sat c G1 H1 (L2.wipe σ vs) (wipeE ε1 vs) Fb ∧
    ∀ (w : Bool) (G' H' : Hp) (ε' : Env) (F' : FS), Step w G1 H1 Fb G' H' F' → Sat c G' H' (L2.wipe σ vs) ε' F' → ∃ F'', Sat c G' H' σ (unwipe ε1 ε' vs) F'' ∧ (∀ a, F'' a → F' a ∨ (F1 a ∧ ¬ Fb a)) := by
  obtain ⟨Fs, d1, d2, d3⟩ := id S.at_
  refine ⟨fun a => ∃ j, j ∉ vs ∧ Fs j a, fun a ⟨j, _, q⟩ => d2 j a q, ⟨S.gh, fun a ⟨j, _, q⟩ => S.gf a (d2 j a q), fun a ⟨j, _, q⟩ => S.fd a (d2 j a q), by rw [wipeE_len, wipe_length]; exact S.len, fun i u e => ?_, fun j a => j ∉ vs ∧ Fs j a, fun i j a hij q z => d1 i j a hij q.2 z.2, fun i a q => ⟨i, q⟩, fun i t e => ?_⟩, fun w G' H' ε' F' s S' => ?_⟩
  · rw [wipe_get, if_neg fun z => by rw [hp i z] at e; cases e]
    exact S.pr i u e
  · rw [wipeE_get] at e
    by_cases hi : i ∈ vs
    · simp only [hi, if_true] at e
      cases q : ε1[i]? with
      | none => rw [q] at e; cases e
      | some z => rw [q] at e; cases e
    · simp only [hi, if_false] at e
      obtain ⟨v, e1, r⟩ := d3 i t e
      exact ⟨v, by rw [wipe_get, if_neg hi]; exact e1, r.stay (Sub.refl _) t v (Fs i) _ (fun a q => ⟨hi, q⟩) fun _ _ _ q => q⟩
  · obtain ⟨Fs', e1, e2, e3⟩ := id S'.at_
    have nb : ∀ i a, i ∈ vs → Fs i a → ¬ ∃ j, j ∉ vs ∧ Fs j a := fun i a hi q ⟨j, hj, z⟩ => d1 i j a (fun e => hj (e ▸ hi)) q z
    have kp : ∀ i a o, i ∈ vs → Fs i a → H1 a = some o → H' a = some o := fun i a o hi q e => s.h a o e fun _ => nb i a hi q
    have apart : ∀ i a, i ∈ vs → Fs i a → F' a → False := fun i a hi q z => by
      rcases s.f a z with k | k
      · exact nb i a hi q k
      · obtain ⟨o, e⟩ := S.fd a (d2 i a q)
        rw [e] at k; cases k
    refine ⟨fun a => F' a ∨ ∃ i, i ∈ vs ∧ Fs i a, ⟨S'.gh, fun a q => ?_, fun a q => ?_, by rw [unwipe_len, S'.len, wipe_length], S.pr, fun i => if i ∈ vs then Fs i else Fs' i, fun i j a hij q z => ?_, fun i a q => ?_, fun i t e => ?_⟩, fun a q => ?_⟩
    · rcases q with q | ⟨i, hi, q⟩
      · exact S'.gf a q
      · cases e : G' a with
        | none => rfl
        | some o =>
          rcases s.n a o e with k | k | k
          · rw [S.gf a (d2 i a q)] at k; cases k
          · obtain ⟨o', e'⟩ := S.fd a (d2 i a q)
            rw [e'] at k; cases k
          · exact (nb i a hi q k).elim
    · rcases q with q | ⟨i, hi, q⟩
      · exact S'.fd a q
      · obtain ⟨o, e⟩ := S.fd a (d2 i a q)
        exact ⟨o, kp i a o hi q e⟩
    · by_cases hi : i ∈ vs
      · by_cases hj : j ∈ vs
        · simp only [hi, hj, if_true] at q z
          exact d1 i j a hij q z
        · simp only [hi, hj, if_true, if_false] at q z
          exact apart i a hi q (e2 j a z)
      · by_cases hj : j ∈ vs
        · simp only [hi, hj, if_true, if_false] at q z
          exact apart j a hj z (e2 i a q)
        · simp only [hi, hj, if_false] at q z
          exact e1 i j a hij q z
    · by_cases hi : i ∈ vs
      · simp only [hi, if_true] at q; exact .inr ⟨i, hi, q⟩
      · simp only [hi, if_false] at q; exact .inl (e2 i a q)
    · rw [unwipe_get] at e
      by_cases hi : i ∈ vs
      · simp only [hi, if_true] at e ⊢
        cases q : ε'[i]? with
        | none => rw [q] at e; cases e
        | some z =>
          rw [q] at e
          simp only [Option.map_some, Option.some.injEq] at e
          obtain ⟨v, k1, r⟩ := d3 i t (Env.at_some e)
          exact ⟨v, k1, r.stay s.g t v (Fs i) _ (fun _ q => q) fun a o q e => kp i a o hi q e⟩
      · simp only [hi, if_false] at e ⊢
        obtain ⟨v, k1, r⟩ := e3 i t e
        rw [wipe_get, if_neg hi] at k1
        exact ⟨v, k1, r⟩
    · rcases q with q | ⟨i, hi, q⟩
      · exact .inl q
      · exact .inr ⟨d2 i a q, nb i a hi q⟩
/-- an object that nothing speaks of is written -/
theorem Sat.aside (S : Sat c G H σ ε F) {p : Addr} {o : HO} (hf : ¬ F p) (hg : G p = none) : Sat c G (upd H p o) σ ε F := by
  have hF : ∀ a, F a → a ≠ p := fun a q e => hf (e ▸ q)
  refine ⟨S.gh.keep hg, S.gf, fun a q => ?_, S.len, S.pr, ?_⟩
  · obtain ⟨u, z⟩ := S.fd a q
    exact ⟨u, by rw [upd_ne (hF a q)]; exact z⟩
  · obtain ⟨Fs, d1, d2, d3⟩ := S.at_
    refine ⟨Fs, d1, d2, fun i t e => ?_⟩
    obtain ⟨v, e1, r⟩ := d3 i t e
    exact ⟨v, e1, r.stay (Sub.refl _) t v (Fs i) _ (fun _ q => q) fun a o q e => by rw [upd_ne (hF a (d2 i a q))]; exact e⟩
end

/-! ### readings for any context -/
def liftE (c : CT) (W : WX') (w : Bool) (t : ET) : TE := fun σ H QH => ∃ G ε F Q EX, Sat c G H σ ε F ∧ t ε Q EX ∧ Out c w G H σ F Q QH ∧ XOut c G H F σ EX W
theorem DE.lift {X : Cx} {c : CT} {W : WX'} {w : Bool} {e : Expr} {t : ET} (h : DE X c W w e t) : PE X e (liftE c W w t) :=
  ⟨fun pins s σ H Q I ⟨G, ε, F, QD, EX, S, q, o, xo⟩ => let ⟨_, p, k⟩ := h.ex; p.run pins s σ H Q I (k G H σ ε F QD EX Q S q o xo)⟩
structure DTs (X : Cx) (c : CT) (W : WX') (w : Bool) (es : List Expr) (t : TT') : Prop where
  ex : ∃ tt, PTs X es tt ∧ ∀ (G H : Hp) (σ : L2.St) (ε : Env) (F : FS) (Q : Bool → Env → Prop) (EX : EXN) (QH : Bool → Hp → Prop), Sat c G H σ ε F → t ε Q EX →
    (∀ b ε' G' H' F', Q b ε' → Step w G H F G' H' F' → Sat c G' H' σ ε' F' → QH b H') → XOut c G H F σ EX W → tt σ H QH
def tYs : TT' := fun ε Q _ => Q true ε
theorem dts_nil {X : Cx} {c : CT} {W : WX'} : DTs X c W false [] tYs := ⟨_, pts_nil, fun G H σ ε F Q EX QH S h o _ => o true ε G H F h Step.refl S⟩
theorem dts_one {X : Cx} {c : CT} {W : WX'} {w : Bool} {e : Expr} {t : TT'} (h : DT X c W w e t) : DTs X c W w [e] t := let ⟨tt, p, k⟩ := h.ex; ⟨_, pts_one p, k⟩
def liftT (c : CT) (W : WX') (w : Bool) (t : TT') : TT := fun σ H QH => ∃ G ε F Q EX, Sat c G H σ ε F ∧ t ε Q EX ∧ (∀ b ε' G' H' F', Q b ε' → Step w G H F G' H' F' → Sat c G' H' σ ε' F' → QH b H') ∧ XOut c G H F σ EX W
theorem DTs.lift {X : Cx} {c : CT} {W : WX'} {w : Bool} {es : List Expr} {t : TT'} (h : DTs X c W w es t) : PTs X es (liftT c W w t) :=
  ⟨fun pins s σ H Q I ⟨G, ε, F, QD, EX, S, q, o, xo⟩ => let ⟨_, p, k⟩ := h.ex; p.run pins s σ H Q I (k G H σ ε F QD EX Q S q o xo)⟩
def liftG (c : CT) (p : Pat) : TG := fun v σ H Q => ∃ G ε ε' F d, Sat c G H σ ε F ∧ RD c G d v ∧ p.bind d ε = some ε' ∧
  (∀ σ' F', Sat c G H σ' ε' F' → (∀ a, F' a → F a) → (∀ i, i ∉ p.slots → σ'[i]? = σ[i]?) → σ'.length = σ.length → Q σ' H)
theorem DG.lift {X : Cx} {c : CT} {p : Pat} {tg : Expr} (h : DG X c p tg) : PG X tg (liftG c p) :=
  ⟨fun pins s σ H v u Q I r ⟨G, ε, ε', F, d, S, rd, e, k⟩ => let ⟨_, p, kk⟩ := h.ex; p.run pins s σ H v u Q I r (kk G H σ ε ε' F d v Q S rd e k)⟩
def NoX : EXN := fun _ _ => False
def NoW : WX' := fun _ _ _ _ => False
theorem xout_no {c : CT} {G H : Hp} {F : FS} {σ : L2.St} {W : WX'} : XOut c G H F σ NoX W := fun _ _ _ _ _ _ _ z => False.elim z

/-! ### [elt for target in iter if ..] -/
def lcGo (p : Pat) (vs : List Nat) (tt : TT') (te : ET) (K : List T → Env → Prop) : List D → List T → Env → Prop
  | [], acc, ε => K acc ε
  | d :: ds, acc, ε => ∃ ε1, p.bind d ε = some ε1 ∧ tt ε1 (fun b ε2 => (b = true → te ε2 (fun rv ε3 => ∃ t ε4, owns [rv] ε3 = some ([t], ε4) ∧ lcGo p vs tt te K ds (acc ++ [t]) (wipeE ε4 vs)) NoX) ∧ (b = false → lcGo p vs tt te K ds acc (wipeE ε2 vs))) NoX
def tLcD (ti : IT) (p : Pat) (vs : List Nat) (tt : TT') (te : ET) : ET := fun ε Q EX => ti ε (fun items ε1 => items.length ≤ sizeLine ∧ lcGo p vs tt te (fun acc ε2 => Q (.own (.lst acc)) (unwipe ε1 ε2 vs)) items [] (wipeE ε1 vs)) EX
section
variable {X : Cx} {c : CT} {W : WX'} {wi wt we : Bool} {tg iter elt : Expr} {ifs : List Expr} {scope : Scope} {own : List (Str × Nat)} {pos : Pos} {ti : IT} {p : Pat} {tt : TT'} {te : ET}
theorem RTs.app {G H : Hp} : ∀ {ts : List T} {vs : List V} {us : List T} {xs : List V} {Fa Fb : FS}, RTs c G H ts vs Fa → RTs c G H us xs Fb → (∀ a, Fa a → Fb a → False) → RTs c G H (ts ++ us) (vs ++ xs) (fun a => Fa a ∨ Fb a)
  | [], vs, us, xs, Fa, Fb, h, k, dj => by
    simp only [RTs] at h
    subst h
    exact RTs.stay (Sub.refl _) us xs Fb _ (fun _ q => .inr q) (fun _ _ _ q => q) k
  | t :: ts, vs, us, xs, Fa, Fb, h, k, dj => by
    simp only [RTs] at h
    obtain ⟨v, r, F1, F2, rfl, h1, h2, h3, h4, h5⟩ := h
    rw [List.cons_append, List.cons_append]
    simp only [RTs]
    exact ⟨v, _, F1, fun a => F2 a ∨ Fb a, rfl, fun b q => .inl (h1 b q), fun b q => q.elim (fun z => .inl (h2 b z)) .inr, fun b q z => z.elim (h3 b q) (dj b (h1 b q)), h4, RTs.app h5 k fun a q => dj a (h2 a q)⟩
/-- what the comprehension's loop keeps -/
structure LcInv (c : CT) (w : Bool) (G1 H1 : Hp) (Fb : FS) (D : Addr) (σ0 : L2.St) (G H : Hp) (ε : Env) (F : FS) (acc : List T) (vacc : List V) (Fa : FS) : Prop where
  st : Step w G1 H1 Fb G H F
  S : Sat c G H σ0 ε F
  at_ : H D = some (.lst vacc)
  acc : RTs c G H acc vacc Fa
  dj : ∀ a, Fa a → F a → False
  g : ∀ a, Fa a → G a = none
  fd : ∀ a, Fa a → ∃ o, H a = some o
  n : ∀ a, Fa a → Fb a ∨ H1 a = none
  nf : ¬ F D
  na : ¬ Fa D
  ng : G D = none
theorem LcInv.step {w w' : Bool} {G1 H1 : Hp} {Fb : FS} {D : Addr} {σ0 : L2.St} {G H G' H' : Hp} {ε ε' : Env} {F F' : FS} {acc : List T} {vacc : List V} {Fa : FS} (L : LcInv c w G1 H1 Fb D σ0 G H ε F acc vacc Fa) {σ1 : L2.St} (s : Step w' G H F G' H' F') (hw : w' = true → w = true) (S' : Sat c G' H' σ1 ε' F') : LcInv c w G1 H1 Fb D σ1 G' H' ε' F' acc vacc Fa := by
  have s' : Step w G H F G' H' F' := s.mono hw
  refine ⟨(L.st.trans s').mono fun q => by simpa using q, S', s.h _ _ L.at_ fun _ => L.nf, RTs.stay s.g acc vacc Fa Fa (fun _ q => q) (fun a o q e => s.h a o e fun _ z => L.dj a q z) L.acc, fun a q z => ?_, fun a q => ?_, fun a q => ?_, L.n, fun z => ?_, L.na, ?_⟩
  · rcases s.f a z with k | k
    · exact L.dj a q k
    · obtain ⟨o, e⟩ := L.fd a q
      rw [e] at k; cases k
  · cases e : G' a with
    | none => rfl
    | some o =>
      rcases s.n a o e with k | k | k
      · rw [L.g a q] at k; cases k
      · obtain ⟨o', e'⟩ := L.fd a q
        rw [e'] at k; cases k
      · exact (L.dj a q k).elim
  · obtain ⟨o, e⟩ := L.fd a q
    exact ⟨o, s.h a o e fun _ z => L.dj a q z⟩
  · rcases s.f D z with k | k
    · exact L.nf k
    · rw [L.at_] at k; cases k
  · cases e : G' D with
    | none => rfl
    | some o =>
      rcases s.n D o e with k | k | k
      · rw [L.ng] at k; cases k
      · rw [L.at_] at k; cases k
      · exact (L.nf k).elim
theorem lc_read {G H : Hp} {σ : L2.St} {ε : Env} {F : FS} {Q : EQ} {EX : EXN} {QH : VK} {wiI : TI} (hp : PFree c (own.map (·.2))) (hsl : ∀ i ∈ p.slots, i ∈ own.map (·.2))
    (ki : ∀ (G H : Hp) (σ : L2.St) (ε : Env) (F : FS) (Q : List D → Env → Prop) (EX : EXN) (R : It → Hp → Prop), Sat c G H σ ε F → ti ε Q EX → (∀ items ε' J G' H' F', Q items ε' → Step wi G H F G' H' F' → Sat c G' H' σ ε' F' → WalkD c J items G' → R J H') → XOut c G H F σ EX W → wiI σ H R)
    (S : Sat c G H σ ε F) (h : tLcD ti p (own.map (·.2)) tt te ε Q EX) (o : Out c (wi || (wt || we)) G H σ F Q QH) (xo : XOut c G H F σ EX W) : tLc wiI (liftG c p) (liftT c NoW wt tt) (liftE c NoW we te) (own.map (·.2)) σ H QH := by
  refine ki G H σ ε F _ EX _ S h (fun items ε1 J G1 H1 F1 ⟨hlen, q⟩ s1 S1 wk D hD => ?_) xo
  obtain ⟨Fb, b1, Sb, back⟩ := S1.wipe hp
  have fbD : ¬ Fb D := fun z => by
    obtain ⟨u, e⟩ := Sb.fd D z
    rw [hD] at e; cases e
  have hG1 : G1 D = none := S1.gh.no hD
  refine lc_it wk (fun i H' => ∃ G' ε' F' acc vacc Fa, LcInv c (wt || we) G1 H1 Fb D (wipe σ (own.map (·.2))) G' H' ε' F' acc vacc Fa ∧ acc.length ≤ i ∧ lcGo p (own.map (·.2)) tt te (fun acc ε2 => Q (.own (.lst acc)) (unwipe ε1 ε2 (own.map (·.2)))) (items.drop i) acc ε') ?_ ?_ ?_ ?_
  · refine ⟨G1, wipeE ε1 (own.map (·.2)), Fb, [], [], eNo, ⟨(Step.growH hD).mono (fun z => nomatch z), Sb.growH hD, upd_same, (show RTs c G1 (upd H1 D (.lst [])) [] [] eNo by simp only [RTs]), fun _ z => False.elim z, fun _ z => False.elim z, fun _ z => False.elim z, fun _ z => False.elim z, fbD, fun z => z, hG1⟩, Nat.zero_le _, q⟩
  · rintro i H' _ ⟨G', ε', F', acc, vacc, Fa, L, _, _⟩
    exact L.st.g.trans L.S.gh
  · rintro i x H2 H3 hi ⟨G', ε', F', acc, vacc, Fa, L, hacc, q2⟩ y
    obtain ⟨G3, d, y1, y2, y3, y4, y5, y6⟩ := y G' L.st.g L.S.gh
    have hd : items.drop i = d :: items.drop (i + 1) := by
      obtain ⟨hl, e⟩ := List.getElem?_eq_some_iff.mp y5
      rw [List.drop_eq_getElem_cons hl, e]
    rw [hd] at q2
    obtain ⟨ε3, e3, q3⟩ := q2
    have st3 : Step false G' H2 F' G3 H3 F' := ⟨y1, fun a o e _ => y3 a o e, fun a o e => (y4 a o e).elim .inl fun z => .inr (.inl z), fun a z => .inl z⟩
    have S3 : Sat c G3 H3 (wipe σ (own.map (·.2))) ε' F' := by
      refine ⟨y2, fun a z => ?_, fun a z => ?_, L.S.len, L.S.pr, ?_⟩
      · cases e : G3 a with
        | none => rfl
        | some o =>
          rcases y4 a o e with k | k
          · rw [L.S.gf a z] at k; cases k
          · obtain ⟨o', e'⟩ := L.S.fd a z
            rw [e'] at k; cases k
      · obtain ⟨o, e⟩ := L.S.fd a z
        exact ⟨o, y3 a o e⟩
      · obtain ⟨Fs, d1, d2, d3⟩ := L.S.at_
        refine ⟨Fs, d1, d2, fun i t e => ?_⟩
        obtain ⟨v, e1, r⟩ := d3 i t e
        exact ⟨v, e1, r.stay y1 t v (Fs i) _ (fun _ q => q) fun a o q e => y3 a o e⟩
    have L3 := L.step st3 (fun z => nomatch z) S3
    refine ⟨G3, ε', ε3, F', d, S3, y6, e3, fun σ4 F4 S4 f4 g4 l4 => ?_⟩
    have st4 : Step false G3 H3 F' G3 H3 F4 := ⟨Sub.refl _, fun a o e _ => e, fun a o e => .inl e, fun a z => .inl (f4 a z)⟩
    have L4 := L3.step st4 (fun z => nomatch z) S4
    have hwp : wipe σ4 (own.map (·.2)) = wipe σ (own.map (·.2)) := by
      refine (wipe_same l4 fun i hi => g4 i fun z => hi (hsl i z)).trans ?_
      refine wipe_same (wipe_length _ _) fun i hi => ?_
      rw [wipe_get, if_neg hi]
    refine ⟨hwp, G3, ε3, F4, _, NoX, S4, q3, fun b ε5 G5 H5 F5 ⟨qt, qf⟩ st5 S5 => ?_, xout_no⟩
    have L5 := L4.step st5 (fun z => by rw [z]; rfl) S5
    have rew : ∀ {G6 H6 : Hp} {ε6 : Env} {F6 : FS} {acc' : List T} {vacc' : List V} {Fa' : FS}, LcInv c (wt || we) G1 H1 Fb D σ4 G6 H6 ε6 F6 acc' vacc' Fa' → ∃ F7, LcInv c (wt || we) G1 H1 Fb D (wipe σ (own.map (·.2))) G6 H6 (wipeE ε6 (own.map (·.2))) F7 acc' vacc' Fa' := fun {G6 H6 ε6 F6 acc' vacc' Fa'} L6 => by
      obtain ⟨F7, f7, S7, _⟩ := L6.S.wipe hp
      rw [hwp] at S7
      exact ⟨F7, ⟨⟨L6.st.g, L6.st.h, L6.st.n, fun a z => L6.st.f a (f7 a z)⟩, S7, L6.at_, L6.acc, fun a q z => L6.dj a q (f7 a z), L6.g, L6.fd, L6.n, fun z => L6.nf (f7 D z), L6.na, L6.ng⟩⟩
    cases b with
    | false =>
      dsimp only
      rw [if_neg (by decide)]
      obtain ⟨F7, L7⟩ := rew L5
      exact ⟨G5, _, F7, acc, vacc, Fa, L7, Nat.le_succ_of_le hacc, qf rfl⟩
    | true =>
      dsimp only
      rw [if_pos rfl]
      refine ⟨G5, ε5, F5, _, NoX, S5, qt rfl, fun rv ε6 y G6 H6 F6 Ft ⟨t, ε7, e7, q7⟩ st6 S6 rv6 t6 => ?_, xout_no⟩
      have L6 := L5.step st6 (fun z => by rw [z]; cases wt <;> rfl) S6
      refine ⟨vacc, L6.at_, ?_, ?_⟩
      · have h1 := L6.acc.len
        have h2 : i < items.length := hi
        omega
      obtain ⟨G7, F7, g1, g2, g3, S7, rt⟩ := RVs.toT (rs := [rv]) (vs := [y]) S6 ⟨y, [], Ft, eNo, rfl, fun _ q => q, fun _ z => False.elim z, fun _ _ z => z, rv6, rfl⟩ t6.dj t6.g e7
      have s7 : Step false G6 H6 F6 G7 H6 F7 := ⟨g1, fun a o e _ => e, fun a o e => (g2 a o e).elim .inl fun z => .inr (.inr z), fun a z => .inl (g3 a z)⟩
      have L7 := L6.step s7 (fun z => nomatch z) S7
      have ftD : ¬ Ft D := fun z => by
        rcases t6.n D z with k | k
        · exact L5.nf k
        · rw [L5.at_] at k; cases k
      have dja : ∀ a, Fa a → Ft a → False := fun a q z => by
        rcases t6.n a z with k | k
        · exact L5.dj a q k
        · obtain ⟨o, e⟩ := L5.fd a q
          rw [e] at k; cases k
      have hn6 : ∀ a, Ft a → Fb a ∨ H1 a = none := fun a z => by
        rcases t6.n a z with k | k
        · exact L5.st.f a k
        · rcases L5.st.no k with k | k
          · exact .inr k
          · exact .inl k
      have hG7 : ∀ a, Ft a → G7 a = none := fun a z => by
        cases e : G7 a with
        | none => rfl
        | some o =>
          rcases g2 a o e with k | k
          · rw [t6.g a z] at k; cases k
          · exact (t6.dj a z k).elim
      have L8 : LcInv c (wt || we) G1 H1 Fb D σ4 G7 (upd H6 D (.lst (vacc ++ [y]))) ε7 F7 (acc ++ [t]) (vacc ++ [y]) (fun a => Fa a ∨ Ft a) := by
        refine ⟨⟨L7.st.g, fun a o e k => ?_, L7.st.n, L7.st.f⟩, L7.S.aside L7.nf L7.ng, upd_same, ?_, fun a q z => Or.elim q (fun q => L7.dj a q z) (fun q => t6.dj a q (g3 a z)), fun a q => Or.elim q (L7.g a) (hG7 a), fun a q => ?_, fun a q => Or.elim q (L7.n a) (hn6 a), L7.nf, fun z => Or.elim z L7.na ftD, L7.ng⟩
        · rw [upd_ne (show a ≠ D from fun z => by rw [z, hD] at e; cases e)]
          exact L7.st.h a o e k
        · refine RTs.stay (Sub.refl _) _ _ _ _ (fun _ q => q) (fun a o q e => ?_) (RTs.app L7.acc rt dja)
          rw [upd_ne (show a ≠ D from fun z => by
            subst z
            rcases q with q | q
            · exact L7.na q
            · exact ftD q)]
          exact e
        · rcases q with q | q
          · obtain ⟨o, e⟩ := L7.fd a q
            exact ⟨o, by rw [upd_ne (show a ≠ D from fun z => L7.na (by rw [← z]; exact q))]; exact e⟩
          · obtain ⟨o, e⟩ := t6.fd a q
            exact ⟨o, by rw [upd_ne (show a ≠ D from fun z => ftD (by rw [← z]; exact q))]; exact e⟩
      obtain ⟨F9, L9⟩ := rew L8
      exact ⟨G7, _, F9, acc ++ [t], vacc ++ [y], _, L9, by rw [List.length_append]; exact Nat.succ_le_succ hacc, q7⟩
  · rintro H' ⟨G', ε', F', acc, vacc, Fa, L, hacc, q2⟩
    rw [List.drop_length] at q2
    obtain ⟨F'', S'', f''⟩ := back _ G' H' ε' F' L.st L.S
    have apart : ∀ a, F1 a → ¬ Fb a → Fa a → False := fun a q1 q2 z => by
      rcases L.n a z with k | k
      · exact q2 k
      · obtain ⟨o, e⟩ := S1.fd a q1
        rw [e] at k; cases k
    have sF : Step (wt || we) G1 H1 F1 G' H' F'' := ⟨L.st.g, fun a o e k => L.st.h a o e fun z q => k z (b1 a q), fun a o e => by
      rcases L.st.n a o e with z | z | z
      · exact .inl z
      · exact .inr (.inl z)
      · exact .inr (.inr (b1 a z)), fun a z => by
      rcases f'' a z with z | ⟨z, _⟩
      · rcases L.st.f a z with z | z
        · exact .inl (b1 a z)
        · exact .inr z
      · exact .inl z⟩
    refine o _ _ (.ref D) G' H' F'' (fun a => a = D ∨ Fa a) q2 (s1.trans sF) S'' ?_ ⟨?_, ?_, ?_, ?_⟩
    · simp only [RV, RT]
      exact ⟨D, vacc, Fa, rfl, L.at_, .inl rfl, L.na, fun b z => .inr z, L.acc⟩
    · rintro a (rfl | z) z2
      · rcases f'' a z2 with k | ⟨k, _⟩
        · exact L.nf k
        · obtain ⟨o, e⟩ := S1.fd a k
          rw [hD] at e; cases e
      · rcases f'' a z2 with k | ⟨k, k2⟩
        · exact L.dj a z k
        · exact apart a k k2 z
    · rintro a (rfl | z)
      · exact L.ng
      · exact L.g a z
    · rintro a (rfl | z)
      · exact ⟨_, L.at_⟩
      · exact L.fd a z
    · rintro a (rfl | z)
      · rcases s1.no hD with k | k
        · exact .inr k
        · exact .inl k
      · rcases L.n a z with k | k
        · exact s1.f a (b1 a k)
        · rcases s1.no k with k | k
          · exact .inr k
          · exact .inl k
theorem de_lc (hc : X.calm = true) (hN : X.N.Nodup) (hp : PFree c (own.map (·.2))) (hsl : ∀ i ∈ p.slots, i ∈ own.map (·.2)) (hi : DI X c W wi tg iter ti) (ok : BlkOk X.N X.env.scope scope own)
    (hg : ∀ (s : Shared) (H : Hp) (C : Addr) (cl : List (Str × Addr)) (fp : List Addr), DG (X.blk s H scope (compEnvC scope cl C X.env) fp) c p tg) (ht : ∀ (s : Shared) (H : Hp) (C : Addr) (cl : List (Str × Addr)) (fp : List Addr), DTs (X.blk s H scope (compEnvC scope cl C X.env) fp) c NoW wt ifs tt)
    (he : ∀ (s : Shared) (H : Hp) (C : Addr) (cl : List (Str × Addr)) (fp : List Addr), DE (X.blk s H scope (compEnvC scope cl C X.env) fp) c NoW we elt te) (hs : ∀ x, foldedSetIterable iter X.env x = pure x := by intro _; rfl) :
    DE X c W (wi || (wt || we)) (.ListComp elt [⟨tg, iter, ifs, 0⟩] scope pos) (tLcD ti p (own.map (·.2)) tt te) := by
  obtain ⟨wiI, pi, ki⟩ := hi.ex
  exact ⟨_, pe_lc hc hN pi ok (fun s H C cl fp => (hg s H C cl fp).lift) (fun s H C cl fp => (ht s H C cl fp).lift) (fun s H C cl fp => (he s H C cl fp).lift) hs, fun G H σ ε F Q EX QH S h o xo => lc_read hp hsl ki S h o xo⟩
theorem ds_setLc {i : Nat} {y : Str} {py spos : Pos} (hc : X.calm = true) (hN : X.N.Nodup) (hp : PFree c (own.map (·.2))) (hsl : ∀ i ∈ p.slots, i ∈ own.map (·.2)) (hi : DI X c W wi tg iter ti) (ok : BlkOk X.N X.env.scope scope own)
    (hg : ∀ (s : Shared) (H : Hp) (C : Addr) (cl : List (Str × Addr)) (fp : List Addr), DG (X.blk s H scope (compEnvC scope cl C X.env) fp) c p tg) (ht : ∀ (s : Shared) (H : Hp) (C : Addr) (cl : List (Str × Addr)) (fp : List Addr), DTs (X.blk s H scope (compEnvC scope cl C X.env) fp) c NoW wt ifs tt)
    (he : ∀ (s : Shared) (H : Hp) (C : Addr) (cl : List (Str × Addr)) (fp : List Addr), DE (X.blk s H scope (compEnvC scope cl C X.env) fp) c NoW we elt te) (hpi : c.pr i = none) (hy : X.N[i]? = some y) (hyl : X.env.scope.names.lookup y = some .local)
    (hsw : swapsWith (.ListComp elt [⟨tg, iter, ifs, 0⟩] scope pos) (some (.Name y py)) spos.line X.env = pure true) (hs : ∀ x, foldedSetIterable iter X.env x = pure x := by intro _; rfl) :
    DS X c W (.Assign [.Name y py] (.ListComp elt [⟨tg, iter, ifs, 0⟩] scope pos) spos) (sAs i (tLcD ti p (own.map (·.2)) tt te)) := by
  obtain ⟨wiI, pi, ki⟩ := hi.ex
  refine ⟨_, ps_setLc hc hN hy hyl hsw pi ok (fun s H C cl fp => (hg s H C cl fp).lift) (fun s H C cl fp => (ht s H C cl fp).lift) (fun s H C cl fp => (he s H C cl fp).lift) hs, fun G H σ ε F D EX DH S h l xo => ?_⟩
  refine lc_read (QH := fun x H1 => gName i x σ H1 DH.nx) hp hsl ki S h (fun rv ε' v G' H' F' Ft q s S' r t => ?_) xo.at
  exact asg_core (R := fun σ H => DH.nx σ H) hpi q s S' r t fun ε1 G1 F1 q s1 S1 => l.nx ε1 _ G1 H' F1 q s1 S1
end
end DL

namespace DL
open PySem PySem.Spec L2

/-! ### what a def promises, over trees -/
abbrev SpD := List T → (T → List T → Prop) → (Ex → List T → Prop) → Prop
abbrev c0 (K : PySem.W.Frag) (ca : Str → Option Addr) : CT := ⟨K, ca, fun _ => none⟩
structure DFn (P : Program) (w : World) (K : PySem.W.Frag) (mg : Str → Option Value) (base : Heap) (ca : Str → Option Addr) (k : Nat) (f : Addr) (fd : FuncData) (ps : List Str) (sp : SpD) : Prop where
  len : ∀ ts Q E, sp ts Q E → ts.length = ps.length
  run : ∀ (A : Around) (outer : List PySem.Env) (s : Shared) (H : Hp) (args : Args) (us : List Value) (vs : List V) (ts : List T) (G : Hp) (F : FS) (QD : T → List T → Prop) (EXD : Ex → List T → Prop) (QH : VK) (EH : XK),
    Room k A → A.guards = some [] → Env0 P w K mg base A outer s H → BindsTo s fd args (ps.zip us) → Vals vs us → Sub G H → (∀ a, F a → G a = none) → (∀ a, F a → ∃ o, H a = some o) → RTs (c0 K ca) G H ts vs F → sp ts QD EXD →
    (∀ r ts' v G' H' F' Ft, QD r ts' → Step true G H F G' H' F' → Sub G' H' → (∀ a, F' a → G' a = none) → (∀ a, F' a → ∃ o, H' a = some o) → RTs (c0 K ca) G' H' ts' vs F' → RT (c0 K ca) G' H' r v Ft → Tmp H F G' H' F' Ft → QH v H') →
    (∀ x ts' G' H' F' cl d, EXD x ts' → Step true G H F G' H' F' → Sub G' H' → (∀ a, F' a → G' a = none) → (∀ a, F' a → ∃ o, H' a = some o) → RTs (c0 K ca) G' H' ts' vs F' → XR (c0 K ca) G' x cl d → EH cl d H') →
    codeAny (model P w) A (.call (.ref f) args) (CR (L2.CX P w) outer P w H s QH EH) s
theorem DFn.mono {P : Program} {w : World} {K : PySem.W.Frag} {mg : Str → Option Value} {base : Heap} {ca : Str → Option Addr} {j k : Nat} {f : Addr} {fd : FuncData} {ps : List Str} {sp : SpD} (h : DFn P w K mg base ca j f fd ps sp) (hk : j ≤ k) : DFn P w K mg base ca k f fd ps sp :=
  ⟨h.len, fun A outer s H args us vs ts G F QD EXD QH EH hr => h.run A outer s H args us vs ts G F QD EXD QH EH (hr.mono hk)⟩
theorem DFn.imp {P : Program} {w : World} {K : PySem.W.Frag} {mg : Str → Option Value} {base : Heap} {ca : Str → Option Addr} {k : Nat} {f : Addr} {fd : FuncData} {ps : List Str} {sp sp' : SpD} (h : DFn P w K mg base ca k f fd ps sp) (i : ∀ ts Q E, sp' ts Q E → sp ts Q E) : DFn P w K mg base ca k f fd ps sp' :=
  ⟨fun ts Q E q => h.len ts Q E (i _ _ _ q), fun A outer s H args us vs ts G F QD EXD QH EH hr hg e0 hb hv h1 h2 h3 h4 hs => h.run A outer s H args us vs ts G F QD EXD QH EH hr hg e0 hb hv h1 h2 h3 h4 (i _ _ _ hs)⟩

/-- the parameters' trees at the end: of the fixed slots what stands there, of the others what came (data) -/
def T.frO : T → Option T
  | .fr d => some (.fr d)
  | _ => none
def parsFrom (kp : List Nat) : Nat → List T → Env → Option (List T)
  | _, [], _ => some []
  | i, t :: ts, ε => (if i ∈ kp then ε.at i else t.frO).bind fun u => (parsFrom kp (i + 1) ts ε).map fun us => u :: us
def startE (N : List Str) (ts : List T) : Env := ts.map some ++ List.replicate (N.length - ts.length) none
def fnEnds (kp : List Nat) (ts : List T) (QD : T → List T → Prop) : SEnds :=
  { nx := fun ε => ∃ ts', parsFrom kp 0 ts ε = some ts' ∧ QD (.fr .non) ts', rt := fun r ε => ∃ ts', parsFrom kp 0 ts ε = some ts' ∧ QD r ts', bk := fun _ => False, ct := fun _ => False }
def fnX (kp : List Nat) (ts : List T) (EXD : Ex → List T → Prop) : EXN := fun x ε => ∃ ts', parsFrom kp 0 ts ε = some ts' ∧ EXD x ts'
def prOf (kp : List Nat) (vs : List V) (i : Nat) : Option V := if i ∈ kp then vs[i]? else none
theorem prOf_no {kp : List Nat} {vs : List V} {i : Nat} (h : (kp.contains i) = false) : prOf kp vs i = none := by
  unfold prOf
  rw [if_neg]
  intro z
  rw [List.contains_eq_mem] at h
  simp [z] at h
section
variable {K : PySem.W.Frag} {ca : Str → Option Addr} {G H G' H' : Hp} {kp : List Nat}
theorem start_sat {N : List Str} {ts : List T} {vs : List V} {F : FS} (hl : vs.length ≤ N.length) (s : Sub G H) (hg : ∀ a, F a → G a = none) (hd : ∀ a, F a → ∃ o, H a = some o) (r : RTs (c0 K ca) G H ts vs F) : Sat ⟨K, ca, prOf kp vs⟩ G H (L2.start N vs) (startE N ts) F := by
  have hlen := r.len
  obtain ⟨Fs, d1, d2, d3⟩ := r.split
  have hst : ∀ i v, vs[i]? = some v → (L2.start N vs)[i]? = some (some v) := fun i v e => by
    unfold L2.start
    have hi := (List.getElem?_eq_some_iff.mp e).1
    rw [List.getElem?_append_left (by simpa using hi), List.getElem?_map, e]
    rfl
  refine ⟨s, hg, hd, ?_, fun i v e => ?_, Fs, d1, d2, fun i t e => ?_⟩
  · unfold L2.start startE
    simp only [List.length_append, List.length_map, List.length_replicate]
    omega
  · have e : prOf kp vs i = some v := e
    unfold prOf at e
    split at e
    · exact hst i v e
    · cases e
  · unfold startE at e
    by_cases hi : i < ts.length
    · rw [List.getElem?_append_left (by simpa using hi), List.getElem?_map] at e
      obtain ⟨v, e1, r1⟩ := d3 i ts[i] (List.getElem?_eq_getElem hi)
      rw [List.getElem?_eq_getElem hi] at e
      simp only [Option.map_some, Option.some.injEq] at e
      subst e
      exact ⟨v, hst i v e1, RT.cv _ _ _ r1⟩
    · rw [List.getElem?_append_right (by simpa using hi), List.getElem?_replicate] at e
      split at e <;> cases e
theorem parsFrom_get : ∀ {i : Nat} {ts ts' : List T} {ε : Env}, parsFrom kp i ts ε = some ts' → ts'.length = ts.length ∧ ∀ j t, ts'[j]? = some t → (i + j ∈ kp ∧ ε.at (i + j) = some t) ∨ (i + j ∉ kp ∧ ∃ d, t = .fr d ∧ ts[j]? = some (.fr d))
  | i, [], ts', ε, e => by
    simp only [parsFrom, Option.some.injEq] at e
    subst e
    exact ⟨rfl, fun j t e => by simp at e⟩
  | i, t :: ts, ts', ε, e => by
    simp only [parsFrom] at e
    cases q : (if i ∈ kp then ε.at i else t.frO) with
    | none => rw [q] at e; cases e
    | some u =>
      rw [q] at e
      cases q2 : parsFrom kp (i + 1) ts ε with
      | none => rw [q2] at e; cases e
      | some us =>
        rw [q2] at e
        simp only [Option.bind_some, Option.map_some, Option.some.injEq] at e
        subst e
        obtain ⟨h1, h2⟩ := parsFrom_get q2
        refine ⟨by simp only [List.length_cons, h1], fun j s e => ?_⟩
        cases j with
        | zero =>
          simp only [List.getElem?_cons_zero, Option.some.injEq] at e
          subst e
          by_cases hi : i ∈ kp
          · rw [if_pos hi] at q; exact .inl ⟨hi, q⟩
          · rw [if_neg hi] at q
            refine .inr ⟨hi, ?_⟩
            cases t <;> simp only [T.frO, Option.some.injEq, reduceCtorEq] at q
            subst q
            exact ⟨_, rfl, rfl⟩
        | succ j =>
          have := h2 j s (by simpa using e)
          rw [show i + (j + 1) = i + 1 + j by omega]
          simpa using this
theorem pars_rts {N : List Str} {ts ts' : List T} {vs : List V} {F F' : FS} {σ' : L2.St} {ε' : Env} (r : RTs (c0 K ca) G H ts vs F) (hg : Sub G G') (S : Sat ⟨K, ca, prOf kp vs⟩ G' H' σ' ε' F') (e : parsFrom kp 0 ts ε' = some ts') :
    ∃ F'' : FS, RTs (c0 K ca) G' H' ts' vs F'' ∧ (∀ a, F'' a → F' a) := by
  obtain ⟨h1, h2⟩ := parsFrom_get e
  obtain ⟨Fs, d1, d2, d3⟩ := S.at_
  have hlen := r.len
  obtain ⟨_, _, _, d4⟩ := r.split
  refine ⟨_, RTs.join (Fs := Fs) (by omega) d1 (fun i t v e1 e2 => ?_), fun a ⟨i, _, q⟩ => d2 i a q⟩
  rcases h2 i t e1 with ⟨k1, k2⟩ | ⟨k1, d, rfl, k2⟩
  · simp only [Nat.zero_add] at k1 k2
    obtain ⟨u, e3, r3⟩ := d3 i t (Env.at_some k2)
    have := S.pr i v (by show prOf kp vs i = some v; unfold prOf; rw [if_pos k1]; exact e2)
    rw [this] at e3; cases e3
    exact RT.cv _ _ _ r3
  · obtain ⟨u, e3, r3⟩ := d4 i _ k2
    rw [e2] at e3; cases e3
    simp only [RT] at r3 ⊢
    exact RD.mono hg _ _ r3
end

/-! ### THE RULE for a def -/
section
variable {P : Program} {w : World} {K : PySem.W.Frag} {mg : Str → Option Value} {base : Heap} {ca : Str → Option Addr}
/-- the context of a def's body -/
abbrev bodyX (P : Program) (w : World) (K : PySem.W.Frag) (mg : Str → Option Value) (base : Heap) (N : List Str) (qual : Str) (st : Stmt) (f : Addr) (cdv : Value) (A : Around) (outer : List PySem.Env) (s : Shared) (H : Hp) (E : XK) : Cx := cxOf (L2.CX P w) P w K mg base N qual (defScope st) f cdv A outer s H E
/-- the body's derivation, in every context it runs in -/
def BodyD (P : Program) (w : World) (K : PySem.W.Frag) (mg : Str → Option Value) (base : Heap) (ca : Str → Option Addr) (k : Nat) (N : List Str) (qual : Str) (st : Stmt) (f : Addr) (kp : List Nat) (g : ST') (n : Nat) : Prop :=
  ∀ (cdv : Value) (A : Around) (outer : List PySem.Env) (s : Shared) (H : Hp) (vs : List V) (E : XK), Room k (bodyX P w K mg base N qual st f cdv A outer s H E).A → (bodyX P w K mg base N qual st f cdv A outer s H E).A.guards = some [] → vs.length = n →
    DSs (bodyX P w K mg base N qual st f cdv A outer s H E) ⟨K, ca, prOf kp vs⟩ (fun cl d _ H => E cl d H) (defBody st) g
theorem dfn_of {x qual : Str} {st : Stmt} {f : Addr} {fd : FuncData} {N ps : List Str} {k : Nat} {sp : SpD} {kp : List Nat} {g : ST'} (F : Fun K x qual st f fd) (S : FnScope N ps (defScope st)) (len : ∀ ts Q E, sp ts Q E → ts.length = ps.length)
    (body : BodyD P w K mg base ca k N qual st f kp g ps.length) (hsp : ∀ ts QD EXD, sp ts QD EXD → g (fnEnds kp ts QD) (fnX kp ts EXD) (startE N ts)) : DFn P w K mg base ca (k + 1) f fd ps sp := by
  obtain ⟨oc, od, kV, doc, pm, an, cdv, ct, osl, rfl, lk, hcd⟩ := F.ex
  refine ⟨len, fun A outer s H args us vs ts G F QD EXD QH EH hr hgd e0 hb rv hG hFg hFd rt hs qn qx => ?_⟩
  have hlt : vs.length = ps.length := by rw [← rt.len]; exact len _ _ _ hs
  have inS : K.In s.heap := e0.mod.kin.keeps (fun b o z => (e0.bs b o z).1)
  have noLim : s.heap.NoLimit := e0.mod.nolimit.keeps (fun b o z => (e0.bs b o z).1)
  refine codeAny_call_function hr.depth (inS _ _ lk) rfl S.co S.gen rfl (PySem.W.codeRec_of inS hcd) (hb _ _ _ _ ?_)
  refine wpAny_newFunctionEnv_cells S.kind (fun ⟨n, v⟩ hy => (S.par n (List.of_mem_zip hy).1).elim .inl fun q => .inr ⟨q, PySem.W.cellsFrom_some _ _ _ (.inl q)⟩) fun env he s1 ic => ?_
  subst he
  refine ⟨noLim.keeps ic.toInCall.keep, codeAny_func ?_⟩
  obtain ⟨tb, pb, kb⟩ := (body cdv A outer s H vs EH (hr.deeper _) hgd hlt).ex
  have I0 : Inv (bodyX P w K mg base N qual st f cdv A outer s H EH) [] (L2.start N vs) H s1 := inv_start S hr.hd e0 hlt rv ic
  have hpN : ps.length ≤ N.length := by have := congrArg List.length S.pre; rw [List.length_take] at this; omega
  have S0 : Sat ⟨K, ca, prOf kp vs⟩ G H (L2.start N vs) (startE N ts) F := start_sat (by omega) hG hFg hFd rt
  -- what holds where the body ends
  have done : ∀ r ε' σ' v G' H' F' Ft, (fnEnds kp ts QD).rt r ε' → Step true G H F G' H' F' → Sat ⟨K, ca, prOf kp vs⟩ G' H' σ' ε' F' → RT ⟨K, ca, prOf kp vs⟩ G' H' r v Ft → Tmp H F G' H' F' Ft → QH v H' := fun r ε' σ' v G' H' F' Ft ⟨ts', e1, q⟩ st S' r1 tm => by
    obtain ⟨F'', p1, p2⟩ := pars_rts (N := N) rt st.g S' e1
    exact qn r ts' v G' H' F'' Ft q ⟨st.g, st.h, st.n, fun a z => st.f a (p2 a z)⟩ S'.gh (fun a z => S'.gf a (p2 a z)) (fun a z => S'.fd a (p2 a z)) p1 (RT.cv _ _ _ r1) ⟨fun a z z2 => tm.dj a z (p2 a z2), tm.g, tm.fd, tm.n⟩
  have run := pb.run [] s1 (L2.start N vs) H { nx := fun _ H' => QH .non H', rt := QH } I0 (kb G H (L2.start N vs) (startE N ts) F (fnEnds kp ts QD) (fnX kp ts EXD) _ S0 (hsp ts QD EXD hs)
    ⟨fun ε' σ' G' H' F' q st S' => done (.fr .non) ε' σ' .non G' H' F' eNo q st S' (by simp only [RT, RD]) Tmp.no, fun ε' σ' G' H' F' q _ _ => q, fun ε' σ' G' H' F' q _ _ => q, done⟩
    (fun x ε' σ' G' H' F' cl d ⟨ts', e1, q⟩ st S' xr => by
      obtain ⟨F'', p1, p2⟩ := pars_rts (N := N) rt st.g S' e1
      exact qx x ts' G' H' F'' cl d q ⟨st.g, st.h, st.n, fun a z => st.f a (p2 a z)⟩ S'.gh (fun a z => S'.gf a (p2 a z)) (fun a z => S'.fd a (p2 a z)) p1 (XR.cv xr)))
  refine wpAny_mono run (fun fl s' z => ?_) fun _ _ z => z
  cases fl with
  | brk => obtain ⟨_, _, _, z⟩ := z; exact z.elim
  | cont => obtain ⟨_, _, _, z⟩ := z; exact z.elim
  | next => obtain ⟨_, H', J, z⟩ := z; exact ⟨.non, H', J.os, J.bare, J.base, J.hok, rfl, z⟩
  | ret u => obtain ⟨v, _, H', J, ru, z⟩ := z; exact ⟨v, H', J.os, J.bare, J.base, J.hok, ru, z⟩
end

/-! ### a call -/
section
variable {X : Cx} {c : CT} {W : WX'} {w wa wb : Bool} {e : Expr} {es : List Expr} {t : AT} {pos p : Pos} {k : Nat} {f : Addr} {fd : FuncData} {ps : List Str} {sp : SpD} {x : Str}
/-- what came back as a value -/
def T.rv : T → Rv
  | .fr d => .d d
  | t => .own t
theorem T.rv_RV {c : CT} {G H : Hp} {σ : L2.St} {t : T} {v : V} {Ft : FS} (h : RT c G H t v Ft) : RV c G H σ t.rv v Ft := by
  cases t with
  | fr d => simpa only [T.rv, RV, RT] using h
  | lst _ => exact h
  | dic _ _ => exact h
  | obj _ _ _ => exact h
def callQ (sp : SpD) (rs : List Rv) (ε : Env) (Q : EQ) (EX : EXN) : Prop := ∃ ts ε1, takeT rs ε = some (ts, ε1) ∧ sp ts (fun r ts' => ts'.length = ts.length ∧ Q r.rv (giveT rs ts' ε1)) (fun x ts' => ts'.length = ts.length ∧ EX x (giveT rs ts' ε1))
theorem call_run (hk : c.K = X.K) (Fn : DFn X.prog X.w X.K X.mg X.base c.ca k f fd ps sp) (hr : Room k X.A) (hgd : X.A.guards = some []) (tk : Takes X W) {pins : List (Addr × Obj)} {σ : L2.St} {G H G1 H1 : Hp} {s : Shared} {ε1 : Env} {F F1 Ft : FS} {args : Args} {us : List Value} {vs : List V} {rs : List Rv} {Q : EQ} {EX : EXN} {QH : VK}
    (I : Inv X pins σ H1 s) (hb : BindsTo s fd args (ps.zip us)) (rv : Vals vs us) (st : Step w G H F G1 H1 F1) (S : Sat c G1 H1 σ ε1 F1) (rr : RVs c G1 H1 σ rs vs Ft) (tm : Tmp H F G1 H1 F1 Ft) (q : callQ sp rs ε1 Q EX) (o : Out c true G H σ F Q QH) (xo : XOut c G H F σ EX W) :
    codeAny (model X.prog X.w) X.A (.call (.ref f) args) (fun r s' => match r with | .ok (.ret u) => EP X pins σ QH u s' | .ok _ => False | .error e => X.xe e s') s := by
  obtain ⟨ts, ε2, e1, q⟩ := q
  obtain ⟨Fl, Fo, S2, rt, f1, f2, f3⟩ := rr.takeT S tm.dj e1
  obtain ⟨K0, ca0, pr0⟩ := c
  obtain rfl : K0 = X.K := hk
  have hFlG : ∀ a, Fl a → G1 a = none := fun a z => (f1 a z).elim (tm.g a) (S.gf a)
  have hFlD : ∀ a, Fl a → ∃ o, H1 a = some o := fun a z => (f1 a z).elim (tm.fd a) (S.fd a)
  have stl : ∀ {G' H' : Hp} {F' : FS}, Step true G1 H1 Fl G' H' F' → ∀ {F'' : FS}, (∀ a, F'' a → Fo a ∨ F' a) → Step true G H F G' H' F'' := fun {G' H' F'} s1 {F''} hF => by
    refine ⟨st.g.trans s1.g, fun a o e k => ?_, fun a o e => ?_, fun a z => ?_⟩
    · refine s1.h a o (st.up.h a o e k) fun _ z => ?_
      rcases f1 a z with z | z
      · rcases tm.n a z with z | z
        · exact k rfl z
        · rw [e] at z; cases z
      · rcases st.f a z with z | z
        · exact k rfl z
        · rw [e] at z; cases z
    · rcases s1.n a o e with z | z | z
      · exact st.n a o z
      · rcases st.no z with z | z
        · exact .inr (.inl z)
        · exact .inr (.inr z)
      · rcases f1 a z with z | z
        · rcases tm.n a z with z | z
          · exact .inr (.inr z)
          · exact .inr (.inl z)
        · rcases st.f a z with z | z
          · exact .inr (.inr z)
          · exact .inr (.inl z)
    · rcases hF a z with z | z
      · exact st.f a (f2 a z)
      · rcases s1.f a z with z | z
        · rcases f1 a z with z | z
          · exact tm.n a z
          · exact st.f a z
        · rcases st.no z with z | z
          · exact .inr z
          · exact .inl z
  have apart : ∀ {G' H' : Hp} {F' : FS}, Step true G1 H1 Fl G' H' F' → ∀ a, F' a → Fo a → False := fun {G' H' F'} s1 a z z2 => by
    rcases s1.f a z with z | z
    · exact f3 a z z2
    · obtain ⟨o, e⟩ := S2.fd a z2
      rw [e] at z; cases z
  refine codeAny_mono (Fn.run X.A X.stack s H1 args us vs ts G1 Fl _ _ QH (fun cl d H' => W cl d σ H') hr hgd I.env0 hb rv S.gh hFlG hFlD (RTs.cv _ _ _ rt) q ?_ ?_) fun r s' hq => ?_
  · rintro r ts' v G' H' F' Ft' ⟨_, q⟩ s1 gh hg hd rt' r1 tm'
    have S3 := S2.over s1 f3 gh
    obtain ⟨F'', S4, f4⟩ := S3.giveT rr (RTs.cv _ _ _ rt') (apart s1) hg hd
    have tm2 : ∀ a, Ft' a → F'' a → False := fun a z z2 => by
      rcases f4 a z2 with z2 | z2
      · rcases tm'.n a z with z3 | z3
        · exact f3 a z3 z2
        · obtain ⟨o, e⟩ := S2.fd a z2
          rw [e] at z3; cases z3
      · exact tm'.dj a z z2
    refine o _ _ v G' H' F'' Ft' q (stl s1 f4) S4 (T.rv_RV (RT.cv _ _ _ r1)) ⟨tm2, tm'.g, tm'.fd, fun a z => ?_⟩
    rcases tm'.n a z with z | z
    · rcases f1 a z with z | z
      · exact tm.n a z
      · exact st.f a z
    · rcases st.no z with z | z
      · exact .inr z
      · exact .inl z
  · rintro y ts' G' H' F' cl d ⟨_, q⟩ s1 gh hg hd rt' xr
    have S3 := S2.over s1 f3 gh
    obtain ⟨F'', S4, f4⟩ := S3.giveT rr (RTs.cv _ _ _ rt') (apart s1) hg hd
    exact xo y _ G' H' F'' cl d q (stl s1 f4) S4 (XR.cv xr)
  · cases r with
    | error e => exact tk _ _ (XE.of_call I (fun _ _ _ z => z) hq)
    | ok fl =>
      cases fl with
      | ret u => exact I.after hq
      | next => exact hq.elim
      | brk => exact hq.elim
      | cont => exact hq.elim
def tCl (sp : SpD) (t : AT) : ET := fun ε Q EX => t ε (fun rs ε1 => callQ sp rs ε1 Q EX) EX
theorem de_call (hk : c.K = X.K) (Fn : DFn X.prog X.w X.K X.mg X.base c.ca k f fd ps sp) (hr : Room k X.A) (hgd : X.A.guards = some []) (tk : Takes X W) (hg : Gl X x) (hm : X.mg x = some (.ref f)) (kp : PySem.W.keepIn X.K (.ref f) = true) (hb : Binds X.K fd ps []) (ha : DA X c W wa (e :: es) t)
    (hdb : (x == ("__debug__" : Str)) = false := by decide) (he : starEach (e :: es) X.env = (false, eval e X.env) :: starEach es X.env := by rfl) (hpl : (backTo pos (starEach es X.env)).any (·.1) = false := by rfl) : DE X c W true (.Call (.Name x p) (e :: es) [] pos) (tCl sp t) := by
  obtain ⟨ta, pa, ka⟩ := ha.ex
  -- the arguments' reading, then the call
  refine ⟨fun σ H QH => ta σ H fun vs H1 => ∀ (pins : List (Addr × Obj)) (s : Shared) (us : List Value), Inv X pins σ H1 s → Vals vs us → vs.length = ps.length ∧ (∀ args, BindsTo s fd args (ps.zip us) → codeAny (model X.prog X.w) X.A (.call (.ref f) args) (fun r s' => match r with | .ok (.ret u) => EP X pins σ QH u s' | .ok _ => False | .error e => X.xe e s') s), ⟨fun pins s σ H QH I h => ?_⟩, fun G H σ ε F Q EX QH S h o xo => ?_⟩
  · refine wpAny_Call_Name_kw (ld_glob I hg hm ?_ hdb)
    refine PySem.W.callWith_K (h₀ := X.base) I.ok.mod.kin kp (thn (pa.run pos pins s σ H _ I h) fun us s1 ⟨vs, H1, I1, r, q⟩ => ⟨I1.kIn, ?_⟩) he hpl
    obtain ⟨hl, q⟩ := q pins s1 us I1 r
    have hl2 : us.length = ps.length := by rw [← r.length]; exact hl
    have hb' := hb s1 us I1.kIn (by rw [List.append_nil]; exact hl2)
    rw [List.append_nil] at hb'
    refine wpAny_call (codeAny_mono (q ⟨us, []⟩ hb') fun r s' z => ?_)
    cases r with
    | error e => exact z
    | ok fl => cases fl with
      | ret u => exact z
      | next => exact z.elim
      | brk => exact z.elim
      | cont => exact z.elim
  · refine ka G H σ ε F _ EX _ S h (fun rs ε1 vs G1 H1 F1 Ft q st S1 rr tm pins s us I rv => ⟨?_, fun args hbd => call_run hk Fn hr hgd tk I hbd rv st S1 rr tm q o xo⟩) xo
    obtain ⟨ts, ε2, e1, q⟩ := q
    obtain ⟨Fl, Fo, S2, rt, _, _, _⟩ := rr.takeT S1 tm.dj e1
    rw [← rt.len]
    exact Fn.len _ _ _ q
theorem de_call0 (hk : c.K = X.K) (Fn : DFn X.prog X.w X.K X.mg X.base c.ca k f fd ps sp) (hr : Room k X.A) (hgd : X.A.guards = some []) (tk : Takes X W) (hg : Gl X x) (hm : X.mg x = some (.ref f)) (kp : PySem.W.keepIn X.K (.ref f) = true) (hb : Binds X.K fd ps [])
    (hdb : (x == ("__debug__" : Str)) = false := by decide) : DE X c W true (.Call (.Name x p) [] [] pos) (tCl sp tA0) := by
  refine ⟨fun σ H QH => ∀ (pins : List (Addr × Obj)) (s : Shared), Inv X pins σ H s → ps.length = 0 ∧ (∀ args, BindsTo s fd args (ps.zip []) → codeAny (model X.prog X.w) X.A (.call (.ref f) args) (fun r s' => match r with | .ok (.ret u) => EP X pins σ QH u s' | .ok _ => False | .error e => X.xe e s') s), ⟨fun pins s σ H QH I h => ?_⟩, fun G H σ ε F Q EX QH S h o xo => ?_⟩
  · refine wpAny_Call_Name_kw (ld_glob I hg hm ?_ hdb)
    refine PySem.W.callWith_K0 I.kIn kp ?_
    obtain ⟨hl, q⟩ := h pins s I
    have hb' := hb s [] I.kIn (by rw [List.append_nil]; exact hl.symm)
    refine wpAny_call (codeAny_mono (q ⟨[], []⟩ hb') fun r s' z => ?_)
    cases r with
    | error e => exact z
    | ok fl => cases fl with
      | ret u => exact z
      | next => exact z.elim
      | brk => exact z.elim
      | cont => exact z.elim
  · intro pins s I
    refine ⟨?_, fun args hbd => call_run (w := false) (G1 := G) (rs := []) (Ft := eNo) hk Fn hr hgd tk I hbd .nil Step.refl S rfl Tmp.no h o xo⟩
    obtain ⟨ts, ε2, e1, q⟩ := h
    have := Fn.len _ _ _ q
    simp only [takeT, Option.some.injEq, Prod.mk.injEq] at e1
    rw [← e1.1] at this
    exact this.symm
/-! ### keywords alone -/
def pickL {α : Type} (ix : List Nat) (l : List α) : List α := ix.filterMap fun i => l[i]?
structure KBnd (K : PySem.W.Frag) (fd : FuncData) (ps ks : List Str) (ix : List Nat) : Prop where
  to : ∀ (s : Shared) (ws : List Value), K.In s.heap → ws.length = ks.length → BindsTo s fd ⟨[], ks.zip ws⟩ (ps.zip (pickL ix ws))
  nd : ix.Nodup
  lt : ∀ i ∈ ix, i < ks.length
structure DK (X : Cx) (c : CT) (W : WX') (w : Bool) (kws : List Keyword) (t : AT) : Prop where
  ex : ∃ ta, PK X kws ta ∧ ∀ (G H : Hp) (σ : L2.St) (ε : Env) (F : FS) (Q : List Rv → Env → Prop) (EX : EXN) (QH : List V → Hp → Prop), Sat c G H σ ε F → t ε Q EX →
    (∀ rs ε' vs G' H' F' Ft, Q rs ε' → rs.length = kws.length → Step w G H F G' H' F' → Sat c G' H' σ ε' F' → RVs c G' H' σ rs vs Ft → Tmp H F G' H' F' Ft → QH vs H') → XOut c G H F σ EX W → ta σ H QH
theorem dk_nil : DK X c W false [] tA0 := ⟨_, pk_nil, fun G H σ ε F Q EX QH S h o _ => o [] ε [] G H F eNo h rfl Step.refl S rfl Tmp.no⟩
theorem dk_cons {kws : List Keyword} {nm : Option Str} {kpos : Pos} {ta : ET} {tr : AT} (ha : DE X c W wa e ta) (hr : DK X c W wb kws tr) : DK X c W (wa || wb) (⟨nm, e, kpos⟩ :: kws) (tA1 wb ta tr) := by
  obtain ⟨tea, p, k⟩ := one ha
  obtain ⟨ter, p2, k2⟩ := hr.ex
  refine ⟨_, pk_cons p p2, fun G H σ ε F Q EX QH S h o xo => ?_⟩
  refine k G H σ ε F _ EX _ S h xo fun r1 ε1 x G1 H1 F1 Fa ⟨pd, h1⟩ s1 S1 v1 t1 xo1 => ?_
  refine k2 G1 H1 σ ε1 F1 _ EX _ S1 h1 (fun rs ε2 vs G2 H2 F2 Ft h2 hl2 s2 S2 v2 t2 => ?_) xo1
  have u2 := t2.pre s1
  have u1 := t1.keep s2
  refine o (r1 :: rs) ε2 (x :: vs) G2 H2 F2 (fun z => Fa z ∨ Ft z) h2 (by rw [List.length_cons, List.length_cons, hl2]) (s1.trans s2) S2 ⟨x, vs, Fa, Ft, rfl, fun _ z => .inl z, fun _ z => .inr z, fun z z1 z2 => ?_, v1.keep s2 pd t1.dj, v2⟩ (u1.or u2)
  rcases t2.n z z2 with z3 | z3
  · exact t1.dj z z1 z3
  · obtain ⟨o, e⟩ := t1.fd z z1
    rw [e] at z3; cases z3
theorem RVs.len {G H : Hp} {σ : L2.St} : ∀ {rs : List Rv} {vs : List V} {F : FS}, RVs c G H σ rs vs F → rs.length = vs.length
  | [], vs, F, h => by rw [show vs = [] from h]; rfl
  | r :: rs, vs, F, ⟨v, us, F1, F2, e, _, _, _, _, h5⟩ => by rw [e, List.length_cons, List.length_cons, RVs.len h5]
theorem RVs.split {G H : Hp} {σ : L2.St} : ∀ {rs : List Rv} {vs : List V} {F : FS}, RVs c G H σ rs vs F → ∃ Fs : Nat → FS, (∀ i j a, i ≠ j → Fs i a → Fs j a → False) ∧ (∀ i a, Fs i a → F a) ∧ ∀ i r v, rs[i]? = some r → vs[i]? = some v → RV c G H σ r v (Fs i)
  | [], vs, F, h => ⟨fun _ => eNo, fun _ _ _ _ z => z.elim, fun _ _ z => z.elim, fun i t v e => by simp at e⟩
  | t :: ts, vs, F, ⟨v, r, F1, F2, e, h1, h2, h3, h4, h5⟩ => by
    subst e
    obtain ⟨Fs, d1, d2, d3⟩ := RVs.split h5
    refine ⟨fun | 0 => F1 | i + 1 => Fs i, fun i j a hij q z => ?_, fun i a q => ?_, fun i s u e e2 => ?_⟩
    · cases i with
      | zero => cases j with
        | zero => exact hij rfl
        | succ j => exact h3 a q (d2 j a z)
      | succ i => cases j with
        | zero => exact h3 a z (d2 i a q)
        | succ j => exact d1 i j a (fun e => hij (by rw [e])) q z
    · cases i with
      | zero => exact h1 a q
      | succ i => exact h2 a (d2 i a q)
    · cases i with
      | zero => simp only [List.getElem?_cons_zero, Option.some.injEq] at e e2; subst e e2; exact h4
      | succ i => exact d3 i s u (by simpa using e) (by simpa using e2)
theorem RVs.pick {G H : Hp} {σ : L2.St} {rs : List Rv} {vs : List V} {F : FS} (h : RVs c G H σ rs vs F) : ∀ {ix : List Nat}, ix.Nodup → (∀ i ∈ ix, i < rs.length) → RVs c G H σ (pickL ix rs) (pickL ix vs) F := by
  obtain ⟨Fs, d1, d2, d3⟩ := h.split
  have hl := h.len
  have main : ∀ {ix : List Nat}, ix.Nodup → (∀ i ∈ ix, i < rs.length) → RVs c G H σ (pickL ix rs) (pickL ix vs) (fun a => ∃ i, i ∈ ix ∧ Fs i a) := by
    intro ix
    induction ix with
    | nil => intro _ _; exact rfl
    | cons i ix ih =>
      intro nd lt
      have hi : i < rs.length := lt i (by simp)
      have hv : i < vs.length := by omega
      have e1 : pickL (i :: ix) rs = rs[i] :: pickL ix rs := by
        unfold pickL; rw [List.filterMap_cons, List.getElem?_eq_getElem hi]
      have e2 : pickL (i :: ix) vs = vs[i] :: pickL ix vs := by
        unfold pickL; rw [List.filterMap_cons, List.getElem?_eq_getElem hv]
      rw [e1, e2]
      refine ⟨vs[i], pickL ix vs, Fs i, fun a => ∃ j, j ∈ ix ∧ Fs j a, rfl, fun a q => ⟨i, by simp, q⟩, fun a ⟨j, hj, q⟩ => ⟨j, by simp [hj], q⟩, fun a q ⟨j, hj, z⟩ => d1 i j a (fun e => (List.nodup_cons.mp nd).1 (e ▸ hj)) q z, d3 i _ _ (List.getElem?_eq_getElem hi) (List.getElem?_eq_getElem hv), ih (List.nodup_cons.mp nd).2 fun j hj => lt j (by simp [hj])⟩
  intro ix nd lt
  have := main nd lt
  have weak : ∀ {rs : List Rv} {vs : List V} {F F' : FS}, (∀ a, F a → F' a) → RVs c G H σ rs vs F → RVs c G H σ rs vs F' := by
    intro rs
    cases rs with
    | nil => intro vs F F' _ h; exact h
    | cons r rs => intro vs F F' hF ⟨v, us, F1, F2, e, h1, h2, h3, h4, h5⟩; exact ⟨v, us, F1, F2, e, fun b q => hF b (h1 b q), fun b q => hF b (h2 b q), h3, h4, h5⟩
  exact weak (fun a ⟨i, _, q⟩ => d2 i a q) this
theorem Vals.pick {vs : List V} {us : List Value} (h : Vals vs us) : ∀ {ix : List Nat}, (∀ i ∈ ix, i < vs.length) → Vals (pickL ix vs) (pickL ix us) := by
  intro ix
  induction ix with
  | nil => intro _; exact .nil
  | cons i ix ih =>
    intro lt
    have hi : i < vs.length := lt i (by simp)
    have hu : i < us.length := by rw [← h.length]; exact hi
    obtain ⟨u, e, r⟩ := h.get (List.getElem?_eq_getElem hi)
    rw [List.getElem?_eq_getElem hu] at e; cases e
    have e1 : pickL (i :: ix) vs = vs[i] :: pickL ix vs := by
      unfold pickL; rw [List.filterMap_cons, List.getElem?_eq_getElem hi]
    have e2 : pickL (i :: ix) us = us[i] :: pickL ix us := by
      unfold pickL; rw [List.filterMap_cons, List.getElem?_eq_getElem hu]
    rw [e1, e2]
    exact .cons r (ih fun j hj => lt j (by simp [hj]))
def tClK (sp : SpD) (ix : List Nat) (t : AT) : ET := fun ε Q EX => t ε (fun rs ε1 => callQ sp (pickL ix rs) ε1 Q EX) EX
theorem de_callK {kws : List Keyword} {ks : List Str} {ix : List Nat} (hk : c.K = X.K) (Fn : DFn X.prog X.w X.K X.mg X.base c.ca k f fd ps sp) (hr : Room k X.A) (hgd : X.A.guards = some []) (tk : Takes X W) (hg : Gl X x) (hm : X.mg x = some (.ref f)) (kp : PySem.W.keepIn X.K (.ref f) = true) (hb : KBnd X.K fd ps ks ix) (ha : DK X c W wa kws t)
    (hall : (backToKw pos (keywordEach kws X.env)).all (·.1.isSome) = true := by rfl) (hks : (backToKw pos (keywordEach kws X.env)).filterMap (·.1) = ks := by rfl) (hlk : kws.length = ks.length := by rfl)
    (hdb : (x == ("__debug__" : Str)) = false := by decide) (hpl : ((backTo pos (starEach [] X.env)).any (·.1) || (backToKw pos (keywordEach kws X.env)).any (·.1.isNone)) = false := by rfl) : DE X c W true (.Call (.Name x p) [] kws pos) (tClK sp ix t) := by
  obtain ⟨ta, pa, ka⟩ := ha.ex
  refine ⟨fun σ H QH => ta σ H fun vs H1 => ∀ (pins : List (Addr × Obj)) (s : Shared) (us : List Value), Inv X pins σ H1 s → Vals vs us → us.length = ks.length ∧ (∀ args, BindsTo s fd args (ps.zip (pickL ix us)) → codeAny (model X.prog X.w) X.A (.call (.ref f) args) (fun r s' => match r with | .ok (.ret u) => EP X pins σ QH u s' | .ok _ => False | .error e => X.xe e s') s), ⟨fun pins s σ H QH I h => ?_⟩, fun G H σ ε F Q EX QH S h o xo => ?_⟩
  · refine wpAny_Call_Name_kw (ld_glob I hg hm ?_ hdb)
    refine PySem.W.callWith_KW0 (h₀ := X.base) I.ok.mod.kin kp hall (thn (pa.run pos pins s σ H _ I h) fun us s1 ⟨vs, H1, I1, r, q⟩ => ⟨I1.kIn, ?_⟩) hpl
    obtain ⟨hl, q⟩ := q pins s1 us I1 r
    rw [hks]
    refine wpAny_call (codeAny_mono (q ⟨[], ks.zip us⟩ (hb.to s1 us I1.kIn hl)) fun r s' z => ?_)
    cases r with
    | error e => exact z
    | ok fl => cases fl with
      | ret u => exact z
      | next => exact z.elim
      | brk => exact z.elim
      | cont => exact z.elim
  · refine ka G H σ ε F _ EX _ S h (fun rs ε1 vs G1 H1 F1 Ft q hl st S1 rr tm pins s us I rv => ?_) xo
    have l1 := rr.len
    have l2 := rv.length
    have hlt : ∀ i ∈ ix, i < rs.length := fun i hi => by have := hb.lt i hi; omega
    have hlv : ∀ i ∈ ix, i < vs.length := fun i hi => by have := hlt i hi; omega
    exact ⟨by omega, fun args hbd => call_run hk Fn hr hgd tk I hbd (Vals.pick rv hlv) st S1 (rr.pick hb.nd hlt) tm q o xo⟩
end
end DL

namespace DL
open PySem PySem.Spec L2

section
variable {c : CT} {G H G' H' G0 H0 : Hp} {σ : L2.St} {ε ε' : Env} {F F' F0 Fo Ft : FS} {v : V} {w w' : Bool}
/-- a list that a slot owns, and what may be written in it -/
theorem RV.lstW (S : Sat c G H σ ε F) {i : Nat} {p : List Nat} {t : T} {ts : List T} (h : RV c G H σ (.at i p) v Ft) (e1 : ε.at i = some t) (e2 : t.get p = some (.lst ts)) :
    ∃ (a : Addr) (vs : List V) (Fc : FS), v = .ref a ∧ H a = some (.lst vs) ∧ RTs c G H ts vs Fc ∧ ¬ Fc a ∧ F a ∧ (∀ b, Fc b → F b) ∧ ∀ (vs' : List V) (ts' : List T) (Fc' : FS), RTs c G (upd H a (.lst vs')) ts' vs' Fc' → ¬ Fc' a → (∀ b, Fc' b → F b → Fc b) → (∀ b, Fc' b → G b = none) → (∀ b, Fc' b → ∃ o, H b = some o) →
      ∃ F', Sat c G (upd H a (.lst vs')) σ (ε.set i (some (t.set p (.lst ts')))) F' ∧ (∀ b, F' b → F b ∨ Fc' b) ∧ (∀ b, Fc b → F' b → Fc' b) := by
  obtain ⟨v0, h1, h2⟩ := h
  obtain ⟨Fu, r, fu, put⟩ := S.put (u' := .lst ts) e1 e2 h1 h2
  simp only [RT] at r
  obtain ⟨a, vs, Fc, rfl, k1, k2, k3, k4, k5⟩ := r
  refine ⟨a, vs, Fc, rfl, k1, k5, k3, fu a k2, fun b z => fu b (k4 b z), fun vs' ts' Fc' r' n' dj hg hd => ?_⟩
  have hGa : G a = none := S.gf a (fu a k2)
  refine ⟨_, put G (upd H a (.lst vs')) (.lst ts') (fun b => b = a ∨ Fc' b) (Sub.refl _) (S.gh.keep hGa) (fun b o e z => by rw [upd_ne fun q => z (by rw [q]; exact k2)]; exact e) (fun b z1 z2 => S.gf b z1) ?_ ?_ ?_ ?_, fun b z => ?_, fun b z z2 => ?_⟩
  · simp only [RT]
    exact ⟨a, vs', Fc', rfl, upd_same, .inl rfl, n', fun b z => .inr z, r'⟩
  · rintro b (rfl | z) z2
    · exact k2
    · exact k4 b (dj b z z2)
  · rintro b (rfl | z)
    · exact hGa
    · exact hg b z
  · rintro b (rfl | z)
    · exact ⟨_, upd_same⟩
    · obtain ⟨o, e⟩ := hd b z
      exact ⟨o, by rw [upd_ne fun q => n' (by rw [← q]; exact z)]; exact e⟩
  · rcases z with ⟨z, _⟩ | z
    · exact .inl z
    · rcases z with rfl | z
      · exact .inl (fu b k2)
      · exact .inr z
  · rcases z2 with ⟨_, z2⟩ | z2
    · exact (z2 (k4 b z)).elim
    · rcases z2 with rfl | z2
      · exact (k3 z).elim
      · exact z2
/-- own, or frozen -/
theorem own1 (s : Step w G0 H0 F0 G H F) (S : Sat c G H σ ε F) {r : Rv} {t : T} (h : RV c G H σ r v Ft) (tm : Tmp H0 F0 G H F Ft) (e : owns [r] ε = some ([t], ε')) :
    ∃ G' F', Step w G0 H0 F0 G' H F' ∧ Sub G G' ∧ (∀ a, F' a → F a) ∧ Sat c G' H σ ε' F' ∧ RT c G' H t v Ft ∧ Tmp H0 F0 G' H F' Ft ∧ (∀ a o, G' a = some o → G a = some o ∨ F a) := by
  obtain ⟨G', F', g1, g2, g3, S', rt⟩ := RVs.toT (rs := [r]) (vs := [v]) S ⟨v, [], Ft, eNo, rfl, fun _ q => q, fun _ z => False.elim z, fun _ _ z => z, h, rfl⟩ tm.dj tm.g e
  have rt' : RT c G' H t v Ft := by
    simp only [RTs] at rt
    obtain ⟨v', r', F1, F2, e1, h1, h2, h3, h4, h5⟩ := rt
    cases e1
    exact RT.stay (Sub.refl _) t v F1 Ft h1 (fun _ _ _ q => q) h4
  refine ⟨G', F', ⟨s.g.trans g1, s.h, fun a o z => ?_, fun a z => s.f a (g3 a z)⟩, g1, g3, S', rt', ⟨fun a z z2 => tm.dj a z (g3 a z2), fun a z => ?_, tm.fd, tm.n⟩, g2⟩
  · rcases g2 a o z with z | z
    · exact s.n a o z
    · rcases s.f a z with z | z
      · exact .inr (.inr z)
      · exact .inr (.inl z)
  · cases q : G' a with
    | none => rfl
    | some o =>
      rcases g2 a o q with k | k
      · rw [tm.g a z] at k; cases k
      · exact (tm.dj a z k).elim
theorem Tmp.beside {Fy : FS} (t : Tmp H0 F0 G H F Ft) (dj : ∀ z, Ft z → Fy z → False) : Tmp H0 F0 (DL.frz G H Fy) H F Ft :=
  ⟨t.dj, fun a z => by rw [frz_out fun q => dj a z q]; exact t.g a z, t.fd, t.n⟩
end

section
variable {X : Cx} {c : CT} {W : WX'} {w wa wb wc wo we : Bool} {a b d e o : Expr} {es : List Expr} {ta tb tc te to : ET} {t : AT} {pos apos : Pos}
/-! ### xs.append(e), .extend(e), .pop(), .pop(i) -/
/-- a list at a path, or a temporary one -/
def lstAt (r : Rv) (ε : Env) : Option (List T) := match r.tr ε with
  | some (.lst ts) => some ts
  | _ => none
/-- the list there becomes ts -/
def putAt (r : Rv) (ε : Env) (ts : List T) : Env := match r with
  | .at i p => match ε.at i with
    | some t => ε.set i (some (t.set p (.lst ts)))
    | none => ε
  | _ => ε
/-- the method's writing of the list: from a receiver, its list and what stands beside (temporaries Ft2), to a new content -/
theorem wr_core {G H G1 H1 : Hp} {σ : L2.St} {ε1 : Env} {F F1 Fr Ft2 : FS} {x : V} {r : Rv} {ts : List T} (s : Step w G H F G1 H1 F1) (S : Sat c G1 H1 σ ε1 F1) (rv : RV c G1 H1 σ r x Fr) (tm : Tmp H F G1 H1 F1 Fr) (tm2 : Tmp H F G1 H1 F1 Ft2) (dj2 : ∀ z, Fr z → Ft2 z → False) (e : lstAt r ε1 = some ts) :
    ∃ (a : Addr) (vs : List V) (Fc : FS), x = .ref a ∧ H1 a = some (.lst vs) ∧ RTs c G1 H1 ts vs Fc ∧ ¬ Fc a ∧ ¬ Ft2 a ∧ (∀ b, Fc b → Ft2 b → False) ∧ ∀ (vs' : List V) (ts' : List T) (Fc' : FS), RTs c G1 (upd H1 a (.lst vs')) ts' vs' Fc' → (∀ b, Fc' b → Fc b ∨ Ft2 b) →
      ∃ F2, Sat c G1 (upd H1 a (.lst vs')) σ (putAt r ε1 ts') F2 ∧ Step true G H F G1 (upd H1 a (.lst vs')) F2 := by
  unfold lstAt at e
  split at e
  · rename_i u e0
    simp only [Option.some.injEq] at e
    subst e
    cases r with
    | d d => simp only [Rv.tr, Option.some.injEq, reduceCtorEq] at e0
    | own t =>
      simp only [Rv.tr, Option.some.injEq] at e0
      subst e0
      simp only [RV, RT] at rv
      obtain ⟨a, vs, Fc, rfl, k1, k2, k3, k4, k5⟩ := rv
      refine ⟨a, vs, Fc, rfl, k1, k5, k3, fun z => dj2 a k2 z, fun b z z2 => dj2 b (k4 b z) z2, fun vs' ts' Fc' r' hF => ⟨F1, S.aside (fun z => tm.dj a k2 z) (tm.g a k2), ⟨s.g, fun b o e k => ?_, s.n, s.f⟩⟩⟩
      by_cases hb : b = a
      · subst hb
        rcases tm.n b k2 with z | z
        · exact (k rfl z).elim
        · rw [e] at z; cases z
      · rw [upd_ne hb]; exact s.up.h b o e k
    | «at» i p =>
      simp only [Rv.tr] at e0
      cases q : ε1.at i with
      | none => rw [q] at e0; cases e0
      | some t =>
        rw [q] at e0
        obtain ⟨a, vs, Fc, rfl, k1, k2, k3, k4, k5, put⟩ := RV.lstW S rv q e0
        refine ⟨a, vs, Fc, rfl, k1, k2, k3, fun z => tm2.dj a z k4, fun b z z2 => tm2.dj b z2 (k5 b z), fun vs' ts' Fc' r' hF => ?_⟩
        obtain ⟨F2, g1, g2, _⟩ := put vs' ts' Fc' r' (fun z => (hF a z).elim k3 fun z => tm2.dj a z k4) (fun b z z2 => (hF b z).elim id fun z => (tm2.dj b z z2).elim) (fun b z => (hF b z).elim (fun z => S.gf b (k5 b z)) (tm2.g b)) (fun b z => (hF b z).elim (fun z => S.fd b (k5 b z)) (tm2.fd b))
        refine ⟨F2, by simpa only [putAt, q] using g1, ⟨s.g, fun b o e k => ?_, s.n, fun b z => ?_⟩⟩
        · by_cases hb : b = a
          · subst hb
            rcases s.f b k4 with z | z
            · exact (k rfl z).elim
            · rw [e] at z; cases z
          · rw [upd_ne hb]; exact s.up.h b o e k
        · rcases g2 b z with z | z
          · exact s.f b z
          · rcases hF b z with z | z
            · exact s.f b (k5 b z)
            · exact tm2.n b z
  · cases e
theorem lst_ty {K : PySem.W.Frag} {G H : Hp} {σ : L2.St} {ε : Env} {F Ft : FS} {x : V} {r : Rv} {ts : List T} (S : Sat c G H σ ε F) (rv : RV c G H σ r x Ft) (e : lstAt r ε = some ts) : tyV K "list" x H := by
  unfold lstAt at e
  split at e
  · rename_i u e0
    obtain ⟨Fu, z⟩ := rv.rt S e0
    simp only [RT] at z
    obtain ⟨a, vs, Fc, rfl, k1, _⟩ := z
    exact .inl ⟨rfl, _, SqL.of k1⟩
  · cases e
def tApp (wb : Bool) (to te : ET) : ET := fun ε Q EX => to ε (fun r ε1 => r.pend wb ∧ (lstAt r ε1).isSome = true ∧ te ε1 (fun rv ε2 => ∃ t ε3 ts, owns [rv] ε2 = some ([t], ε3) ∧ lstAt r ε3 = some ts ∧ ts.length < sizeLine ∧ Q (.d .non) (putAt r ε3 (ts ++ [t]))) EX) EX
theorem de_append (ho : DE X c W wo o to) (he : DE X c W we e te) (he1 : starEach [e] X.env = (false, eval e X.env) :: starEach [] X.env := by rfl)
    (hpe : ∀ {tO : TE} {tA : TA}, PE X o tO → PA X [e] tA → PE X (.Call (.Attribute o "append" apos) [e] [] pos) (tBM X.K "list" rAppend tO tA)) : DE X c W true (.Call (.Attribute o "append" apos) [e] [] pos) (tApp we to te) := by
  obtain ⟨tO, po, ko⟩ := one ho
  obtain ⟨tE, pe, ke⟩ := one he
  refine ⟨_, hpe po (pa_cons pe pa_nil he1), fun G H σ ε F Q EX QH S h oo xo => ?_⟩
  refine ko G H σ ε F _ EX _ S h xo fun r ε1 x G1 H1 F1 Fr ⟨pd, il, h1⟩ s1 S1 v1 t1 xo1 => ?_
  obtain ⟨ts0, e0⟩ := Option.isSome_iff_exists.mp il
  refine ⟨lst_ty S1 v1 e0, ?_⟩
  refine ke G1 H1 σ ε1 F1 _ EX _ S1 h1 xo1 fun rv ε2 y G2 H2 F2 Fy ⟨t, ε3, ts, e1, e2, hl, q⟩ s2 S2 v2 t2 _ => ?_
  have s12 := s1.trans s2
  have t2' := t2.pre s1
  obtain ⟨G3, F3, s3, g3, f3, S3, rt, tmy, n3⟩ := own1 s12 S2 v2 t2' e1
  have st23 : Step false G2 H2 F2 G3 H2 F3 := ⟨g3, fun _ _ z _ => z, fun b o z => (n3 b o z).elim .inl fun z => .inr (.inr z), fun b z => .inl (f3 b z)⟩
  have v3 := (v1.keep s2 pd t1.dj).keep (w := false) st23 (by cases r with | «at» i p => cases p <;> trivial | _ => trivial) (t1.keep s2).dj
  have t3 := (t1.keep s2).keep st23
  have djy : ∀ z, Fr z → Fy z → False := fun z z1 z2 => by
    rcases t2.n z z2 with k | k
    · exact t1.dj z z1 k
    · obtain ⟨o, e⟩ := t1.fd z z1
      rw [e] at k; cases k
  obtain ⟨a, vs, Fc, rfl, k1, k2, k3, k4, k5, k6⟩ := wr_core s3 S3 v3 t3 tmy djy e2
  refine ⟨a, vs, y, rfl, rfl, k1, by rw [← k2.len]; exact hl, ?_⟩
  obtain ⟨F4, S4, s4⟩ := k6 (vs ++ [y]) (ts ++ [t]) (fun b => Fc b ∨ Fy b) (RTs.app (RTs.stay (Sub.refl _) _ _ Fc Fc (fun _ z => z) (fun b o z e => by rw [upd_ne fun q => k3 (by rw [← q]; exact z)]; exact e) k2) (by
    simp only [RTs]
    exact ⟨y, [], Fy, eNo, rfl, fun _ z => z, fun _ z => False.elim z, fun _ _ z => z, RT.stay (Sub.refl _) t y Fy Fy (fun _ z => z) (fun b o z e => by rw [upd_ne fun q => k4 (by rw [← q]; exact z)]; exact e) rt, rfl⟩) k5) (fun b z => z)
  exact oo _ _ _ G3 _ F4 eNo q s4 S4 (by simp only [RV, RD]) Tmp.no
/-- xs.extend(list) -/
def tExt (wb : Bool) (to te : ET) : ET := fun ε Q EX => to ε (fun r ε1 => r.pend wb ∧ (lstAt r ε1).isSome = true ∧ te ε1 (fun rv ε2 => ∃ ds ts, rv.sq ε2 = .l ds ∧ lstAt r ε2 = some ts ∧ ts.length + ds.length ≤ sizeLine ∧ Q (.d .non) (putAt r ε2 (ts ++ ds.map .fr))) EX) EX
theorem de_extend (ho : DE X c W wo o to) (he : DE X c W we e te) (he1 : starEach [e] X.env = (false, eval e X.env) :: starEach [] X.env := by rfl)
    (hpe : ∀ {tO : TE} {tA : TA}, PE X o tO → PA X [e] tA → PE X (.Call (.Attribute o "extend" apos) [e] [] pos) (tBM X.K "list" rExtend tO tA)) : DE X c W true (.Call (.Attribute o "extend" apos) [e] [] pos) (tExt we to te) := by
  obtain ⟨tO, po, ko⟩ := one ho
  obtain ⟨tE, pe, ke⟩ := one he
  refine ⟨_, hpe po (pa_cons pe pa_nil he1), fun G H σ ε F Q EX QH S h oo xo => ?_⟩
  refine ko G H σ ε F _ EX _ S h xo fun r ε1 x G1 H1 F1 Fr ⟨pd, il, h1⟩ s1 S1 v1 t1 xo1 => ?_
  obtain ⟨ts0, e0⟩ := Option.isSome_iff_exists.mp il
  refine ⟨lst_ty S1 v1 e0, ?_⟩
  refine ke G1 H1 σ ε1 F1 _ EX _ S1 h1 xo1 fun rv ε2 y G2 H2 F2 Fy ⟨ds, ts, e1, e2, hl, q⟩ s2 S2 v2 t2 _ => ?_
  have s12 := s1.trans s2
  have t2' := t2.pre s1
  have qs := v2.sq S2
  rw [e1] at qs
  obtain ⟨b1, us, rfl, m1, m2⟩ := qs
  have djy : ∀ z, Fr z → Fy z → False := fun z z1 z2 => by
    rcases t2.n z z2 with k | k
    · exact t1.dj z z1 k
    · obtain ⟨o, e⟩ := t1.fd z z1
      rw [e] at k; cases k
  have s3 := t2'.step s12
  have S3 := S2.frzT t2'.dj
  have v3 := (v1.keep s2 pd t1.dj).sub r (sub_frz (F := Fy) S2.gh)
  have t3 := (t1.keep s2).beside djy
  obtain ⟨a, vs, Fc, rfl, k1, k2, k3, k4, k5, k6⟩ := wr_core s3 S3 v3 t3 (Tmp.no (F' := F2)) (fun _ _ z => z) e2
  refine ⟨a, b1, vs, us, rfl, rfl, k1, m1, by rw [← k2.len, ← m2.len]; exact hl, ?_⟩
  obtain ⟨F4, S4, s4⟩ := k6 (vs ++ us) (ts ++ ds.map .fr) (fun b => Fc b ∨ eNo b) (RTs.app (RTs.stay (Sub.refl _) _ _ Fc Fc (fun _ z => z) (fun b o z e => by rw [upd_ne fun q => k3 (by rw [← q]; exact z)]; exact e) k2) (RDs.fr m2) fun _ _ z => z) (fun b z => z)
  exact oo _ _ _ _ _ F4 eNo q s4 S4 (by simp only [RV, RD]) Tmp.no
/-- xs.pop() -/
def popQ (r : Rv) (ε : Env) (ts : List T) (k : Nat) (Q : EQ) : Prop := ∃ t, ts[k]? = some t ∧ match t with
  | .fr d => Q (.d d) (putAt r ε (ts.eraseIdx k))
  | t => Q (.own t) (putAt r ε (ts.eraseIdx k))
theorem RTs.erase {G H : Hp} : ∀ {ts : List T} {vs : List V} {F : FS} (k : Nat) {t : T}, RTs c G H ts vs F → ts[k]? = some t → ∃ x Fk F', vs[k]? = some x ∧ RT c G H t x Fk ∧ (∀ a, Fk a → F a) ∧ (∀ a, F' a → F a) ∧ (∀ a, Fk a → F' a → False) ∧ RTs c G H (ts.eraseIdx k) (vs.eraseIdx k) F'
  | [], vs, F, k, t, h, e => by simp at e
  | u :: ts, vs, F, 0, t, h, e => by
    simp only [RTs] at h
    obtain ⟨v, r, F1, F2, rfl, h1, h2, h3, h4, h5⟩ := h
    simp only [List.getElem?_cons_zero, Option.some.injEq] at e
    subst e
    exact ⟨v, F1, F2, rfl, h4, h1, h2, h3, h5⟩
  | u :: ts, vs, F, k + 1, t, h, e => by
    simp only [RTs] at h
    obtain ⟨v, r, F1, F2, rfl, h1, h2, h3, h4, h5⟩ := h
    obtain ⟨x, Fk, F', e1, g1, g2, g3, g4, g5⟩ := RTs.erase k h5 (by simpa using e)
    refine ⟨x, Fk, fun a => F1 a ∨ F' a, by simpa using e1, g1, fun a z => h2 a (g2 a z), fun a z => z.elim (h1 a) fun z => h2 a (g3 a z), fun a z z2 => z2.elim (fun z2 => h3 a z2 (g2 a z)) (g4 a z), ?_⟩
    rw [List.eraseIdx_cons_succ, List.eraseIdx_cons_succ]
    simp only [RTs]
    exact ⟨v, _, F1, F', rfl, fun _ z => .inl z, fun _ z => .inr z, fun a z z2 => h3 a z (g3 a z2), h4, g5⟩
theorem pop_core {G H G1 H1 : Hp} {σ : L2.St} {ε1 : Env} {F F1 Fr : FS} {x : V} {r : Rv} {ts : List T} {k : Nat} {Q : EQ} {QH : VK} (s : Step w G H F G1 H1 F1) (S : Sat c G1 H1 σ ε1 F1) (rv : RV c G1 H1 σ r x Fr) (tm : Tmp H F G1 H1 F1 Fr) (e : lstAt r ε1 = some ts) (hr : ∃ i p, r = .at i p) (q : popQ r ε1 ts k Q) (oo : Out c true G H σ F Q QH) :
    ∃ (a : Addr) (vs : List V) (y : V), x = .ref a ∧ H1 a = some (.lst vs) ∧ vs.length = ts.length ∧ vs[k]? = some y ∧ QH y (upd H1 a (.lst (vs.eraseIdx k))) := by
  obtain ⟨i, p, rfl⟩ := hr
  obtain ⟨t, e3, q⟩ := q
  unfold lstAt at e
  split at e
  · rename_i u e0
    simp only [Option.some.injEq] at e
    subst e
    simp only [Rv.tr] at e0
    cases q0 : ε1.at i with
    | none => rw [q0] at e0; cases e0
    | some t0 =>
      rw [q0] at e0
      obtain ⟨a, vs, Fc, rfl, k1, k2, k3, k4, k5, put⟩ := RV.lstW S rv q0 e0
      obtain ⟨y, Fk, F', e4, g1, g2, g3, g4, g5⟩ := k2.erase k e3
      refine ⟨a, vs, y, rfl, k1, k2.len.symm, e4, ?_⟩
      have ne : ∀ b, Fc b → b ≠ a := fun b z q => k3 (by rw [← q]; exact z)
      have stayU : ∀ {t : T} {v : V} {Fz : FS}, (∀ b, Fz b → Fc b) → RT c G1 H1 t v Fz → RT c G1 (upd H1 a (.lst (vs.eraseIdx k))) t v Fz := fun {t v Fz} hz h => RT.stay (Sub.refl _) t v Fz Fz (fun _ z => z) (fun b o z e => by rw [upd_ne (ne b (hz b z))]; exact e) h
      obtain ⟨F2, S2, f2, f3⟩ := put (vs.eraseIdx k) (u.eraseIdx k) F' (RTs.stay (Sub.refl _) _ _ F' F' (fun _ z => z) (fun b o z e => by rw [upd_ne (ne b (g3 b z))]; exact e) g5) (fun z => k3 (g3 a z)) (fun b z _ => g3 b z) (fun b z => S.gf b (k5 b (g3 b z))) (fun b z => S.fd b (k5 b (g3 b z)))
      have S2' : Sat c G1 (upd H1 a (.lst (vs.eraseIdx k))) σ (putAt (.at i p) ε1 (u.eraseIdx k)) F2 := by simpa only [putAt, q0] using S2
      have s2 : Step true G H F G1 (upd H1 a (.lst (vs.eraseIdx k))) F2 := ⟨s.g, fun b o e kk => by
        by_cases hb : b = a
        · subst hb
          rcases s.f b k4 with z | z
          · exact (kk rfl z).elim
          · rw [e] at z; cases z
        · rw [upd_ne hb]; exact s.up.h b o e kk, s.n, fun b z => (f2 b z).elim (s.f b) fun z => s.f b (k5 b (g3 b z))⟩
      have tk : Tmp H F G1 (upd H1 a (.lst (vs.eraseIdx k))) F2 Fk := ⟨fun b z z2 => g4 b z (f3 b (g2 b z) z2), fun b z => S.gf b (k5 b (g2 b z)), fun b z => by
        obtain ⟨o, e⟩ := S.fd b (k5 b (g2 b z))
        exact ⟨o, by rw [upd_ne (ne b (g2 b z))]; exact e⟩, fun b z => s.f b (k5 b (g2 b z))⟩
      have g1' := stayU g2 g1
      split at q
      · exact oo _ _ y G1 _ F2 eNo q s2 S2' (by simpa only [RV, RT] using g1') Tmp.no
      · exact oo _ _ y G1 _ F2 Fk q s2 S2' g1' tk
  · cases e
def tPop (to : ET) : ET := fun ε Q EX => to ε (fun r ε1 => ∃ ts, (∃ i p, r = .at i p) ∧ lstAt r ε1 = some ts ∧ 0 < ts.length ∧ popQ r ε1 ts (ts.length - 1) Q) EX
theorem de_pop (ho : DE X c W wo o to) (hpe : ∀ {tO : TE}, PE X o tO → PE X (.Call (.Attribute o "pop" apos) [] [] pos) (tBM0 X.K "list" rPop tO)) : DE X c W true (.Call (.Attribute o "pop" apos) [] [] pos) (tPop to) := by
  obtain ⟨tO, po, ko⟩ := one ho
  refine ⟨_, hpe po, fun G H σ ε F Q EX QH S h oo xo => ?_⟩
  refine ko G H σ ε F _ EX _ S h xo fun r ε1 x G1 H1 F1 Fr ⟨ts, hr, e1, hl, q⟩ s1 S1 v1 t1 xo1 => ?_
  refine ⟨lst_ty S1 v1 e1, ?_⟩
  obtain ⟨a, vs, y, rfl, k1, k2, k3, k4⟩ := pop_core s1 S1 v1 t1 e1 hr q oo
  refine ⟨a, vs, y, rfl, rfl, k1, by rw [k2]; exact k3, ?_⟩
  rw [show vs.dropLast = vs.eraseIdx (ts.length - 1) by
    rw [List.dropLast_eq_take, List.eraseIdx_eq_take_drop_succ, List.drop_of_length_le (by omega), List.append_nil, k2]]
  exact k4
def tPopA (wb : Bool) (to te : ET) : ET := fun ε Q EX => to ε (fun r ε1 => r.pend wb ∧ (lstAt r ε1).isSome = true ∧ te ε1 (fun rv ε2 => ∃ ts j k, (∃ i p, r = .at i p) ∧ rv.vw ε2 = some (.int j) ∧ lstAt r ε2 = some ts ∧ -(2 ^ 63) ≤ j ∧ j < 2 ^ 63 ∧ seqIndex? j ts.length = some k ∧ popQ r ε2 ts k Q) EX) EX
theorem de_popA (ho : DE X c W wo o to) (he : DE X c W we e te) (he1 : starEach [e] X.env = (false, eval e X.env) :: starEach [] X.env := by rfl)
    (hpe : ∀ {tO : TE} {tA : TA}, PE X o tO → PA X [e] tA → PE X (.Call (.Attribute o "pop" apos) [e] [] pos) (tBM X.K "list" rPopAt tO tA)) : DE X c W true (.Call (.Attribute o "pop" apos) [e] [] pos) (tPopA we to te) := by
  obtain ⟨tO, po, ko⟩ := one ho
  obtain ⟨tE, pe, ke⟩ := one he
  refine ⟨_, hpe po (pa_cons pe pa_nil he1), fun G H σ ε F Q EX QH S h oo xo => ?_⟩
  refine ko G H σ ε F _ EX _ S h xo fun r ε1 x G1 H1 F1 Fr ⟨pd, il, h1⟩ s1 S1 v1 t1 xo1 => ?_
  obtain ⟨ts0, e0⟩ := Option.isSome_iff_exists.mp il
  refine ⟨lst_ty S1 v1 e0, ?_⟩
  refine ke G1 H1 σ ε1 F1 _ EX _ S1 h1 xo1 fun rv ε2 y G2 H2 F2 Fy ⟨ts, j, k, hr, e1, e2, l1, l2, e3, q⟩ s2 S2 v2 t2 _ => ?_
  have ey := rd_int (v2.now S2 e1)
  subst ey
  obtain ⟨a, vs, z, rfl, k1, k2, k3, k4⟩ := pop_core (s1.trans s2) S2 (v1.keep s2 pd t1.dj) (t1.keep s2) e2 hr q oo
  exact ⟨a, vs, j, k, z, rfl, rfl, k1, l1, l2, by rw [k2]; exact e3, k3, k4⟩

/-! ### xs[i] = e -/
def sSt (wi : Bool) (to ti te : ET) : ST' := fun D EX ε => te ε (fun rv ε1 => rv.pend true ∧ to ε1 (fun r ε2 => r.pend wi ∧ ti ε2 (fun rj ε3 => ∃ j k t ε4 ts, rj.vw ε3 = some (.int j) ∧ owns [rv] ε3 = some ([t], ε4) ∧ lstAt r ε4 = some ts ∧ ixN ts.length j = some k ∧ D.nx (putAt r ε4 (ts.set k t))) EX) EX) EX
theorem ds_store {we wo wi : Bool} {i : Expr} {ti : ET} {spos : Pos} (he : DE X c W we e te) (ho : DE X c W wo o to) (hi : DE X c W wi i ti)
    (h : ∀ {tE tO tI : TE}, PE X e tE → PE X o tO → PE X i tI → PS X (.Assign [.Subscript o i apos] e spos) (tAsg tE (gSub tO tI rSetL))) : DS X c W (.Assign [.Subscript o i apos] e spos) (sSt wi to ti te) := by
  obtain ⟨tE, pe, ke⟩ := one he
  obtain ⟨tO, po, ko⟩ := one ho
  obtain ⟨tI, pi, ki⟩ := one hi
  refine ⟨_, h pe po pi, fun G H σ ε F D EX DH S hh l xo => ?_⟩
  refine ke G H σ ε F _ EX _ S hh xo.at fun rv ε1 y G1 H1 F1 Fy ⟨pd1, h1⟩ s1 S1 v1 t1 xo1 => ?_
  refine ko G1 H1 σ ε1 F1 _ EX _ S1 h1 xo1 fun r ε2 x G2 H2 F2 Fr ⟨pd2, h2⟩ s2 S2 v2 t2 xo2 => ?_
  refine ki G2 H2 σ ε2 F2 _ EX _ S2 h2 xo2 fun rj ε3 z G3 H3 F3 Fz ⟨j, k, t, ε4, ts, e1, e2, e3, e4, q⟩ s3 S3 v3 t3 _ => ?_
  have ez := rd_int (v3.now S3 e1)
  subst ez
  have s12 := s1.trans s2
  have s123 := s12.trans s3
  have pdt : ∀ {w : Bool}, rv.pend w := by
    intro w
    cases rv with
    | d _ => trivial
    | own _ => trivial
    | «at» i p =>
      cases p with
      | nil => trivial
      | cons a b => exact nomatch (show true = false from pd1)
  have y3 := (v1.keep s2 pdt t1.dj).keep s3 pdt (t1.keep s2).dj
  have ty3 := (t1.keep s2).keep s3
  obtain ⟨G4, F4, s4, g4, f4, S4, rt, tmy, n4⟩ := own1 s123 S3 y3 ty3 e2
  have st34 : Step false G3 H3 F3 G4 H3 F4 := ⟨g4, fun _ _ z _ => z, fun b o z => (n4 b o z).elim .inl fun z => .inr (.inr z), fun b z => .inl (f4 b z)⟩
  have x4 := (v2.keep s3 pd2 t2.dj).keep (w := false) st34 (by cases r with | «at» i p => cases p <;> trivial | _ => trivial) (t2.keep s3).dj
  have tx4 := (((t2.pre s1).keep s3).keep st34)
  have djy : ∀ z, Fr z → Fy z → False := fun z z1 z2 => by
    rcases t2.n z z1 with kk | kk
    · exact t1.dj z z2 kk
    · obtain ⟨o, e⟩ := t1.fd z z2
      rw [e] at kk; cases kk
  obtain ⟨a, vs, Fc, rfl, k1, k2, k3, k4, k5, k6⟩ := wr_core s4 S4 x4 tx4 tmy djy e3
  have hkl : k < ts.length := (ixN_seq e4).2.1
  refine ⟨a, vs, j, k, rfl, rfl, k1, by rw [← k2.len]; exact e4, ?_⟩
  obtain ⟨u, Fk, m1, m2, m3, m4⟩ := RTs.focus k2 (List.getElem?_eq_getElem hkl)
  -- the k-th item is put in anew
  have key : ∀ {ts : List T} {vs : List V} {F : FS} {k : Nat}, RTs c G4 H3 ts vs F → (∀ b, F b → Fy b → False) → ¬ F a → RTs c G4 (upd H3 a (.lst (vs.set k y))) (ts.set k t) (vs.set k y) (fun b => F b ∨ Fy b) := by
    intro ts
    have hb : ∀ (vs0 : List V), RT c G4 (upd H3 a (.lst vs0)) t y Fy := fun vs0 => RT.stay (Sub.refl _) t y Fy Fy (fun _ z => z) (fun b o z e => by rw [upd_ne fun q => k4 (by rw [← q]; exact z)]; exact e) rt
    suffices gen : ∀ (ts : List T) (vs : List V) (F : FS) (k : Nat) (vs0 : List V), RTs c G4 H3 ts vs F → (∀ b, F b → Fy b → False) → ¬ F a → RTs c G4 (upd H3 a (.lst vs0)) (ts.set k t) (vs.set k y) (fun b => F b ∨ Fy b) by
      intro vs F k h1 h2 h3
      exact gen ts vs F k _ h1 h2 h3
    intro ts
    induction ts with
    | nil => intro vs F k vs0 h1 _ _; simp only [RTs] at h1; subst h1; simp only [List.set_nil, RTs]
    | cons t0 ts ih =>
      intro vs F k vs0 h1 h2 h3
      simp only [RTs] at h1
      obtain ⟨v0, r0, F1, F2, rfl, g1, g2, g3, g4, g5⟩ := h1
      cases k with
      | zero =>
        simp only [List.set_cons_zero, RTs]
        exact ⟨y, r0, Fy, F2, rfl, fun _ z => .inr z, fun b z => .inl (g2 b z), fun b z z2 => h2 b (g2 b z2) z, hb vs0, RTs.stay (Sub.refl _) _ _ F2 F2 (fun _ z => z) (fun b o z e => by rw [upd_ne fun q => h3 (by rw [← q]; exact g2 b z)]; exact e) g5⟩
      | succ k =>
        simp only [List.set_cons_succ, RTs]
        exact ⟨v0, _, F1, fun b => F2 b ∨ Fy b, rfl, fun b z => .inl (g1 b z), fun b z => z.elim (fun z => .inl (g2 b z)) .inr, fun b z z2 => z2.elim (g3 b z) (h2 b (g1 b z)), RT.stay (Sub.refl _) _ _ F1 F1 (fun _ z => z) (fun b o z e => by rw [upd_ne fun q => h3 (by rw [← q]; exact g1 b z)]; exact e) g4, ih r0 F2 k vs0 g5 (fun b z => h2 b (g2 b z)) (fun z => h3 (g2 a z))⟩
  obtain ⟨F5, S5, s5⟩ := k6 (vs.set k y) (ts.set k t) (fun b => Fc b ∨ Fy b) (key k2 k5 k3) (fun b z => z)
  exact l.nx _ σ G4 _ F5 q s5 S5

/-! ### a, b = x, y -/
def setAll : List Nat → List T → Env → Env
  | i :: is, t :: ts, ε => setAll is ts (ε.set i (some t))
  | _, _, ε => ε
def sPr (is : List Nat) (t : AT) : ST' := fun D EX ε => t ε (fun rs ε1 => ∃ ts ε2, owns rs ε1 = some (ts, ε2) ∧ ts.length = is.length ∧ D.nx (setAll is ts ε2)) EX
theorem ds_par {st : Stmt} {i j : Nat} {t : AT} (hi : c.pr i = none) (hj : c.pr j = none) (hij : i ≠ j) (ha : DA X c W wa [a, b] t) (h : ∀ {tA : TA}, PA X [a, b] tA → PS X st (tPar i j tA)) : DS X c W st (sPr [i, j] t) := by
  obtain ⟨tA, pa, ka⟩ := ha.ex
  refine ⟨_, h pa, fun G H σ ε F D EX DH S hh l xo => ?_⟩
  refine ka G H σ ε F _ EX _ S hh (fun rs ε1 vs G1 H1 F1 Ft ⟨ts, ε2, e1, hl, q⟩ s1 S1 v1 t1 => ?_) xo.at
  obtain ⟨G2, F2, g1, g2, g3, S2, rt⟩ := v1.toT S1 t1.dj t1.g e1
  match ts, hl with
  | [t1', t2'], _ =>
    simp only [RTs] at rt
    obtain ⟨x, r1, Fa, Fb, rfl, k1, k2, k3, k4, y, r2, Fc, Fd, e2, k5, k6, k7, k8, k9⟩ := rt
    subst e2
    subst k9
    refine ⟨x, y, rfl, ?_⟩
    have hG2 : ∀ a, Ft a → G2 a = none := fun a z => by
      cases e : G2 a with
      | none => rfl
      | some o =>
        rcases g2 a o e with kk | kk
        · rw [t1.g a z] at kk; cases kk
        · exact (t1.dj a z kk).elim
    obtain ⟨F3, S3, f3⟩ := S2.assign (i := i) hi k4 (fun a z z2 => t1.dj a (k1 a z) (g3 a z2)) (fun a z => hG2 a (k1 a z)) (fun a z => t1.fd a (k1 a z))
    obtain ⟨F4, S4, f4⟩ := S3.assign (i := j) hj k8 (fun a z z2 => (f3 a z2).elim (fun z2 => t1.dj a (k2 a (k5 a z)) (g3 a z2)) fun z2 => k3 a z2 (k5 a z)) (fun a z => hG2 a (k2 a (k5 a z))) (fun a z => t1.fd a (k2 a (k5 a z)))
    refine l.nx _ _ G2 H1 F4 q ⟨s1.g.trans g1, s1.up.h, fun a o z => ?_, fun a z => ?_⟩ S4
    · rcases g2 a o z with z | z
      · exact s1.n a o z
      · rcases s1.f a z with z | z
        · exact .inr (.inr z)
        · exact .inr (.inl z)
    · rcases f4 a z with z | z
      · rcases f3 a z with z | z
        · exact s1.f a (g3 a z)
        · exact t1.n a (k1 a z)
      · exact t1.n a (k2 a (k5 a z))
/-- by way of a tuple (names that comprehensions read; three and more) -/
theorem assign_all {G H : Hp} : ∀ {is : List Nat} {ts : List T} {vs : List V} {σ : L2.St} {ε : Env} {F Ft : FS}, PFree c is → Sat c G H σ ε F → RTs c G H ts vs Ft → (∀ a, Ft a → F a → False) → (∀ a, Ft a → G a = none) → (∀ a, Ft a → ∃ o, H a = some o) → ts.length = is.length →
    ∃ (σ' : L2.St) (F' : FS), Sat c G H σ' (setAll is ts ε) F' ∧ (∀ a, F' a → F a ∨ Ft a) ∧ σ' = (is.zip vs).foldl (fun σ p => σ.set p.1 (some p.2)) σ
  | [], ts, vs, σ, ε, F, Ft, hp, S, r, dj, hg, hd, hl => by
    cases ts with
    | nil => exact ⟨σ, F, S, fun _ z => .inl z, rfl⟩
    | cons _ _ => simp at hl
  | i :: is, ts, vs, σ, ε, F, Ft, hp, S, r, dj, hg, hd, hl => by
    cases ts with
    | nil => simp at hl
    | cons t ts =>
      simp only [RTs] at r
      obtain ⟨v, us, F1, F2, rfl, h1, h2, h3, h4, h5⟩ := r
      obtain ⟨F3, S3, f3⟩ := S.assign (i := i) (hp i (by simp)) h4 (fun a z => dj a (h1 a z)) (fun a z => hg a (h1 a z)) (fun a z => hd a (h1 a z))
      obtain ⟨σ', F', S', f', e'⟩ := assign_all (is := is) (fun j hj => hp j (by simp [hj])) S3 h5 (fun a z z2 => (f3 a z2).elim (dj a (h2 a z)) fun z2 => h3 a z2 z) (fun a z => hg a (h2 a z)) (fun a z => hd a (h2 a z)) (by simpa using hl)
      exact ⟨σ', F', S', fun a z => (f' a z).elim (fun z => (f3 a z).elim .inl fun z => .inr (h1 a z)) fun z => .inr (h2 a z), by rw [e']; rfl⟩
/-- the target's reading: names in slots, one after another -/
def gNames : List Nat → TGs
  | [] => gNil
  | i :: is => gCons (gName i) (gNames is)
theorem gNames_ok : ∀ {is : List Nat} {vs : List V} {σ : L2.St} {H : Hp} {Q : L2.St → Hp → Prop}, is.length = vs.length → Q ((is.zip vs).foldl (fun σ p => σ.set p.1 (some p.2)) σ) H → gNames is vs σ H Q
  | [], [], σ, H, Q, _, q => ⟨rfl, q⟩
  | i :: is, v :: vs, σ, H, Q, hl, q => ⟨v, vs, rfl, gNames_ok (by simpa using hl) q⟩
theorem ds_parT {st : Stmt} {is : List Nat} {t : AT} {n : Nat} (hp : PFree c is) (ha : DA X c W wa es t) (hn : is.length = n) (hn2 : n ≤ 1000) (h : ∀ {tA : TA}, PA X es tA → PS X st (tAsg (tTup tA) (gTup X.K n (gNames is)))) : DS X c W st (sPr is t) := by
  obtain ⟨tA, pa, ka⟩ := ha.ex
  refine ⟨_, h pa, fun G H σ ε F D EX DH S hh l xo => ?_⟩
  refine ka G H σ ε F _ EX _ S hh (fun rs ε1 vs G1 H1 F1 Ft ⟨ts, ε2, e1, hl, q⟩ s1 S1 v1 t1 => ?_) xo.at
  obtain ⟨G2, F2, g1, g2, g3, S2, rt⟩ := v1.toT S1 t1.dj t1.g e1
  have hlv := rt.len
  refine ⟨?_, fun p hpn => ⟨p, vs, rfl, SqT.of upd_same, by omega, ?_⟩⟩
  · have := sizeLine_eq; omega
  have hG2 : ∀ a, Ft a → G2 a = none := fun a z => by
    cases e : G2 a with
    | none => rfl
    | some o =>
      rcases g2 a o e with kk | kk
      · rw [t1.g a z] at kk; cases kk
      · exact (t1.dj a z kk).elim
  have np : ∀ a, Ft a → a ≠ p := fun a z e => by
    obtain ⟨o, k⟩ := t1.fd a z
    rw [e, hpn] at k; cases k
  obtain ⟨σ', F3, S3, f3, e3⟩ := assign_all hp (S2.growH (o := .tup vs) hpn) (RTs.stay (Sub.refl _) ts vs Ft Ft (fun _ z => z) (fun a o z e => by rw [upd_ne (np a z)]; exact e) rt) (fun a z z2 => t1.dj a z (g3 a z2)) hG2 (fun a z => by
    obtain ⟨o, k⟩ := t1.fd a z
    exact ⟨o, by rw [upd_ne (np a z)]; exact k⟩) hl
  refine gNames_ok (by omega) ?_
  rw [← e3]
  refine l.nx _ _ G2 _ F3 q ⟨s1.g.trans g1, fun a o e k => Sub.new hpn a o (s1.up.h a o e k), fun a o z => ?_, fun a z => ?_⟩ S3
  · rcases g2 a o z with z | z
    · exact s1.n a o z
    · rcases s1.f a z with z | z
      · exact .inr (.inr z)
      · exact .inr (.inl z)
  · rcases f3 a z with z | z
    · exact s1.f a (g3 a z)
    · exact t1.n a z

/-! ### a < b < c -/
def tCh (R R' : D → D → D → Prop) (wb wc : Bool) (ta tb tc : ET) : ET := fun ε Q EX => t2 wb ta tb (fun ra rb ε2 => ∃ dx dy k, ra.vw ε2 = some dx ∧ rb.vw ε2 = some dy ∧ R dx dy (.bl k) ∧ (k = false → Q (.d (.bl false)) ε2) ∧ (k = true → rb.pend wc ∧ tc ε2 (fun rc ε3 => ∃ dy dz z, rb.vw ε3 = some dy ∧ rc.vw ε3 = some dz ∧ R' dy dz z ∧ Q (.d z) ε3) EX)) EX ε
theorem ch_core {r r' : R2} {R R' : D → D → D → Prop} {x y z : Expr} (hr : Does2 c r R) (hr' : Does2 c r' R') (ha : DE X c W wa x ta) (hb : DE X c W wb y tb) (hc : DE X c W wc z tc) :
    ∃ tea teb tec, PE X x tea ∧ PE X y teb ∧ PE X z tec ∧ ∀ (G H : Hp) (σ : L2.St) (ε : Env) (F : FS) (Q : EQ) (EX : EXN) (QH : VK), Sat c G H σ ε F → tCh R R' wb wc ta tb tc ε Q EX → Out c (wa || wb || wc) G H σ F Q QH → XOut c G H F σ EX W → tChain r r' tea teb tec σ H QH := by
  obtain ⟨tea, teb, pa, pb, k⟩ := two ha hb
  obtain ⟨tec, pc, kc⟩ := one hc
  refine ⟨tea, teb, tec, pa, pb, pc, fun G H σ ε F Q EX QH S h o xo => ?_⟩
  refine k G H σ ε F _ EX _ S h xo fun r1 r2 ε2 x y G2 H2 F2 Fa Fb ⟨dx, dy, kk, e1, e2, e3, q1, q2⟩ s S2 v1 v2 t1 t2 _ xo2 => ?_
  obtain ⟨v, e4, k4⟩ := hr H2 x y dx dy _ (v1.now S2 e1) (v2.now S2 e2) e3
  simp only [scV, Option.some.injEq] at e4
  subst e4
  refine k4 _ ⟨kk, rfl, ?_⟩
  cases kk with
  | false =>
    rw [if_neg (by decide)]
    exact o _ _ _ G2 H2 F2 eNo (q1 rfl) (s.mono fun z => by rw [z]; rfl) S2 (by simp only [RV, RD]) Tmp.no
  | true =>
    rw [if_pos rfl]
    obtain ⟨pd, q2⟩ := q2 rfl
    refine kc G2 H2 σ ε2 F2 _ EX _ S2 q2 xo2 fun r3 ε3 z G3 H3 F3 Fc ⟨dy', dz, zz, e5, e6, e7, q⟩ s3 S3 v3 t3 _ => ?_
    obtain ⟨v, e8, k8⟩ := hr' H3 y z dy' dz zz ((v2.keep s3 pd t2.dj).now S3 e5) (v3.now S3 e6) e7
    exact k8 _ (o _ _ v G3 H3 F3 eNo q (s.trans s3) S3 (scV_rd e8) Tmp.no)
theorem de_chain {op op' : CmpOp} {R R' : D → D → D → Prop} {x y z : Expr} (h : CmpD X c op R) (h' : CmpD X c op' R') (ha : DE X c W wa x ta) (hb : DE X c W wb y tb) (hc : DE X c W wc z tc) (hm : lastMarks [op, op'] [y, z] = false := by with_unfolding_all rfl) :
    DE X c W (wa || wb || wc) (.Compare x [op, op'] [y, z] pos) (tCh R R' wb wc ta tb tc) := by
  obtain ⟨r, o1, d1⟩ := h.ex
  obtain ⟨r', o2, d2⟩ := h'.ex
  obtain ⟨tea, teb, tec, pa, pb, pc, k⟩ := ch_core d1 d2 ha hb hc
  exact ⟨_, pe_chain o1 o2 pa pb pc hm, k⟩
theorem dt_chain {op op' : CmpOp} {R R' : D → D → D → Prop} {x y z : Expr} (h : CmpD X c op R) (h' : CmpD X c op' R') (ha : DE X c W wa x ta) (hb : DE X c W wb y tb) (hc : DE X c W wc z tc) (hm : lastMarks [op, op'] [y, z] = false := by with_unfolding_all rfl) :
    DT X c W (wa || wb || wc) (.Compare x [op, op'] [y, z] pos) (tTs (tCh R R' wb wc ta tb tc)) := by
  obtain ⟨r, o1, d1⟩ := h.ex
  obtain ⟨r', o2, d2⟩ := h'.ex
  obtain ⟨tea, teb, tec, pa, pb, pc, k⟩ := ch_core d1 d2 ha hb hc
  refine ⟨_, pt_chain o1 o2 pa pb pc hm, fun G H σ ε F Q EX QH S h o xo => ?_⟩
  refine k G H σ ε F _ EX _ S h (fun rv ε' v G' H' F' Ft ⟨b, e, q⟩ s S' r t => ?_) xo
  subst e
  simp only [RV, RD] at r
  exact ⟨b, r, o b ε' G' H' F' q s S'⟩
end
end DL

namespace DL
open PySem PySem.Spec L2
open PyProof.Rows

/-! ### a def's record, by the head's facts -/
theorem fun_ofD {K : PySem.W.Frag} {x qual : Str} {st : Stmt} {f : Addr} {fd : FuncData} (F : FunD K x qual (defArgs st) (defBody st) (defScope st) [] [] f fd) : Fun K x qual st f fd := by
  obtain ⟨oc, od, dV, kV, doc, pm, an, cdv, ct, osl, rfl, lk, hcd, hD, hK⟩ := F.ex
  rcases hD with ⟨_, rfl⟩ | ⟨e, _⟩
  · exact ⟨⟨oc, od, kV, doc, pm, an, cdv, ct, osl, rfl, lk, hcd⟩, F.kp⟩
  · exact absurd rfl e

/-! ### the head's hook: the module's names, and the one dict that no program touches -/
def isDic : Option Obj → Bool
  | some ⟨.type c, _, _, _⟩ => decide (c = "dict")
  | _ => false
abbrev AlS : Type := He.AlD × Bool
def partS (n : Nat) (g : Addr → Option Obj) : PySem.W.Frag := He.frG g (sysModules :: He.asD g n)
def obsS (fa : List He.Fa) (fn : List He.DefD) (K : PySem.W.Frag) : AlS := (He.obsD fa fn K, isDic (K.lookup sysModules))
def valS (fn : List He.DefD) : AlS := (He.valD fn, true)
def obsSG (n : Nat) (fa : List He.Fa) (fn : List He.DefD) (g : Addr → Option Obj) : AlS := obsS fa fn (partS n g)
theorem smOk_of {K : PySem.W.Frag} (h : isDic (K.lookup sysModules) = true) : SmOk K := by
  unfold isDic at h
  split at h
  · rename_i c _ _ _ e
    exact ⟨_, e, by rw [of_decide_eq_true h]⟩
  · cases h
def hookS (n : Nat) (fa : List He.Fa) (fn : List He.DefD) : PySem.W.Hook where
  α := AlS
  obs := fun s => obsSG n fa fn s.heap.get?
  val := fun _ => valS fn
  says := fun _ h => ∃ K : PySem.W.Frag, K.In h ∧ He.SaysD fa fn K ∧ SmOk K
  of := fun _ _ e => ⟨_, He.frG_in, congrArg (fun z : AlS => z.1) e, smOk_of (congrArg (fun z : AlS => z.2) e)⟩
  keeps := fun _ _ _ ⟨K, hK, c⟩ k => ⟨K, PySem.W.Frag.In.keeps hK k, c⟩
theorem obsSG_eq {n : Nat} {fa : List He.Fa} {fn : List He.DefD} {g : Addr → Option Obj} {s : Shared} (h : ∀ a, g a = s.heap.get? a) : obsSG n fa fn g = (hookS n fa fn).obs s := by
  have e : g = s.heap.get? := funext h
  rw [e] <;> rfl

/-! ### a law's end -/
theorem end_law {P : Program} {w : World} {K : PySem.W.Frag} {mg mb : Str → Option Value} {ca : Str → Option Addr} {k : Nat} {fa sc : Addr} {fd : FuncData} {x : Str} {sp : SpD} {s₁ : Shared} {us : List Value} {ns : List Int}
    (kin : K.In s₁.heap) (gns : s₁.heap.Ns mainGlobals mg) (bns : s₁.heap.Ns builtinsNs mb) (hbb : ∀ y : Str, y ≠ "__name__" → mb y = bootBuiltins y) (nol : s₁.heap.NoLimit) (g0 : s₁.gens = #[])
    (hsc : s₁.heap.get? sc = some { cls := .type "list", data := .seq us.toArray }) (hints : IntsAre us ns) (few : ns.length ≤ sizeLine) (rm : Room k callerA)
    (F : ∀ base : Heap, K.In base → base.Ns mainGlobals mg → DFn P w K mg base ca k fa fd [x] sp) (bind : ∀ (s : Shared) (u : Value), BindsTo s fd ⟨[u], []⟩ [(x, u)])
    (hsp : sp [.fr (.scr ns)] (fun r _ => r = .fr (.bl true)) fun _ _ => False) :
    codeAny (model P w) callerA (.call (.ref fa) ⟨[.ref sc], []⟩) (fun r s' => r = .ok (.ret (.bool true)) ∧ OldK s₁.heap s'.heap ∧ s'.os = s₁.os ∧ AllBare s'.gens) s₁ := by
  have rv := vals_ints hints
  have ln := hints.length
  have main : ∀ H : Hp, Only H → SqL K H sc (ns.map V.int) → HOk P w H s₁.heap → (∀ b, H b ≠ none → b = sc) → (H sc ≠ none → K.lookup sc = none) →
      codeAny (model P w) callerA (.call (.ref fa) ⟨[.ref sc], []⟩) (fun r s' => r = .ok (.ret (.bool true)) ∧ OldK s₁.heap s'.heap ∧ s'.os = s₁.os ∧ AllBare s'.gens) s₁ := by
    intro H only seq hok one notK
    have noDict : ∀ {b : Addr} {o : Obj} {es : Array DictEntry} {ep : Nat}, s₁.heap.get? b = some o → o.data = .dict es ep → H b = none := fun {b o es ep} e d => by
      cases q : H b with
      | none => rfl
      | some u =>
        obtain rfl : b = sc := one b (by rw [q]; simp)
        rw [hsc] at e; cases e
        cases d
    have moved : ∀ {b : Addr} {m : Str → Option Value}, s₁.heap.Ns b m → (hidT s₁.heap H).Ns b m := fun {b m} ⟨o, es, ep, e, d, r⟩ => ⟨o, es, ep, hidT_get e (noDict e d), d, r⟩
    have kB : K.In (hidT s₁.heap H) := fun b o e => hidT_get (kin b o e) (by
      cases q : H b with
      | none => rfl
      | some u =>
        obtain rfl : b = sc := one b (by rw [q]; simp)
        rw [notK (by rw [q]; simp)] at e; cases e)
    have md : Mod K mg (hidT s₁.heap H) := ⟨kB, moved gns, ⟨mb, moved bns, hbb⟩, let ⟨mc, h1, h2⟩ := nol; ⟨mc, moved h1, h2⟩⟩
    have e0 : Env0 P w K mg (hidT s₁.heap H) callerA [] s₁ H := ⟨rfl, md, fun b o e => of_hidT e, Nat.le_of_eq (hidT_size _ _), trivial, fun b hb => absurd (show b ∈ ([] : List Addr) from hb) (by simp), hok, .of_eq g0⟩
    have rts : RTs (c0 K ca) H H [.fr (.scr ns)] [V.ref sc] eNo := by
      simp only [RTs, RT, RD]
      exact ⟨.ref sc, [], eNo, eNo, rfl, fun _ z => z, fun _ z => z, fun _ z => z.elim, ⟨sc, rfl, seq⟩, rfl⟩
    refine codeAny_mono ((F _ kB (moved gns)).run callerA [] s₁ H ⟨[.ref sc], []⟩ [.ref sc] [.ref sc] [.fr (.scr ns)] H eNo _ _ (fun v _ => v = .bl true) (fun _ _ _ => False) rm rfl e0 (bind s₁ (.ref sc)) (.cons rfl .nil) (Sub.refl _) (fun _ z => z.elim) (fun _ z => z.elim) rts hsp
      (fun r ts' v G' H' F' Ft hr _ _ _ _ _ rt _ => by subst hr; simpa only [RT, RD] using rt) (fun _ _ _ _ _ _ _ z _ _ _ _ _ _ => z.elim)) fun r s' h => ?_
    cases r with
    | error e =>
      obtain ⟨_, _, _, _, _, _, _, _, _, _, _, _, z⟩ := (show L2.CX P w [] H s₁ (fun _ _ _ => False) e s' from h)
      exact z.elim
    | ok fl =>
      cases fl with
      | next => exact False.elim h
      | brk => exact False.elim h
      | cont => exact False.elim h
      | ret u =>
        obtain ⟨v, H', os, bare, un, hok', r', q⟩ := h
        obtain rfl : v = .bl true := q
        obtain rfl : u = Value.bool true := r'
        refine ⟨rfl, OldK.of_keep fun b o e => ?_, os, bare⟩
        cases q : H b with
        | none => exact un.keep b o e q (by intro z; exact absurd (show b ∈ ([] : List Addr) from z) (by simp)) (by simp)
        | some u =>
          rcases only b with z | ⟨ob, xs, z⟩
          · rw [q] at z; cases z
          · obtain ⟨e1, _⟩ := hok b _ z
            obtain ⟨e2, _⟩ := hok' b _ (un.frzs b ob _ z)
            rw [e] at e1; cases e1
            exact e2
  cases hk : K.lookup sc with
  | some o =>
    have e := kin sc o hk
    rw [hsc] at e
    cases e
    exact main (fun _ => none) (fun _ => .inl rfl) (.inr ⟨_, us.toArray, _, hk, rfl, rfl, rfl, by rw [List.size_toArray, ln]; exact few, by simpa using rv⟩) (fun b u z => nomatch (show (none : Option HO) = some u from z)) (fun b z => absurd rfl z) fun z => absurd rfl z
  | none =>
    refine main (fun b => if b = sc then some (.frz { cls := .type "list", data := .seq us.toArray } (.lst (ns.map V.int))) else none) (fun b => ?_) (.inl (.inr ⟨{ cls := .type "list", data := .seq us.toArray }, if_pos rfl⟩)) (fun b u z => ?_) (fun b z => ?_) fun _ => hk
    · by_cases hb : b = sc
      · exact .inr ⟨_, _, if_pos hb⟩
      · exact .inl (if_neg hb)
    · by_cases hb : b = sc
      · cases (if_pos hb).symm.trans z
        subst hb
        exact ⟨hsc, by rw [List.length_map]; exact few, us, _, rv, hsc⟩
      · cases (if_neg hb).symm.trans z
    · by_cases hb : b = sc
      · exact hb
      · exact absurd (if_neg hb) z
/-- the goal behind the head: F gives the written part, the def's record, its promise -/
theorem walk_law {l : PySem.W.OpenLaw} {n k : Nat} {q : Program} {loose : List Str} {XP : (Str → Option Value) → Heap → Prop} {YP : World → Heap → Prop} {d : DefRec} {x : Str}
    (hn : l.most = some n) (hn2 : n ≤ sizeLine) (hdf : d.params.defaults = []) (rm : Room k callerA)
    (F : ∀ (w : World) (mg : Str → Option Value) (fa : Addr) (h : Heap), YP w h → h.Ns mainGlobals mg → mg d.name = some (.ref fa) →
      ∃ (K : PySem.W.Frag) (ca : Str → Option Addr) (fd : FuncData) (sp : SpD), K.In h ∧ (∀ (s : Shared) (u : Value), BindsTo s fd ⟨[u], []⟩ [(x, u)]) ∧
        (∀ ns : List Int, ns.length ≤ n → (∀ z ∈ ns, Builtin.Int.intBits z ≤ 1048576) → sp [.fr (.scr ns)] (fun r _ => r = .fr (.bl true)) fun _ _ => False) ∧
        ∀ base : Heap, K.In base → base.Ns mainGlobals mg → DFn l.prog w K mg base ca k fa fd [x] sp) :
    PySem.W.WalkO q loose XP YP l.row.toRowW d [] (fun f vs => PySem.call f vs) := by
  refine Att.attach_callB hn hdf fun w s₀ s₁ mg mb fa o pm cd doc a vs ns G Y ho hd hcd hmg hobj hints hlen hbits hg => ?_
  obtain ⟨K, ca, fd, sp, kin, hb, hsp, hF⟩ := F w mg fa _ Y G.T.g hmg
  exact end_law kin G.T.g G.T.b G.T.builtins G.T.nolimit hg hobj hints (Nat.le_trans hlen hn2) rm hF hb (hsp ns hlen hbits)
end DL

namespace DL
open PySem PySem.Spec L2

theorem hu64 {A : Around} {k : Nat} (r : Room k A) : A.units + 64 < cLine := by have := r.un; omega
theorem hu1 {A : Around} {k : Nat} (r : Room k A) : A.units + 1 < cLine := by have := r.un; omega
theorem hu65 {A : Around} {k : Nat} (r : Room k A) : A.units + 65 < cLine := by have := r.un; omega
theorem pfree1 {K : PySem.W.Frag} {ca : Str → Option Addr} {kp js : List Nat} {vs : List V} (h : (js.all fun j => !kp.contains j) = true) : PFree ⟨K, ca, prOf kp vs⟩ js := fun i hi => by
  have := List.all_eq_true.mp h i hi
  exact prOf_no (by simpa using this)
theorem kbnd_of {K : PySem.W.Frag} {x qual : Str} {params : Arguments} {body : List Stmt} {scope : Scope} {kws : List (Str × V)} {f : Addr} {fd : FuncData} {ps ks : List Str} {ix : List Nat} (F : FunD K x qual params body scope [] kws f fd) (nd : ix.Nodup) (lt : ∀ i ∈ ix, i < ks.length)
    (hl : ks.length = ps.length)
    (h : ∀ (kV doc pm : Value) (an : Option Addr) (cdv ct : Value) (us : List Value), us.length = ps.length → bindArgs (PySem.W.fnOf x qual params body scope .none kV doc pm an cdv ct) ⟨[], ks.zip us⟩ = pure (ps.zip (pickL ix us))) : KBnd K fd ps ks ix := by
  obtain ⟨oc, od, dV, kV, doc, pm, an, cdv, ct, osl, rfl, lk, hcd, hD, hK⟩ := F.ex
  rcases hD with ⟨_, rfl⟩ | ⟨e, _⟩
  · exact ⟨fun s ws _ hw => .of_eq (h kV doc pm an cdv ct ws (by omega)), nd, lt⟩
  · exact absurd rfl e

section
variable {X : Cx} {c : CT} {W : WX'} {pos : Pos}
/-- {} -/
def tDc0 : ET := fun ε Q _ => Q (.own (.dic [] [])) ε
theorem de_dic0 : DE X c W false (.Dict [] [] pos) tDc0 := by
  refine ⟨_, pe_dnewK, fun G H σ ε F Q EX QH S h o _ => ?_⟩
  intro p hp
  refine o _ _ (.ref p) G _ F (fun a => a = p) h (Step.growH hp) (S.growH hp) ?_ ⟨fun a e z => ?_, fun a e => by subst e; exact S.gh.no hp, fun a e => by subst e; exact ⟨_, upd_same⟩, fun a e => .inr (by subst e; exact hp)⟩
  · simp only [RV, RT]
    exact ⟨p, eNo, rfl, rfl, fun z => z, fun _ z => z.elim, .inl ⟨[], upd_same, rfl, by simp only [List.map_nil, RTs]⟩⟩
  · subst e
    obtain ⟨o, e⟩ := S.fd a z
    rw [hp] at e; cases e
/-- a display whose items are frozen -/
def tLf (t : AT) : ET := fun ε Q EX => t ε (fun rs ε1 => ∃ ts ε2, owns rs ε1 = some (ts, ε2) ∧ ts.length ≤ sizeLine ∧ Q (.own (.lst ((T.ds ts).map .fr))) ε2) EX
theorem de_lstF {w : Bool} {es : List Expr} {t : AT} (h : DA X c W w es t) : DE X c W w (.List es pos) (tLf t) := by
  obtain ⟨ta, p, k⟩ := h.ex
  refine ⟨_, pe_lst p, fun G H σ ε F Q EX QH S h o xo => ?_⟩
  refine k G H σ ε F _ EX _ S h (fun rs ε' vs G' H' F' Ft ⟨ts, ε2, e1, hl, q⟩ s S' r tm => ?_) xo
  obtain ⟨G2, F2, g1, g2, g3, S2, rt⟩ := r.toT S' tm.dj tm.g e1
  refine ⟨by rw [← rt.len]; exact hl, fun p hp => ?_⟩
  have dj : ∀ a, Ft a → F2 a → False := fun a z z2 => tm.dj a z (g3 a z2)
  have s2 : Step w G H F G2 H' F2 := ⟨s.g.trans g1, s.h, fun a o z => (g2 a o z).elim (s.n a o) fun z => (s.f a z).elim (fun z => .inr (.inr z)) fun z => .inr (.inl z), fun a z => s.f a (g3 a z)⟩
  have t2 : Tmp H F G2 H' F2 Ft := ⟨dj, fun a z => by
    cases e : G2 a with
    | none => rfl
    | some o =>
      rcases g2 a o e with k | k
      · rw [tm.g a z] at k; cases k
      · exact (tm.dj a z k).elim, tm.fd, tm.n⟩
  obtain ⟨k1, k2, k3, k4⟩ := newL (t2.step s2) (S2.frzT dj) hp (RTs.frz S2.gh rt)
  exact o _ _ _ _ _ _ _ q k1 k2 k3 k4

/-! ### a, b, c = x, y, z -/
theorem ds_par3 {wa : Bool} {a b d : Expr} {st : Stmt} {i j l : Nat} {t : AT} (hp : PFree c [i, j, l]) (ha : DA X c W wa [a, b, d] t) (h : ∀ {tA : TA}, PA X [a, b, d] tA → PS X st (tPar3 i j l tA)) : DS X c W st (sPr [i, j, l] t) := by
  obtain ⟨tA, pa, ka⟩ := ha.ex
  refine ⟨_, h pa, fun G H σ ε F D EX DH S hh lk xo => ?_⟩
  refine ka G H σ ε F _ EX _ S hh (fun rs ε1 vs G1 H1 F1 Ft ⟨ts, ε2, e1, hl, q⟩ s1 S1 v1 t1 => ?_) xo.at
  obtain ⟨G2, F2, g1, g2, g3, S2, rt⟩ := v1.toT S1 t1.dj t1.g e1
  have hlv := rt.len
  have hG2 : ∀ a, Ft a → G2 a = none := fun a z => by
    cases e : G2 a with
    | none => rfl
    | some o =>
      rcases g2 a o e with kk | kk
      · rw [t1.g a z] at kk; cases kk
      · exact (t1.dj a z kk).elim
  obtain ⟨σ', F3, S3, f3, e3⟩ := assign_all hp S2 rt (fun a z z2 => t1.dj a z (g3 a z2)) hG2 t1.fd hl
  match vs, (show vs.length = 3 by rw [← hlv, hl]; rfl) with
  | [u, v, w], _ =>
    refine ⟨u, v, w, rfl, ?_⟩
    have e4 : σ' = ((σ.set i (some u)).set j (some v)).set l (some w) := e3
    rw [← e4]
    refine lk.nx _ _ G2 H1 F3 q ⟨s1.g.trans g1, s1.up.h, fun a o z => ?_, fun a z => ?_⟩ S3
    · rcases g2 a o z with z | z
      · exact s1.n a o z
      · rcases s1.f a z with z | z
        · exact .inr (.inr z)
        · exact .inr (.inl z)
    · rcases f3 a z with z | z
      · exact s1.f a (g3 a z)
      · exact t1.n a z
end

/-! ### [elt for a in xs if .. for b in ys if ..] -/
section
variable {c : CT} {w w' : Bool} {G1 H1 : Hp} {Fb : FS} {D : Addr} {σb σ4 : L2.St} {G' H2 H3 G3 G5 H5 G6 H6 : Hp} {ε ε' ε5 ε6 ε7 : Env} {F' F5 F6 Ft : FS} {acc : List T} {vacc : List V} {Fa : FS} {vs : List Nat} {p : Pat}
theorem lc_rew (hp : PFree c vs) (hw : wipe σ4 vs = wipe σb vs) (L : LcInv c w G1 H1 Fb D σ4 G6 H6 ε6 F6 acc vacc Fa) : ∃ F7, LcInv c w G1 H1 Fb D (wipe σb vs) G6 H6 (wipeE ε6 vs) F7 acc vacc Fa := by
  obtain ⟨F7, f7, S7, _⟩ := L.S.wipe hp
  rw [hw] at S7
  exact ⟨F7, ⟨L.st.g, L.st.h, L.st.n, fun a z => L.st.f a (f7 a z)⟩, S7, L.at_, L.acc, fun a q z => L.dj a q (f7 a z), L.g, L.fd, L.n, fun z => L.nf (f7 D z), L.na, L.ng⟩
/-- the target is bound -/
theorem lc_bind {x : V} {d : DL.D} {R : Env → Prop} {Z : L2.St → Hp → Prop} (hsl : ∀ i ∈ p.slots, i ∈ vs) (L : LcInv c w G1 H1 Fb D (wipe σb vs) G' H2 ε' F' acc vacc Fa)
    (y1 : Sub G' G3) (y2 : Sub G3 H3) (y3 : Sub H2 H3) (y4 : ∀ a o, G3 a = some o → G' a = some o ∨ H2 a = none) (y6 : RD c G3 d x) (q : ∃ ε1, p.bind d ε' = some ε1 ∧ R ε1)
    (k : ∀ σ4 ε3 F4, LcInv c w G1 H1 Fb D σ4 G3 H3 ε3 F4 acc vacc Fa → wipe σ4 vs = wipe σb vs → R ε3 → Z σ4 H3) :
    liftG c p x (wipe σb vs) H3 fun σ2 H2' => wipe σ2 vs = wipe σb vs ∧ Z σ2 H2' := by
  obtain ⟨ε3, e3, q3⟩ := q
  have st3 : Step false G' H2 F' G3 H3 F' := ⟨y1, fun a o e _ => y3 a o e, fun a o e => (y4 a o e).elim .inl fun z => .inr (.inl z), fun a z => .inl z⟩
  have S3 : Sat c G3 H3 (wipe σb vs) ε' F' := by
    refine ⟨y2, fun a z => ?_, fun a z => ?_, L.S.len, L.S.pr, ?_⟩
    · cases e : G3 a with
      | none => rfl
      | some o =>
        rcases y4 a o e with k | k
        · rw [L.S.gf a z] at k; cases k
        · obtain ⟨o', e'⟩ := L.S.fd a z
          rw [e'] at k; cases k
    · obtain ⟨o, e⟩ := L.S.fd a z
      exact ⟨o, y3 a o e⟩
    · obtain ⟨Fs, d1, d2, d3⟩ := L.S.at_
      refine ⟨Fs, d1, d2, fun i t e => ?_⟩
      obtain ⟨v, e1, r⟩ := d3 i t e
      exact ⟨v, e1, r.stay y1 t v (Fs i) _ (fun _ q => q) fun a o q e => y3 a o e⟩
  have L3 := L.step st3 (fun z => nomatch z) S3
  refine ⟨G3, ε', ε3, F', d, S3, y6, e3, fun σ4 F4 S4 f4 g4 l4 => ?_⟩
  have st4 : Step false G3 H3 F' G3 H3 F4 := ⟨Sub.refl _, fun a o e _ => e, fun a o e => .inl e, fun a z => .inl (f4 a z)⟩
  have hwp : wipe σ4 vs = wipe σb vs := by
    refine (wipe_same l4 fun i hi => g4 i fun z => hi (hsl i z)).trans ?_
    refine wipe_same (wipe_length _ _) fun i hi => ?_
    rw [wipe_get, if_neg hi]
  exact ⟨hwp, k σ4 ε3 F4 (L3.step st4 (fun z => nomatch z) S4) hwp q3⟩
/-- one more -/
theorem lc_put {we : Bool} {rv : Rv} {y : V} {t : T} (L5 : LcInv c w G1 H1 Fb D σ4 G5 H5 ε5 F5 acc vacc Fa) (st6 : Step we G5 H5 F5 G6 H6 F6) (hw : we = true → w = true) (S6 : Sat c G6 H6 σ4 ε6 F6) (rv6 : RV c G6 H6 σ4 rv y Ft) (t6 : Tmp H5 F5 G6 H6 F6 Ft) (e7 : owns [rv] ε6 = some ([t], ε7)) (hD : H1 D = none) :
    H6 D = some (.lst vacc) ∧ ∃ G7 F7 Fa', LcInv c w G1 H1 Fb D σ4 G7 (upd H6 D (.lst (vacc ++ [y]))) ε7 F7 (acc ++ [t]) (vacc ++ [y]) Fa' ∧ Sub G6 G7 := by
  have L6 := L5.step st6 hw S6
  refine ⟨L6.at_, ?_⟩
  obtain ⟨G7, F7, g1, g2, g3, S7, rt⟩ := RVs.toT (rs := [rv]) (vs := [y]) S6 ⟨y, [], Ft, eNo, rfl, fun _ q => q, fun _ z => False.elim z, fun _ _ z => z, rv6, rfl⟩ t6.dj t6.g e7
  have s7 : Step false G6 H6 F6 G7 H6 F7 := ⟨g1, fun a o e _ => e, fun a o e => (g2 a o e).elim .inl fun z => .inr (.inr z), fun a z => .inl (g3 a z)⟩
  have L7 := L6.step s7 (fun z => nomatch z) S7
  have ftD : ¬ Ft D := fun z => by
    rcases t6.n D z with k | k
    · exact L5.nf k
    · rw [L5.at_] at k; cases k
  have dja : ∀ a, Fa a → Ft a → False := fun a q z => by
    rcases t6.n a z with k | k
    · exact L5.dj a q k
    · obtain ⟨o, e⟩ := L5.fd a q
      rw [e] at k; cases k
  have hn6 : ∀ a, Ft a → Fb a ∨ H1 a = none := fun a z => by
    rcases t6.n a z with k | k
    · exact L5.st.f a k
    · rcases L5.st.no k with k | k
      · exact .inr k
      · exact .inl k
  have hG7 : ∀ a, Ft a → G7 a = none := fun a z => by
    cases e : G7 a with
    | none => rfl
    | some o =>
      rcases g2 a o e with k | k
      · rw [t6.g a z] at k; cases k
      · exact (t6.dj a z k).elim
  have neD : ∀ {a : Addr}, Fa a ∨ Ft a → a ≠ D := fun q z => by
    subst z
    rcases q with q | q
    · exact L7.na q
    · exact ftD q
  refine ⟨G7, F7, fun a => Fa a ∨ Ft a, ⟨⟨L7.st.g, fun a o e k => ?_, L7.st.n, L7.st.f⟩, L7.S.aside L7.nf L7.ng, upd_same, ?_, fun a q z => q.elim (fun q => L7.dj a q z) (fun q => t6.dj a q (g3 a z)), fun a q => q.elim (L7.g a) (hG7 a), fun a q => ?_, fun a q => q.elim (L7.n a) (hn6 a), L7.nf, fun z => z.elim L7.na ftD, L7.ng⟩, g1⟩
  · rw [upd_ne (show a ≠ D from fun z => by rw [z, hD] at e; cases e)]
    exact L7.st.h a o e k
  · refine RTs.stay (Sub.refl _) _ _ _ _ (fun _ q => q) (fun a o q e => ?_) (RTs.app L7.acc rt dja)
    rw [upd_ne (neD q)]
    exact e
  · rw [upd_ne (neD q)]
    exact q.elim (fun q => L7.fd a q) (fun q => t6.fd a q)
end
def liftI (c : CT) (W : WX') (w : Bool) (t : IT) : TI := fun σ H R => ∃ G ε F Q EX, Sat c G H σ ε F ∧ t ε Q EX ∧ (∀ items ε' J G' H' F', Q items ε' → Step w G H F G' H' F' → Sat c G' H' σ ε' F' → WalkD c J items G' → R J H') ∧ XOut c G H F σ EX W
theorem DI.lift {X : Cx} {c : CT} {W : WX'} {w : Bool} {tg iter : Expr} {t : IT} (h : DI X c W w tg iter t) : PI X tg iter (liftI c W w t) :=
  ⟨fun pins s σ H R I ⟨G, ε, F, QD, EX, S, q, o, xo⟩ => let ⟨_, p, k⟩ := h.ex; p.run pins s σ H R I (k G H σ ε F QD EX R S q o xo)⟩
def lcIn (p : Pat) (vs : List Nat) (tt : TT') (te : ET) (K : List T → Env → Prop) : List D → List T → Env → Prop
  | [], acc, ε => K acc ε
  | d :: ds, acc, ε => ∃ ε1, p.bind d ε = some ε1 ∧ tt ε1 (fun b ε2 => (b = true → acc.length < sizeLine ∧ te ε2 (fun rv ε3 => ∃ t ε4, owns [rv] ε3 = some ([t], ε4) ∧ lcIn p vs tt te K ds (acc ++ [t]) (wipeE ε4 vs)) NoX) ∧ (b = false → lcIn p vs tt te K ds acc (wipeE ε2 vs))) NoX
def lcOut (p : Pat) (vs : List Nat) (tt : TT') (ti1 : IT) (p1 : Pat) (vs1 : List Nat) (tt1 : TT') (te : ET) (K : List T → Env → Prop) : List D → List T → Env → Prop
  | [], acc, ε => K acc ε
  | d :: ds, acc, ε => ∃ ε1, p.bind d ε = some ε1 ∧ tt ε1 (fun b ε2 => (b = true → ti1 ε2 (fun items1 ε3 => lcIn p1 vs1 tt1 te (fun acc' ε4 => lcOut p vs tt ti1 p1 vs1 tt1 te K ds acc' (wipeE ε4 vs)) items1 acc (wipeE ε3 vs1)) NoX) ∧ (b = false → lcOut p vs tt ti1 p1 vs1 tt1 te K ds acc (wipeE ε2 vs))) NoX
def tLcD2 (ti : IT) (p : Pat) (vs : List Nat) (tt : TT') (ti1 : IT) (p1 : Pat) (vs1 : List Nat) (tt1 : TT') (te : ET) : ET := fun ε Q EX => ti ε (fun items ε1 => lcOut p vs tt ti1 p1 vs1 tt1 te (fun acc ε2 => Q (.own (.lst acc)) (unwipe ε1 ε2 vs)) items [] (wipeE ε1 vs)) EX
section
variable {J : It} {n : Nat} {G : Hp → Prop} {Y : Nat → Hp → V → Hp → Prop}
/-- a turn after the other, in a block -/
theorem in_it (w : Walk J n G Y) {g : TG} {tt : TT} {te : TE} {vs : List Nat} {σ : L2.St} {H1 : Hp} {D : Addr} {Qd : Hp → Prop} (Pv : Nat → Hp → Prop) (h0 : Pv 0 H1) (hG : ∀ i H, i ≤ n → Pv i H → G H)
    (hs : ∀ i x H H', i < n → Pv i H → Y i H x H' → g x (wipe σ vs) H' fun σ2 H2 => wipe σ2 vs = wipe σ vs ∧ tt σ2 H2 fun b H3 => if b = true then te σ2 H3 fun y H4 => ∃ acc, H4 D = some (.lst acc) ∧ acc.length < sizeLine ∧ Pv (i + 1) (upd H4 D (.lst (acc ++ [y]))) else Pv (i + 1) H3) (hd : ∀ H, Pv n H → Qd H) :
    ∃ W1 : Nat → Nat → Hp → Prop, (∃ m, W1 0 m H1) ∧ ∀ j k H, W1 j k H → (J.stop j H ∧ Qd H) ∨ (J.go j H ∧ ∃ Nx1 : Hp → Prop, (∀ H', Nx1 H' → ∃ k', k' < k ∧ W1 (j + 1) k' H') ∧ ∀ x H', J.yld j H x H' → g x (wipe σ vs) H' fun σ3 H5 => wipe σ3 vs = wipe σ vs ∧ tt σ3 H5 fun b H6 =>
        if b = true then te σ3 H6 fun y H7 => ∃ acc, H7 D = some (.lst acc) ∧ acc.length < sizeLine ∧ Nx1 (upd H7 D (.lst (acc ++ [y]))) else Nx1 H6) := by
  refine ⟨fun i m H => (m = n - i ∧ i ≤ n) ∧ Pv i H, ⟨n, ⟨by simp, Nat.zero_le _⟩, h0⟩, ?_⟩
  rintro i m H ⟨⟨rfl, hi⟩, p⟩
  have q := hG i H hi p
  rcases Nat.lt_or_ge i n with hlt | hge
  · exact .inr ⟨w.goes i H hlt q, fun H' => Pv (i + 1) H', fun H' p' => ⟨n - (i + 1), by omega, ⟨rfl, hlt⟩, p'⟩, fun x H' y => hs i x H H' hlt p (w.yields i H x H' hlt q y)⟩
  · obtain rfl : i = n := by omega
    exact .inl ⟨w.stops H q, hd H p⟩
end
section
variable {X : Cx} {c : CT} {W : WX'} {wi wt wj wu we : Bool} {tg iter tg1 iter1 elt : Expr} {ifs ifs1 : List Expr} {scope : Scope} {own : List (Str × Nat)} {vs1 : List Nat} {pos : Pos} {ti ti1 : IT} {p p1 : Pat} {tt tt1 : TT'} {te : ET}
theorem wipe_wipe {σ : L2.St} {vs vs1 : List Nat} (h : ∀ i ∈ vs1, i ∈ vs) : wipe (wipe σ vs1) vs = wipe σ vs := by
  refine wipe_same (wipe_length _ _) fun i hi => ?_
  rw [wipe_get, if_neg fun z => hi (h i z)]
theorem lc2_read {G H : Hp} {σ : L2.St} {ε : Env} {F : FS} {Q : EQ} {EX : EXN} {QH : VK} {wiI : TI} {vs : List Nat} (hp : PFree c vs) (hsl : ∀ i ∈ p.slots, i ∈ vs) (hsl1 : ∀ i ∈ p1.slots, i ∈ vs1) (hv : ∀ i ∈ vs1, i ∈ vs)
    (ki : ∀ (G H : Hp) (σ : L2.St) (ε : Env) (F : FS) (Q : List D → Env → Prop) (EX : EXN) (R : It → Hp → Prop), Sat c G H σ ε F → ti ε Q EX → (∀ items ε' J G' H' F', Q items ε' → Step wi G H F G' H' F' → Sat c G' H' σ ε' F' → WalkD c J items G' → R J H') → XOut c G H F σ EX W → wiI σ H R)
    (S : Sat c G H σ ε F) (h : tLcD2 ti p vs tt ti1 p1 vs1 tt1 te ε Q EX) (o : Out c (wi || (wt || (wj || (wu || we)))) G H σ F Q QH) (xo : XOut c G H F σ EX W) :
    tLc2 wiI (liftG c p) (liftT c NoW wt tt) (liftI c NoW wj ti1) (liftG c p1) (liftT c NoW wu tt1) (liftE c NoW we te) vs vs1 σ H QH := by
  have hp1 : PFree c vs1 := fun i hi => hp i (hv i hi)
  refine ki G H σ ε F _ EX _ S h (fun items ε1 J G1 H1 F1 q s1 S1 wk D hD => ?_) xo
  obtain ⟨Fb, b1, Sb, back⟩ := S1.wipe hp
  have fbD : ¬ Fb D := fun z => by
    obtain ⟨u, e⟩ := Sb.fd D z
    rw [hD] at e; cases e
  have hG1 : G1 D = none := S1.gh.no hD
  let w := (wt || (wj || (wu || we)))
  have ww : w = (wt || (wj || (wu || we))) := rfl
  let KK : List T → Env → Prop := fun acc ε2 => Q (.own (.lst acc)) (unwipe ε1 ε2 vs)
  let Pv : Nat → Hp → Prop := fun i H' => ∃ G' ε' F' acc vacc Fa, LcInv c w G1 H1 Fb D (wipe σ vs) G' H' ε' F' acc vacc Fa ∧ lcOut p vs tt ti1 p1 vs1 tt1 te KK (items.drop i) acc ε'
  have p0 : Pv 0 (upd H1 D (.lst [])) := ⟨G1, wipeE ε1 vs, Fb, [], [], eNo, ⟨(Step.growH hD).mono (fun z => nomatch z), Sb.growH hD, upd_same, (show RTs c G1 (upd H1 D (.lst [])) [] [] eNo by simp only [RTs]), fun _ z => False.elim z, fun _ z => False.elim z, fun _ z => False.elim z, fun _ z => False.elim z, fbD, fun z => z, hG1⟩, q⟩
  have pd : ∀ H', Pv items.length H' → QH (.ref D) H' := by
    rintro H' ⟨G', ε', F', acc, vacc, Fa, L, q2⟩
    rw [List.drop_length] at q2
    obtain ⟨F'', S'', f''⟩ := back _ G' H' ε' F' L.st L.S
    have apart : ∀ a, F1 a → ¬ Fb a → Fa a → False := fun a q1 q2 z => by
      rcases L.n a z with k | k
      · exact q2 k
      · obtain ⟨o, e⟩ := S1.fd a q1
        rw [e] at k; cases k
    have sF : Step w G1 H1 F1 G' H' F'' := ⟨L.st.g, fun a o e k => L.st.h a o e fun z q => k z (b1 a q), fun a o e => by
      rcases L.st.n a o e with z | z | z
      · exact .inl z
      · exact .inr (.inl z)
      · exact .inr (.inr (b1 a z)), fun a z => by
      rcases f'' a z with z | ⟨z, _⟩
      · rcases L.st.f a z with z | z
        · exact .inl (b1 a z)
        · exact .inr z
      · exact .inl z⟩
    refine o _ _ (.ref D) G' H' F'' (fun a => a = D ∨ Fa a) q2 (s1.trans sF) S'' ?_ ⟨?_, ?_, ?_, ?_⟩
    · simp only [RV, RT]
      exact ⟨D, vacc, Fa, rfl, L.at_, .inl rfl, L.na, fun b z => .inr z, L.acc⟩
    · rintro a (rfl | z) z2
      · rcases f'' a z2 with k | ⟨k, _⟩
        · exact L.nf k
        · obtain ⟨o, e⟩ := S1.fd a k
          rw [hD] at e; cases e
      · rcases f'' a z2 with k | ⟨k, k2⟩
        · exact L.dj a z k
        · exact apart a k k2 z
    · rintro a (rfl | z)
      · exact L.ng
      · exact L.g a z
    · rintro a (rfl | z)
      · exact ⟨_, L.at_⟩
      · exact L.fd a z
    · rintro a (rfl | z)
      · rcases s1.no hD with k | k
        · exact .inr k
        · exact .inl k
      · rcases L.n a z with k | k
        · exact s1.f a (b1 a k)
        · rcases s1.no k with k | k
          · exact .inr k
          · exact .inl k
  refine ⟨fun i m H' => (m = items.length - i ∧ i ≤ items.length) ∧ Pv i H', ⟨items.length, ⟨by simp, Nat.zero_le _⟩, p0⟩, ?_⟩
  rintro i m H2 ⟨⟨rfl, hi⟩, pv⟩
  have hG : Sub G1 H2 := by
    obtain ⟨G', ε', F', acc, vacc, Fa, L, _⟩ := pv
    exact L.st.g.trans L.S.gh
  rcases Nat.lt_or_ge i items.length with hlt | hge
  · refine .inr ⟨wk.goes i H2 hlt hG, fun H' => Pv (i + 1) H', fun H' p' => ⟨items.length - (i + 1), by omega, ⟨rfl, hlt⟩, p'⟩, fun x H3 y => ?_⟩
    obtain ⟨G', ε', F', acc, vacc, Fa, L, q2⟩ := pv
    obtain ⟨G3, d, y1, y2, y3, y4, y5, y6⟩ := wk.yields i H2 x H3 hlt hG y G' L.st.g L.S.gh
    have hd : items.drop i = d :: items.drop (i + 1) := by
      obtain ⟨hl, e⟩ := List.getElem?_eq_some_iff.mp y5
      rw [List.drop_eq_getElem_cons hl, e]
    rw [hd] at q2
    refine lc_bind hsl L y1 y2 y3 y4 y6 q2 fun σ4 ε3 F4 L4 hw4 q3 => ?_
    refine ⟨G3, ε3, F4, _, NoX, L4.S, q3, fun b ε5 G5 H5 F5 ⟨qt, qf⟩ st5 S5 => ?_, xout_no⟩
    have L5 := L4.step st5 (fun z => by rw [ww, z]; rfl) S5
    cases b with
    | false =>
      dsimp only
      rw [if_neg (by decide)]
      obtain ⟨F7, L7⟩ := lc_rew hp hw4 L5
      exact ⟨G5, _, F7, acc, vacc, Fa, L7, qf rfl⟩
    | true =>
      dsimp only
      rw [if_pos rfl]
      refine ⟨G5, ε5, F5, _, NoX, S5, qt rfl, fun items1 ε6 J1 G6 H6 F6 q6 st6 S6 wk1 => ?_, xout_no⟩
      have L6 := L5.step st6 (fun z => by rw [ww, z]; cases wt <;> rfl) S6
      obtain ⟨F7, L7⟩ := lc_rew (σb := σ4) hp1 rfl L6
      refine in_it wk1 (fun j H' => ∃ G' ε' F' acc vacc Fa, LcInv c w G1 H1 Fb D (wipe σ4 vs1) G' H' ε' F' acc vacc Fa ∧ Sub G6 G' ∧ lcIn p1 vs1 tt1 te (fun acc' ε4 => lcOut p vs tt ti1 p1 vs1 tt1 te KK (items.drop (i + 1)) acc' (wipeE ε4 vs)) (items1.drop j) acc ε') ⟨G6, _, F7, acc, vacc, Fa, L7, Sub.refl _, q6⟩ (fun j H' _ ⟨G', ε', F', acc, vacc, Fa, L, g6, _⟩ => g6.trans L.S.gh) ?_ ?_
      · rintro j x H2 H3 hj ⟨G', ε', F', acc, vacc, Fa, L, g6, q7⟩ y
        obtain ⟨G3, d, y1, y2, y3, y4, y5, y6⟩ := y G' g6 L.S.gh
        have hd : items1.drop j = d :: items1.drop (j + 1) := by
          obtain ⟨hl, e⟩ := List.getElem?_eq_some_iff.mp y5
          rw [List.drop_eq_getElem_cons hl, e]
        rw [hd] at q7
        refine lc_bind hsl1 L y1 y2 y3 y4 y6 q7 fun σ5 ε3 F4 L4 hw5 q3 => ?_
        refine ⟨G3, ε3, F4, _, NoX, L4.S, q3, fun b ε5 G5 H5 F5 ⟨qt, qf⟩ st5 S5 => ?_, xout_no⟩
        have L5 := L4.step st5 (fun z => by rw [ww, z]; cases wt <;> cases wj <;> rfl) S5
        cases b with
        | false =>
          dsimp only
          rw [if_neg (by decide)]
          obtain ⟨F7, L7⟩ := lc_rew hp1 hw5 L5
          exact ⟨G5, _, F7, acc, vacc, Fa, L7, g6.trans (y1.trans st5.g), qf rfl⟩
        | true =>
          dsimp only
          rw [if_pos rfl]
          obtain ⟨hlen, qt⟩ := qt rfl
          refine ⟨G5, ε5, F5, _, NoX, S5, qt, fun rv ε6 y G7 H7 F7 Ft ⟨t, ε7, e7, q8⟩ st7 S7 rv7 t7 => ?_, xout_no⟩
          obtain ⟨a7, G8, F8, Fa', L8, g8⟩ := lc_put L5 st7 (fun z => by rw [ww, z]; cases wt <;> cases wj <;> cases wu <;> rfl) S7 rv7 t7 e7 hD
          refine ⟨vacc, a7, by rw [← L5.acc.len]; exact hlen, ?_⟩
          obtain ⟨F9, L9⟩ := lc_rew hp1 hw5 L8
          exact ⟨G8, _, F9, _, _, _, L9, g6.trans (y1.trans (st5.g.trans (st7.g.trans g8))), q8⟩
      · rintro H' ⟨G', ε', F', acc, vacc, Fa, L, g6, q7⟩
        rw [List.drop_length] at q7
        obtain ⟨F9, L9⟩ := lc_rew (σb := σ) hp ((wipe_wipe hv).trans hw4) L
        exact ⟨G', _, F9, acc, vacc, Fa, L9, q7⟩
  · obtain rfl : i = items.length := by omega
    exact .inl ⟨wk.stops H2 hG, pd H2 pv⟩
theorem de_lc2 (hc : X.calm = true) (hN : X.N.Nodup) (hp : PFree c (own.map (·.2))) (hsl : ∀ i ∈ p.slots, i ∈ own.map (·.2)) (hsl1 : ∀ i ∈ p1.slots, i ∈ vs1) (hv : ∀ i ∈ vs1, i ∈ own.map (·.2)) (hi : DI X c W wi tg iter ti) (ok : BlkOk X.N X.env.scope scope own)
    (hg : ∀ (s : Shared) (H : Hp) (C : Addr) (cl : List (Str × Addr)) (fp : List Addr), DG (X.blk s H scope (compEnvC scope cl C X.env) fp) c p tg) (ht : ∀ (s : Shared) (H : Hp) (C : Addr) (cl : List (Str × Addr)) (fp : List Addr), DTs (X.blk s H scope (compEnvC scope cl C X.env) fp) c NoW wt ifs tt)
    (hj : ∀ (s : Shared) (H : Hp) (C : Addr) (cl : List (Str × Addr)) (fp : List Addr), DI (X.blk s H scope (compEnvC scope cl C X.env) fp) c NoW wj tg1 iter1 ti1)
    (hg1 : ∀ (s : Shared) (H : Hp) (C : Addr) (cl : List (Str × Addr)) (fp : List Addr), DG (X.blk s H scope (compEnvC scope cl C X.env) fp) c p1 tg1) (ht1 : ∀ (s : Shared) (H : Hp) (C : Addr) (cl : List (Str × Addr)) (fp : List Addr), DTs (X.blk s H scope (compEnvC scope cl C X.env) fp) c NoW wu ifs1 tt1)
    (he : ∀ (s : Shared) (H : Hp) (C : Addr) (cl : List (Str × Addr)) (fp : List Addr), DE (X.blk s H scope (compEnvC scope cl C X.env) fp) c NoW we elt te) (hs : ∀ x, foldedSetIterable iter X.env x = pure x := by intro _; rfl) (hs1 : ∀ env x, foldedSetIterable iter1 env x = pure x := by intro _ _; rfl) :
    DE X c W (wi || (wt || (wj || (wu || we)))) (.ListComp elt [⟨tg, iter, ifs, 0⟩, ⟨tg1, iter1, ifs1, 0⟩] scope pos) (tLcD2 ti p (own.map (·.2)) tt ti1 p1 vs1 tt1 te) := by
  obtain ⟨wiI, pi, ki⟩ := hi.ex
  exact ⟨_, pe_lc2 hc hN pi ok hv (fun s H C cl fp => (hg s H C cl fp).lift) (fun s H C cl fp => (ht s H C cl fp).lift) (fun s H C cl fp => (hj s H C cl fp).lift) (fun s H C cl fp => (hg1 s H C cl fp).lift) (fun s H C cl fp => (ht1 s H C cl fp).lift) (fun s H C cl fp => (he s H C cl fp).lift) hs hs1, fun G H σ ε F Q EX QH S h o xo => lc2_read hp hsl hsl1 hv ki S h o xo⟩
end
end DL

namespace DL
open PySem PySem.Spec L2
open PyProof.Rows

/-! ### data that may be shown and compared -/
mutual
/-- depth at most k, no number of a thousand bits, texts of code points -/
def D.nc : Nat → D → Bool
  | _, .non => true
  | _, .bl _ => true
  | _, .int i => decide (i.natAbs.log2 < 1900)
  | _, .str x => PyData.strOk x
  | k + 1, .tup ds => D.ncs k ds
  | k + 1, .lst ds => D.ncs k ds
  | _, .dic [] [] => true
  | _, _ => false
def D.ncs : Nat → List D → Bool
  | _, [] => true
  | k, d :: ds => D.nc k d && D.ncs k ds
end
mutual
/-- no less than the number of signs when it is shown -/
def D.wt : D → Nat
  | .non => 4
  | .bl _ => 5
  | .int i => i.natAbs.log2 + 2
  | .str x => 10 * x.length + 2
  | .tup ds => D.wts ds + 3
  | .lst ds => D.wts ds + 2
  | .dic _ _ => 2
  | .obj _ _ _ => 0
  | .scr _ => 0
def D.wts : List D → Nat
  | [] => 0
  | d :: ds => D.wt d + 2 + D.wts ds
end
mutual
/-- no dict in it -/
def D.nd : D → Bool
  | .tup ds => D.nds ds
  | .lst ds => D.nds ds
  | .dic _ _ => false
  | _ => true
def D.nds : List D → Bool
  | [] => true
  | d :: ds => D.nd d && D.nds ds
end
theorem D.ncs_mem {k : Nat} : ∀ {ds : List D}, D.ncs k ds = true ↔ ∀ d ∈ ds, d.nc k = true
  | [] => by simp [D.ncs]
  | d :: ds => by simp [D.ncs, D.ncs_mem (ds := ds)]
theorem D.nds_mem : ∀ {ds : List D}, D.nds ds = true ↔ ∀ d ∈ ds, d.nd = true
  | [] => by simp [D.nds]
  | d :: ds => by simp [D.nds, D.nds_mem (ds := ds)]
theorem D.wts_le {m : Nat} : ∀ {ds : List D}, (∀ d ∈ ds, d.wt ≤ m) → D.wts ds ≤ ds.length * (m + 2)
  | [], _ => by simp [D.wts]
  | d :: ds, h => by
    have h1 := h d (by simp)
    have h2 := D.wts_le (ds := ds) fun e he => h e (by simp [he])
    simp only [D.wts, List.length_cons, Nat.succ_mul]
    omega
mutual
theorem D.nc_py : ∀ (k : Nat) (d : D), d.nc k = true → d.py = true
  | _, .non, _ => rfl
  | _, .bl _, _ => rfl
  | _, .int _, _ => rfl
  | _, .str _, _ => rfl
  | 0, .tup ds, h => by simp [D.nc] at h
  | k + 1, .tup ds, h => by simp only [D.py]; exact D.ncs_pys k ds (by simpa [D.nc] using h)
  | 0, .lst ds, h => by simp [D.nc] at h
  | k + 1, .lst ds, h => by simp only [D.py]; exact D.ncs_pys k ds (by simpa [D.nc] using h)
  | k, .dic ks vs, h => by
    cases ks <;> cases vs <;> cases k <;> first | rfl | simp [D.nc] at h
  | k, .obj _ _ _, h => by cases k <;> simp [D.nc] at h
  | k, .scr _, h => by cases k <;> simp [D.nc] at h
theorem D.ncs_pys : ∀ (k : Nat) (ds : List D), D.ncs k ds = true → D.pys ds = true
  | _, [], _ => rfl
  | k, d :: ds, h => by
    simp only [D.ncs, Bool.and_eq_true] at h
    simp only [D.pys, D.nc_py k d h.1, D.ncs_pys k ds h.2, Bool.and_self]
end
mutual
theorem D.nc_depth : ∀ (k : Nat) (d : D), d.nc k = true → d.pd.depth ≤ k + 1
  | _, .non, _ => by simp [D.pd, PyData.depth]
  | _, .bl _, _ => by simp [D.pd, PyData.depth]
  | _, .int _, _ => by simp [D.pd, PyData.depth]
  | _, .str _, _ => by simp [D.pd, PyData.depth]
  | 0, .tup ds, h => by simp [D.nc] at h
  | k + 1, .tup ds, h => by simp only [D.pd, PyData.depth]; exact Nat.succ_le_succ (D.ncs_depth k ds (by simpa [D.nc] using h))
  | 0, .lst ds, h => by simp [D.nc] at h
  | k + 1, .lst ds, h => by simp only [D.pd, PyData.depth]; exact Nat.succ_le_succ (D.ncs_depth k ds (by simpa [D.nc] using h))
  | k, .dic ks vs, h => by simp [D.pd, PyData.depth, PyData.depthKv]
  | k, .obj _ _ _, h => by simp [D.pd, PyData.depth]
  | k, .scr _, h => by cases k <;> simp [D.nc] at h
theorem D.ncs_depth : ∀ (k : Nat) (ds : List D), D.ncs k ds = true → PyData.depthAll (D.pds ds) ≤ k + 1
  | _, [], _ => by simp [D.pds, PyData.depthAll]
  | k, d :: ds, h => by
    simp only [D.ncs, Bool.and_eq_true] at h
    simp only [D.pds, PyData.depthAll]
    exact Nat.max_le.mpr ⟨D.nc_depth k d h.1, D.ncs_depth k ds h.2⟩
end
mutual
theorem D.nc_lay : ∀ (k : Nat) (d : D), d.nc k = true → d.nd = true → d.pd.canLay0 = true
  | _, .non, _, _ => by simp [D.pd, PyData.canLay0]
  | _, .bl _, _, _ => by simp [D.pd, PyData.canLay0]
  | _, .int _, _, _ => by simp [D.pd, PyData.canLay0]
  | k, .str _, h, _ => by simp only [D.pd, PyData.canLay0]; cases k <;> simpa [D.nc] using h
  | 0, .tup ds, h, _ => by simp [D.nc] at h
  | k + 1, .tup ds, h, n => by simp only [D.pd, PyData.canLay0]; exact D.ncs_lay k ds (by simpa [D.nc] using h) (by simpa [D.nd] using n)
  | 0, .lst ds, h, _ => by simp [D.nc] at h
  | k + 1, .lst ds, h, n => by simp only [D.pd, PyData.canLay0]; exact D.ncs_lay k ds (by simpa [D.nc] using h) (by simpa [D.nd] using n)
  | k, .dic ks vs, h, n => by simp [D.nd] at n
  | k, .obj _ _ _, h, _ => by simp [D.pd, PyData.canLay0]
  | k, .scr _, h, _ => by cases k <;> simp [D.nc] at h
theorem D.ncs_lay : ∀ (k : Nat) (ds : List D), D.ncs k ds = true → D.nds ds = true → PyData.canLayAll0 (D.pds ds) = true
  | _, [], _, _ => by simp [D.pds, PyData.canLayAll0]
  | k, d :: ds, h, n => by
    simp only [D.ncs, Bool.and_eq_true] at h
    simp only [D.nds, Bool.and_eq_true] at n
    simp only [D.pds, PyData.canLayAll0, D.nc_lay k d h.1 n.1, D.ncs_lay k ds h.2 n.2, Bool.and_self]
end
theorem D.nc_eqOk {k : Nat} {d : D} (h : d.nc k = true) (n : d.nd = true) (hk : k ≤ 50 := by decide) : d.eqOk :=
  ⟨D.nc_py k d h, by unfold SeqAt.shaped; rw [D.nc_lay k d h n, Bool.true_and]; exact decide_eq_true (by have := D.nc_depth k d h; omega)⟩
mutual
theorem D.nc_show : ∀ (k : Nat) (d : D), d.nc k = true → d.pd.showable = true
  | _, .non, _ => by simp [D.pd, PyData.showable]
  | _, .bl _, _ => by simp [D.pd, PyData.showable]
  | k, .int i, h => by
    have h : i.natAbs.log2 < 1900 := by cases k <;> simpa [D.nc] using h
    simp only [D.pd, PyData.showable]
    exact decide_eq_true (by omega)
  | k, .str _, h => by simp [D.pd, PyData.showable]
  | 0, .tup ds, h => by simp [D.nc] at h
  | k + 1, .tup ds, h => by simp only [D.pd, PyData.showable]; exact D.ncs_show k ds (by simpa [D.nc] using h)
  | 0, .lst ds, h => by simp [D.nc] at h
  | k + 1, .lst ds, h => by simp only [D.pd, PyData.showable]; exact D.ncs_show k ds (by simpa [D.nc] using h)
  | k, .dic ks vs, h => by simp [D.pd, PyData.showable, PyData.showableKv]
  | k, .obj _ _ _, h => by simp [D.pd, PyData.showable]
  | k, .scr _, h => by cases k <;> simp [D.nc] at h
theorem D.ncs_show : ∀ (k : Nat) (ds : List D), D.ncs k ds = true → PyData.showableAll (D.pds ds) = true
  | _, [], _ => by simp [D.pds, PyData.showableAll]
  | k, d :: ds, h => by
    simp only [D.ncs, Bool.and_eq_true] at h
    simp only [D.pds, PyData.showableAll, D.nc_show k d h.1, D.ncs_show k ds h.2, Bool.and_self]
end
theorem textFrom_le : ∀ (ts : List Str) (k : Nat) (acc : Str), (textFrom k acc ts).length ≤ acc.length + piled ts
  | [], k, acc => by simp [textFrom, piled]
  | t :: r, k, acc => by
    have ih := textFrom_le r (k + 1) (acc ++ (if k > 0 then ", " else "" : String) ++ t)
    have e : (acc ++ (if k > 0 then ", " else "" : String) ++ t).length = acc.length + (if k > 0 then 2 else 0) + t.length := by
      rw [strLen_append, strLen_append]
      split <;> rfl
    rw [e] at ih
    have e2 : (if k > 0 then 2 else 0) ≤ 2 := by split <;> omega
    rw [piled_cons]
    show (textFrom (k + 1) _ r).length ≤ _
    omega
theorem listText_le (ts : List Str) : (listText ts).length ≤ piled ts + 2 := by
  unfold listText
  rw [strLen_append]
  have := textFrom_le ts 0 ("[" : String)
  have e1 : (("[" : String) : Str).length = 1 := rfl
  have e2 : (("]" : String) : Str).length = 1 := rfl
  omega
theorem tupleText_le (ts : List Str) : (tupleText ts).length ≤ piled ts + 3 := by
  unfold tupleText
  rw [strLen_append, strLen_append]
  have e1 : (("(" : String) : Str).length = 1 := rfl
  have h2 : (Str.join ", " ts).length ≤ piled ts := by
    cases ts with
    | nil => simp [Str.join, piled, Str.length, Str.empty]
    | cons t r =>
      have := join_length_add (t :: r) (by simp)
      omega
  have e3 : ((if ts.length == 1 then ",)" else ")" : String) : Str).length ≤ 2 := by split <;> decide
  omega
mutual
theorem D.shown_le : ∀ (k : Nat) (d : D), d.nc k = true → d.pd.shown.length ≤ d.wt
  | _, .non, _ => by simp only [D.pd, PyData.shown, D.wt]; decide
  | _, .bl b, _ => by simp only [D.pd, PyData.shown, D.wt]; cases b <;> decide
  | k, .int i, h => by
    simp only [D.pd, PyData.shown, D.wt]
    have := int_text_length_le (a := i) (k := i.natAbs.log2 + 1) (by omega) (by omega)
    rw [PySem.ofString_length]
    exact this
  | k, .str x, h => by
    simp only [D.pd, PyData.shown, D.wt]
    have h : PyData.strOk x = true := by cases k <;> simpa [D.nc] using h
    refine StrLaws.reprText_len x fun c hc => ?_
    unfold PyData.strOk at h
    have := Array.all_eq_true_iff_forall_mem.mp h c (by simpa using hc)
    have h3 : c < 0x110000 := of_decide_eq_true this
    omega
  | 0, .tup ds, h => by simp [D.nc] at h
  | k + 1, .tup ds, h => by
    simp only [D.pd, PyData.shown, D.wt]
    exact Nat.le_trans (tupleText_le _) (Nat.add_le_add_right (D.showns_le k ds (by simpa [D.nc] using h)) 3)
  | 0, .lst ds, h => by simp [D.nc] at h
  | k + 1, .lst ds, h => by
    simp only [D.pd, PyData.shown, D.wt]
    exact Nat.le_trans (listText_le _) (Nat.add_le_add_right (D.showns_le k ds (by simpa [D.nc] using h)) 2)
  | k, .dic ks vs, h => by simp only [D.pd, PyData.shown, PyData.shownKv, D.wt]; decide
  | k, .obj _ _ _, h => by cases k <;> simp [D.nc] at h
  | k, .scr _, h => by cases k <;> simp [D.nc] at h
theorem D.showns_le : ∀ (k : Nat) (ds : List D), D.ncs k ds = true → piled (PyData.shownAll (D.pds ds)) ≤ D.wts ds
  | _, [], _ => by simp [D.pds, PyData.shownAll, D.wts, piled]
  | k, d :: ds, h => by
    simp only [D.ncs, Bool.and_eq_true] at h
    simp only [D.pds, PyData.shownAll, D.wts, piled_cons]
    have h1 := D.shown_le k d h.1
    have h2 := D.showns_le k ds h.2
    omega
end
theorem rrep_ok {k : Nat} {d : D} (h : d.nc k = true) (hw : d.wt ≤ 16000000) (hk : k ≤ 40 := by decide) : RRep [d] (.str d.pd.shown) := by
  refine ⟨D.nc_py k d h, D.nc_show k d h, ?_, ?_, rfl⟩
  · have := D.nc_depth k d h
    omega
  · have := D.shown_le k d h
    have e : sizeLine = 2 ^ 24 := rfl
    omega
mutual
theorem D.nc_up : ∀ (k : Nat) (d : D), d.nc k = true → d.nc (k + 1) = true
  | _, .non, _ => rfl
  | _, .bl _, _ => rfl
  | k, .int i, h => by cases k <;> simpa [D.nc] using h
  | k, .str x, h => by cases k <;> simpa [D.nc] using h
  | 0, .tup ds, h => by simp [D.nc] at h
  | k + 1, .tup ds, h => by
    simp only [D.nc] at h ⊢
    exact D.ncs_up k ds h
  | 0, .lst ds, h => by simp [D.nc] at h
  | k + 1, .lst ds, h => by
    simp only [D.nc] at h ⊢
    exact D.ncs_up k ds h
  | k, .dic ks vs, h => by
    cases ks <;> cases vs <;> cases k <;> first | rfl | simp [D.nc] at h
  | k, .obj _ _ _, h => by cases k <;> simp [D.nc] at h
  | k, .scr _, h => by cases k <;> simp [D.nc] at h
theorem D.ncs_up : ∀ (k : Nat) (ds : List D), D.ncs k ds = true → D.ncs (k + 1) ds = true
  | _, [], _ => rfl
  | k, d :: ds, h => by
    simp only [D.ncs, Bool.and_eq_true] at h ⊢
    exact ⟨D.nc_up k d h.1, D.ncs_up k ds h.2⟩
end
theorem D.nc_le {k l : Nat} {d : D} (h : d.nc k = true) (hl : k ≤ l) : d.nc l = true := by
  induction hl with
  | refl => exact h
  | step _ ih => exact D.nc_up _ _ ih
theorem nc_num {i : Int} {k : Nat} (h : i.natAbs < 2 ^ 200) : (D.int i).nc k = true := by
  have : i.natAbs.log2 < 1900 := by
    by_cases z : i.natAbs = 0
    · rw [z]; simp
    · have := (Nat.log2_lt z).mpr h
      omega
  cases k <;> exact decide_eq_true this
theorem wt_num {i : Int} (h : i.natAbs < 2 ^ 200) : (D.int i).wt ≤ 302 := by
  have : i.natAbs.log2 ≤ 300 := by
    by_cases z : i.natAbs = 0
    · rw [z]; simp
    · have := (Nat.log2_lt z).mpr h
      omega
  show i.natAbs.log2 + 2 ≤ 302
  omega
theorem cutL_mem {α : Type} {xs : List α} {lo hi : Option Int} {x : α} (h : x ∈ cutL xs lo hi) : x ∈ xs := List.mem_of_mem_drop (List.mem_of_mem_take h)
theorem cutL_len {α : Type} {xs : List α} {lo hi : Option Int} : (cutL xs lo hi).length ≤ xs.length := by
  unfold cutL
  rw [List.length_take, List.length_drop]
  omega
end DL

namespace DL
open PySem PySem.Spec L2
theorem at_0 {x : Option T} {r : Env} : Env.at (x :: r) 0 = x := rfl
theorem at_S {x : Option T} {r : Env} {n : Nat} : Env.at (x :: r) (n + 1) = Env.at r n := rfl
theorem set_0 {α : Type} {x y : α} {r : List α} : (x :: r).set 0 y = y :: r := rfl
theorem set_S {α : Type} {x y : α} {r : List α} {n : Nat} : (x :: r).set (n + 1) y = x :: r.set n y := rfl
theorem ex_and {α : Sort _} {p : Prop} {q : α → Prop} : (∃ x, p ∧ q x) ↔ p ∧ ∃ x, q x := ⟨fun ⟨x, h, k⟩ => ⟨h, x, k⟩, fun ⟨h, x, k⟩ => ⟨x, h, k⟩⟩
theorem ex_eq {α : Sort _} {a : α} {q : α → Prop} : (∃ x, a = x ∧ q x) ↔ q a := ⟨fun ⟨x, h, k⟩ => h ▸ k, fun k => ⟨a, rfl, k⟩⟩
theorem ex_eq' {α : Sort _} {a : α} {q : α → Prop} : (∃ x, x = a ∧ q x) ↔ q a := ⟨fun ⟨x, h, k⟩ => h ▸ k, fun k => ⟨a, rfl, k⟩⟩
theorem bool_split {b : Bool} {p q : Prop} : ((b = true → p) ∧ (b = false → q)) ↔ (if b = true then p else q) := by cases b <;> simp
theorem kit_NoneType_int : kitB "NoneType" "int" = some false := by decide +kernel
theorem kit_NoneType_bool : kitB "NoneType" "bool" = some false := by decide +kernel
theorem kit_NoneType_tuple : kitB "NoneType" "tuple" = some false := by decide +kernel
theorem kit_NoneType_list : kitB "NoneType" "list" = some false := by decide +kernel
theorem kit_NoneType_str : kitB "NoneType" "str" = some false := by decide +kernel
theorem kit_NoneType_dict : kitB "NoneType" "dict" = some false := by decide +kernel
theorem kit_bool_int : kitB "bool" "int" = some true := by decide +kernel
theorem kit_bool_bool : kitB "bool" "bool" = some true := by decide +kernel
theorem kit_bool_tuple : kitB "bool" "tuple" = some false := by decide +kernel
theorem kit_bool_list : kitB "bool" "list" = some false := by decide +kernel
theorem kit_bool_str : kitB "bool" "str" = some false := by decide +kernel
theorem kit_bool_dict : kitB "bool" "dict" = some false := by decide +kernel
theorem kit_int_int : kitB "int" "int" = some true := by decide +kernel
theorem kit_int_bool : kitB "int" "bool" = some false := by decide +kernel
theorem kit_int_tuple : kitB "int" "tuple" = some false := by decide +kernel
theorem kit_int_list : kitB "int" "list" = some false := by decide +kernel
theorem kit_int_str : kitB "int" "str" = some false := by decide +kernel
theorem kit_int_dict : kitB "int" "dict" = some false := by decide +kernel
theorem kit_str_int : kitB "str" "int" = some false := by decide +kernel
theorem kit_str_bool : kitB "str" "bool" = some false := by decide +kernel
theorem kit_str_tuple : kitB "str" "tuple" = some false := by decide +kernel
theorem kit_str_list : kitB "str" "list" = some false := by decide +kernel
theorem kit_str_str : kitB "str" "str" = some true := by decide +kernel
theorem kit_str_dict : kitB "str" "dict" = some false := by decide +kernel
theorem kit_tuple_int : kitB "tuple" "int" = some false := by decide +kernel
theorem kit_tuple_bool : kitB "tuple" "bool" = some false := by decide +kernel
theorem kit_tuple_tuple : kitB "tuple" "tuple" = some true := by decide +kernel
theorem kit_tuple_list : kitB "tuple" "list" = some false := by decide +kernel
theorem kit_tuple_str : kitB "tuple" "str" = some false := by decide +kernel
theorem kit_tuple_dict : kitB "tuple" "dict" = some false := by decide +kernel
theorem kit_list_int : kitB "list" "int" = some false := by decide +kernel
theorem kit_list_bool : kitB "list" "bool" = some false := by decide +kernel
theorem kit_list_tuple : kitB "list" "tuple" = some false := by decide +kernel
theorem kit_list_list : kitB "list" "list" = some true := by decide +kernel
theorem kit_list_str : kitB "list" "str" = some false := by decide +kernel
theorem kit_list_dict : kitB "list" "dict" = some false := by decide +kernel
theorem kit_dict_int : kitB "dict" "int" = some false := by decide +kernel
theorem kit_dict_bool : kitB "dict" "bool" = some false := by decide +kernel
theorem kit_dict_tuple : kitB "dict" "tuple" = some false := by decide +kernel
theorem kit_dict_list : kitB "dict" "list" = some false := by decide +kernel
theorem kit_dict_str : kitB "dict" "str" = some false := by decide +kernel
theorem kit_dict_dict : kitB "dict" "dict" = some true := by decide +kernel
/-! ### loops by an invariant -/
theorem forGo_ind {p : Pat} {g : ST'} {E : SEnds} {EX : EXN} (I : Nat → Env → Prop) {items : List D} {ε : Env} (h0 : I 0 ε) (hn : ∀ ε', I items.length ε' → E.nx ε')
    (h : ∀ (i : Nat) (d : D) (ε' : Env) (N : Env → Prop), items[i]? = some d → I i ε' → (∀ ε2, I (i + 1) ε2 → N ε2) → ∃ ε1, p.bind d ε' = some ε1 ∧ g { nx := N, ct := N, bk := E.nx, rt := E.rt } EX ε1) : forGo p g E EX items ε := by
  suffices gen : ∀ (n i : Nat) (ε : Env), n + i = items.length → I i ε → forGo p g E EX (items.drop i) ε by
    exact gen items.length 0 ε rfl h0
  intro n
  induction n with
  | zero =>
    intro i ε e hi
    obtain rfl : i = items.length := by omega
    rw [List.drop_length]
    exact hn ε hi
  | succ n ih =>
    intro i ε e hi
    have hl : i < items.length := by omega
    rw [List.drop_eq_getElem_cons hl]
    exact h i _ ε _ (List.getElem?_eq_getElem hl) hi fun ε2 h2 => ih (i + 1) ε2 (by omega) h2
/-- [f(x) for x in ..], the slots as they were -/
theorem lcGo_pure {p : Pat} {vs : List Nat} {te : ET} {K : List T → Env → Prop} {e0 : Env} (f : D → D) : ∀ {items : List D} {acc : List T}, (∀ d ∈ items, ∃ ε1, p.bind d e0 = some ε1 ∧ wipeE ε1 vs = e0 ∧ ∀ Q : EQ, Q (.d (f d)) ε1 → te ε1 Q NoX) →
    K (acc ++ items.map fun d => .fr (f d)) e0 → lcGo p vs tYs te K items acc e0
  | [], acc, h, k => by simpa only [lcGo, List.map_nil, List.append_nil] using k
  | d :: ds, acc, h, k => by
    obtain ⟨ε1, h1, h2, h3⟩ := h d (by simp)
    refine ⟨ε1, h1, fun _ => h3 _ ⟨.fr (f d), ε1, rfl, ?_⟩, fun z => nomatch z⟩
    rw [h2]
    exact lcGo_pure f (fun e he => h e (by simp [he])) (by simpa using k)
/-- .. if t(x) -/
theorem lcGo_filt {p : Pat} {vs : List Nat} {tt : TT'} {te : ET} {K : List T → Env → Prop} {e0 : Env} (t : D → Bool) (f : D → D) : ∀ {items : List D} {acc : List T}, (∀ d ∈ items, ∃ ε1, p.bind d e0 = some ε1 ∧ wipeE ε1 vs = e0 ∧ (∀ Q : Bool → Env → Prop, Q (t d) ε1 → tt ε1 Q NoX) ∧ ∀ Q : EQ, t d = true → Q (.d (f d)) ε1 → te ε1 Q NoX) →
    K (acc ++ (items.filter t).map fun d => .fr (f d)) e0 → lcGo p vs tt te K items acc e0
  | [], acc, h, k => by simpa only [lcGo, List.filter_nil, List.map_nil, List.append_nil] using k
  | d :: ds, acc, h, k => by
    obtain ⟨ε1, h1, h2, h3, h4⟩ := h d (by simp)
    refine ⟨ε1, h1, h3 _ ⟨fun e => h4 _ e ⟨.fr (f d), ε1, rfl, ?_⟩, fun e => ?_⟩⟩
    · rw [h2]
      exact lcGo_filt t f (fun e he => h e (by simp [he])) (by simpa [List.filter_cons, e] using k)
    · rw [h2]
      exact lcGo_filt t f (fun e he => h e (by simp [he])) (by simpa [List.filter_cons, e] using k)
theorem lcIn_pure {p : Pat} {vs : List Nat} {te : ET} {K : List T → Env → Prop} {e0 : Env} (f : D → D) : ∀ {items : List D} {acc : List T}, (∀ d ∈ items, ∃ ε1, p.bind d e0 = some ε1 ∧ wipeE ε1 vs = e0 ∧ ∀ Q : EQ, Q (.d (f d)) ε1 → te ε1 Q NoX) → acc.length + items.length ≤ sizeLine →
    K (acc ++ items.map fun d => .fr (f d)) e0 → lcIn p vs tYs te K items acc e0
  | [], acc, h, _, k => by simpa only [lcIn, List.map_nil, List.append_nil] using k
  | d :: ds, acc, h, hl, k => by
    obtain ⟨ε1, h1, h2, h3⟩ := h d (by simp)
    simp only [List.length_cons] at hl
    refine ⟨ε1, h1, fun _ => ⟨by omega, h3 _ ⟨.fr (f d), ε1, rfl, ?_⟩⟩, fun z => nomatch z⟩
    rw [h2]
    exact lcIn_pure f (fun e he => h e (by simp [he])) (by simp only [List.length_append, List.length_singleton]; omega) (by simpa using k)
theorem blsD_f {α : Type} (f : α → Bool) : ∀ xs : List α, blsD (xs.map fun x => .bl (f x)) = some (xs.map f)
  | [] => rfl
  | x :: xs => by simp only [List.map_cons, blsD, blsD_f f xs, Option.map_some]
theorem T.ds_map {α : Type} (f : α → D) : ∀ xs : List α, T.ds (xs.map fun x => .fr (f x)) = xs.map f
  | [] => rfl
  | x :: xs => by simp only [List.map_cons, T.ds, T.d, T.ds_map f xs]
/-! ### == -/
theorem eqC_ii {i j : Int} : EqC (.int i) (.int j) := .inr ⟨⟨rfl, rfl⟩, rfl, rfl⟩
theorem eqC_ss {x y : Str} : EqC (.str x) (.str y) := .inl ⟨x, y, rfl, rfl⟩
theorem eqC_nc {k l : Nat} {x y : D} (h : x.nc k = true) (n : x.nd = true) (h' : y.nc l = true) (n' : y.nd = true) (hk : k ≤ 50 := by decide) (hl : l ≤ 50 := by decide) : EqC x y := .inr ⟨D.nc_eqOk h n hk, D.nc_eqOk h' n' hl⟩
theorem eqv_ii {i j : Int} : (D.int i).eqv (.int j) = decide (i = j) := by
  unfold D.eqv
  simp only [D.pd, PyData.eqv]
  exact Bool.eq_iff_iff.mpr (by simp)
theorem eqv_ss {x y : Str} : (D.str x).eqv (.str y) = decide (x = y) := by
  unfold D.eqv
  simp only [D.pd, PyData.eqv]
  exact Bool.eq_iff_iff.mpr (by simp)
theorem eqv_t0 {ds : List D} : (D.tup ds).eqv (.tup []) = ds.isEmpty := by
  unfold D.eqv
  cases ds <;> simp [D.pd, D.pds, PyData.eqv, PyData.eqvAll]
theorem eqv_l0 {ds : List D} : (D.lst ds).eqv (.lst []) = ds.isEmpty := by
  unfold D.eqv
  cases ds <;> simp [D.pd, D.pds, PyData.eqv, PyData.eqvAll]
theorem strOk_of (s : String) : PyData.strOk (Str.ofString s) = true := by
  unfold PyData.strOk
  rw [Array.all_eq_true_iff_forall_mem]
  intro c hc
  rw [Str.ofString_eq_toList] at hc
  simp only [List.mem_toArray, List.mem_map] at hc
  obtain ⟨ch, _, rfl⟩ := hc
  have := ch.valid
  refine decide_eq_true ?_
  show ch.val.toNat < 1114112
  unfold UInt32.isValidChar Nat.isValidChar at this
  omega
end DL

namespace DL
open PySem PySem.Spec L2

/-! ### closed continuations: what hangs on them is not looked into -/
def B1 {α : Type} (_ : α) : Type := Unit
def B3 {α β γ : Type} (_ : α) (_ : β) (_ : γ) : Type := Unit
def goE (t : ET) (ε : Env) (Q : EQ) (EX : EXN) (_ : B3 t Q EX := ()) : Prop := t ε Q EX
def goT (t : TT') (ε : Env) (Q : Bool → Env → Prop) (EX : EXN) (_ : B3 t Q EX := ()) : Prop := t ε Q EX
def goA (t : AT) (ε : Env) (Q : List Rv → Env → Prop) (EX : EXN) (_ : B3 t Q EX := ()) : Prop := t ε Q EX
abbrev OT := Env → (Option Int → Env → Prop) → EXN → Prop
def goO (t : OT) (ε : Env) (Q : Option Int → Env → Prop) (EX : EXN) (_ : B3 t Q EX := ()) : Prop := t ε Q EX
def goI (t : IT) (ε : Env) (Q : List D → Env → Prop) (EX : EXN) (_ : B3 t Q EX := ()) : Prop := t ε Q EX
def goS (g : ST') (E : SEnds) (EX : EXN) (ε : Env) (_ : B3 g E EX := ()) : Prop := g E EX ε
theorem go_i {g : ST'} {E : SEnds} {EX : EXN} {ε : Env} (h : goS g E EX ε) : g E EX ε := h
def oM {α : Type} (o : Option α) (k : α → Prop) (_ : B1 k := ()) : Prop := ∃ a, o = some a ∧ k a
theorem oM_s {α : Type} {a : α} {k : α → Prop} : oM (some a) k = k a := propext ⟨fun ⟨_, e, h⟩ => by cases e; exact h, fun h => ⟨a, rfl, h⟩⟩
theorem oM_n {α : Type} {k : α → Prop} : oM (none : Option α) k = False := propext ⟨fun ⟨_, e, _⟩ => (nomatch e), fun h => h.elim⟩
theorem oM_i {α : Type} {o : Option α} {a : α} {k : α → Prop} (e : o = some a) (h : k a) : oM o k := ⟨a, e, h⟩
def iB (b : Bool) (p q : Prop) (_ : B1 p := ()) (_ : B1 q := ()) : Prop := (b = true → p) ∧ (b = false → q)
theorem iB_t {p q : Prop} : iB true p q = p := propext ⟨fun h => h.1 rfl, fun h => ⟨fun _ => h, fun z => nomatch z⟩⟩
theorem iB_f {p q : Prop} : iB false p q = q := propext ⟨fun h => h.2 rfl, fun h => ⟨fun z => (nomatch z), fun _ => h⟩⟩
theorem iB_i {b : Bool} {p q : Prop} (h : b = true → p) (k : b = false → q) : iB b p q := ⟨h, k⟩
def oB (r : Rv) (k : Bool → Prop) (_ : B1 k := ()) : Prop := ∃ b, r = .d (.bl b) ∧ k b
theorem oB_b {b : Bool} {k : Bool → Prop} : oB (.d (.bl b)) k = k b := propext ⟨fun ⟨_, e, h⟩ => by cases e; exact h, fun h => ⟨b, rfl, h⟩⟩
def zB (d : D) (k : Bool → Prop) (_ : B1 k := ()) : Prop := ∃ b, d = .bl b ∧ k b
theorem zB_b {b : Bool} {k : Bool → Prop} : zB (.bl b) k = k b := propext ⟨fun ⟨_, e, h⟩ => by cases e; exact h, fun h => ⟨b, rfl, h⟩⟩
def oI (d : D) (k : Int → Prop) (_ : B1 k := ()) : Prop := ∃ i, d = .int i ∧ k i
theorem oI_i {i : Int} {k : Int → Prop} : oI (.int i) k = k i := propext ⟨fun ⟨_, e, h⟩ => by cases e; exact h, fun h => ⟨i, rfl, h⟩⟩
def oL {α : Type} (l : List α) (k : α → Prop) (_ : B1 k := ()) : Prop := ∃ x, l = [x] ∧ k x
theorem oL_1 {α : Type} {x : α} {k : α → Prop} : oL [x] k = k x := propext ⟨fun ⟨_, e, h⟩ => by cases e; exact h, fun h => ⟨x, rfl, h⟩⟩
def dL (d : D) (k : List D → Prop) (_ : B1 k := ()) : Prop := ∃ ds, d = .lst ds ∧ k ds
theorem dL_l {ds : List D} {k : List D → Prop} : dL (.lst ds) k = k ds := propext ⟨fun ⟨_, e, h⟩ => by cases e; exact h, fun h => ⟨ds, rfl, h⟩⟩
def dT (d : D) (k : List D → Prop) (_ : B1 k := ()) : Prop := ∃ ds, d = .tup ds ∧ k ds
theorem dT_t {ds : List D} {k : List D → Prop} : dT (.tup ds) k = k ds := propext ⟨fun ⟨_, e, h⟩ => by cases e; exact h, fun h => ⟨ds, rfl, h⟩⟩
def sL (s : Sq) (k : List D → Prop) (_ : B1 k := ()) : Prop := ∃ ds, s = .l ds ∧ k ds
theorem sL_l {ds : List D} {k : List D → Prop} : sL (.l ds) k = k ds := propext ⟨fun ⟨_, e, h⟩ => by cases e; exact h, fun h => ⟨ds, rfl, h⟩⟩
def isAt (r : Rv) : Prop := ∃ i p, r = .at i p
theorem isAt_a {i : Nat} {p : List Nat} : isAt (.at i p) = True := propext ⟨fun _ => trivial, fun _ => ⟨i, p, rfl⟩⟩
def rV1 (R : D → D → Prop) (x : D) (k : D → Prop) (_ : B1 k := ()) : Prop := ∃ d, R x d ∧ k d
def rV2 (R : D → D → D → Prop) (x y : D) (k : D → Prop) (_ : B1 k := ()) : Prop := ∃ d, R x y d ∧ k d
def rVL (R : List D → D → Prop) (x : List D) (k : D → Prop) (_ : B1 k := ()) : Prop := ∃ d, R x d ∧ k d
theorem rV1_e {R : D → D → Prop} {x d : D} {k : D → Prop} (h : ∀ z, R x z ↔ z = d) : rV1 R x k = k d := propext ⟨fun ⟨z, e, q⟩ => by rw [← (h z).mp e]; exact q, fun q => ⟨d, (h d).mpr rfl, q⟩⟩
theorem rV2_e {R : D → D → D → Prop} {x y d : D} {k : D → Prop} (h : ∀ z, R x y z ↔ z = d) : rV2 R x y k = k d := propext ⟨fun ⟨z, e, q⟩ => by rw [← (h z).mp e]; exact q, fun q => ⟨d, (h d).mpr rfl, q⟩⟩
theorem rV2_ec {R : D → D → D → Prop} {c : Prop} {x y d : D} {k : D → Prop} (h : ∀ z, R x y z ↔ c ∧ z = d) : rV2 R x y k = (c ∧ k d) := propext ⟨fun ⟨z, e, q⟩ => by rw [← ((h z).mp e).2]; exact ⟨((h z).mp e).1, q⟩, fun q => ⟨d, (h d).mpr ⟨q.1, rfl⟩, q.2⟩⟩
theorem rVL_e {R : List D → D → Prop} {x : List D} {d : D} {k : D → Prop} (h : ∀ z, R x z ↔ z = d) : rVL R x k = k d := propext ⟨fun ⟨z, e, q⟩ => by rw [← (h z).mp e]; exact q, fun q => ⟨d, (h d).mpr rfl, q⟩⟩
theorem rVL_ec {R : List D → D → Prop} {c : Prop} {x : List D} {d : D} {k : D → Prop} (h : ∀ z, R x z ↔ c ∧ z = d) : rVL R x k = (c ∧ k d) := propext ⟨fun ⟨z, e, q⟩ => by rw [← ((h z).mp e).2]; exact ⟨((h z).mp e).1, q⟩, fun q => ⟨d, (h d).mpr ⟨q.1, rfl⟩, q.2⟩⟩
theorem r2_I {g : Int → Int → D} {i j : Int} {k : D → Prop} : rV2 (RI2 g) (.int i) (.int j) k = k (g i j) := rV2_e fun _ => Iff.rfl
theorem r2_Ic {C : Int → Int → Prop} {g : Int → Int → D} {i j : Int} {k : D → Prop} : rV2 (RI2c C g) (.int i) (.int j) k = (C i j ∧ k (g i j)) := rV2_ec fun _ => Iff.rfl
theorem r2_N {x : D} {k : D → Prop} : rV2 RIsN x .non k = k (.bl x.isN) := rV2_e fun z => ⟨fun h => h.2, fun h => ⟨rfl, h⟩⟩
theorem r2_nN {x : D} {k : D → Prop} : rV2 RNotN x .non k = k (.bl (!x.isN)) := rV2_e fun z => ⟨fun h => h.2, fun h => ⟨rfl, h⟩⟩
theorem r2_nB {i j : Bool} {k : D → Prop} : rV2 RNotB (.bl i) (.bl j) k = k (.bl (!decide (i = j))) := rV2_e fun _ => Iff.rfl
theorem r2_Eq {x y : D} {k : D → Prop} : rV2 REq x y k = (EqC x y ∧ k (.bl (x.eqv y))) := rV2_ec fun _ => Iff.rfl
theorem r2_Ne {x y : D} {k : D → Prop} : rV2 RNe x y k = (EqC x y ∧ k (.bl (!x.eqv y))) := rV2_ec fun _ => Iff.rfl
theorem r2_InL {neg : Bool} {x : D} {ds : List D} {k : D → Prop} : rV2 (RInL neg) x (.lst ds) k = ((x.eqOk ∧ D.eqOk (.lst ds) ∧ x.pd.hasDict = false ∧ PyData.hasDictAll (D.pds ds) = false) ∧ k (.bl (if neg then !(ds.any fun d => d.eqv x) else ds.any fun d => d.eqv x))) :=
  rV2_ec fun _ => by unfold RInL; simp only [and_assoc]
theorem r2_InFl {neg : Bool} {x : D} {ds : List D} {k : D → Prop} : rV2 (RInF neg) x (.lst ds) k = ((x.flat = true ∧ ds.all D.flat = true) ∧ k (.bl (if neg then !(ds.any fun d => d.eqv x) else ds.any fun d => d.eqv x))) := rV2_ec fun _ => by unfold RInF; simp only [and_assoc]
theorem r2_InFt {neg : Bool} {x : D} {ds : List D} {k : D → Prop} : rV2 (RInF neg) x (.tup ds) k = ((x.flat = true ∧ ds.all D.flat = true) ∧ k (.bl (if neg then !(ds.any fun d => d.eqv x) else ds.any fun d => d.eqv x))) := rV2_ec fun _ => by unfold RInF; simp only [and_assoc]
theorem r1_Neg {i : Int} {k : D → Prop} : rV1 RNeg (.int i) k = k (.int (-i)) := rV1_e fun _ => Iff.rfl
theorem rL_lenS {x : Str} {k : D → Prop} : rVL RLen [.str x] k = (x.length ≤ sizeLine ∧ k (.int x.length)) := rVL_ec fun _ => Iff.rfl
theorem rL_lenL {ds : List D} {k : D → Prop} : rVL RLen [.lst ds] k = k (.int ds.length) := rVL_e fun _ => Iff.rfl
theorem rL_lenT {ds : List D} {k : D → Prop} : rVL RLen [.tup ds] k = k (.int ds.length) := rVL_e fun _ => Iff.rfl
theorem rL_lenC {ns : List Int} {k : D → Prop} : rVL RLen [.scr ns] k = k (.int ns.length) := rVL_e fun _ => Iff.rfl
theorem rL_abs {i : Int} {k : D → Prop} : rVL RAbs [.int i] k = k (.int (if i < 0 then -i else i)) := rVL_e fun _ => Iff.rfl
theorem rL_max {i j : Int} {k : D → Prop} : rVL RMax2 [.int i, .int j] k = k (.int (if j > i then j else i)) := rVL_e fun _ => Iff.rfl
theorem rL_min {i j : Int} {k : D → Prop} : rVL RMin2 [.int i, .int j] k = k (.int (if j < i then j else i)) := rVL_e fun _ => Iff.rfl
theorem rL_intI {i : Int} {k : D → Prop} : rVL RInt [.int i] k = k (.int i) := rVL_e fun _ => Iff.rfl
theorem rL_intB {b : Bool} {k : D → Prop} : rVL RInt [.bl b] k = k (.int (if b then 1 else 0)) := rVL_e fun _ => Iff.rfl
theorem rL_str {i : Int} {k : D → Prop} : rVL RStr [.int i] k = (i.natAbs.log2 < 1920 ∧ k (.str (toString i))) := rVL_ec fun _ => Iff.rfl
theorem rL_all {ds : List D} {k : D → Prop} : rVL RAll [.lst ds] k = oM (blsD ds) fun bs => k (.bl (bs.all id)) := propext ⟨fun ⟨_, ⟨bs, e, h⟩, q⟩ => ⟨bs, e, by subst h; exact q⟩, fun ⟨bs, e, q⟩ => ⟨_, ⟨bs, e, rfl⟩, q⟩⟩
theorem rL_any {ds : List D} {k : D → Prop} : rVL RAny [.lst ds] k = oM (blsD ds) fun bs => k (.bl (bs.any id)) := propext ⟨fun ⟨_, ⟨bs, e, h⟩, q⟩ => ⟨bs, e, by subst h; exact q⟩, fun ⟨bs, e, q⟩ => ⟨_, ⟨bs, e, rfl⟩, q⟩⟩
theorem rL_rep {x : D} {k : D → Prop} : rVL RRep [x] k = (RRep [x] (.str x.pd.shown) ∧ k (.str x.pd.shown)) := rVL_ec fun z => ⟨fun h => ⟨⟨h.1, h.2.1, h.2.2.1, h.2.2.2.1, rfl⟩, h.2.2.2.2⟩, fun ⟨h, e⟩ => by rw [e]; exact h⟩

def o2I (ds : List D) (k : Int → Int → Prop) (_ : B1 k := ()) : Prop := ∃ i j, ds = [.int i, .int j] ∧ k i j
theorem o2I_i {i j : Int} {k : Int → Int → Prop} : o2I [.int i, .int j] k = k i j := propext ⟨fun ⟨_, _, e, h⟩ => by cases e; exact h, fun h => ⟨i, j, rfl, h⟩⟩
/-- a call -/
def calls (sp : SpD) (ts : List T) (Q : T → List T → Prop) (E : Ex → List T → Prop) (_ : B3 sp Q E := ()) : Prop := sp ts Q E
/-- a slot read -/
def vr (o : Option T) (i : Nat) (ε : Env) (Q : EQ) (_ : B1 Q := ()) : Prop := match o with
  | some (.fr d) => Q (.d d) ε
  | some _ => Q (.at i []) ε
  | none => False
theorem vr_f {d : D} {i : Nat} {ε : Env} {Q : EQ} : vr (some (.fr d)) i ε Q = Q (.d d) ε := rfl
theorem vr_l {ts : List T} {i : Nat} {ε : Env} {Q : EQ} : vr (some (.lst ts)) i ε Q = Q (.at i []) ε := rfl
theorem vr_d {ks : List D} {ts : List T} {i : Nat} {ε : Env} {Q : EQ} : vr (some (.dic ks ts)) i ε Q = Q (.at i []) ε := rfl
theorem vr_o {c : Str} {ns : List Str} {ts : List T} {i : Nat} {ε : Env} {Q : EQ} : vr (some (.obj c ns ts)) i ε Q = Q (.at i []) ε := rfl
/-- an item read -/
def ixE (t : T) (r : Rv) (k : Nat) (ε : Env) (Q : EQ) (_ : B1 Q := ()) : Prop := match t with
  | .fr d => Q (.d d) ε
  | t => match r with
    | .at i p => Q (.at i (p ++ [k])) ε
    | .own _ => Q (.own t) ε
    | .d _ => False
theorem ixE_f {d : D} {r : Rv} {k : Nat} {ε : Env} {Q : EQ} : ixE (.fr d) r k ε Q = Q (.d d) ε := rfl
theorem ixE_la {ts : List T} {i k : Nat} {p : List Nat} {ε : Env} {Q : EQ} : ixE (.lst ts) (.at i p) k ε Q = Q (.at i (p ++ [k])) ε := rfl
theorem ixE_lo {ts : List T} {k : Nat} {u : T} {ε : Env} {Q : EQ} : ixE (.lst ts) (.own u) k ε Q = Q (.own (.lst ts)) ε := rfl
def ixT (o : Option T) (r : Rv) (j : Int) (ε : Env) (Q : EQ) (_ : B1 Q := ()) : Prop := match o with
  | some (.fr (.tup ds)) => oM (atI ds j) fun d => Q (.d d) ε
  | some (.fr (.lst ds)) => oM (atI ds j) fun d => Q (.d d) ε
  | some (.fr (.scr ns)) => oM (atI ns j) fun n => Q (.d (.int n)) ε
  | some (.fr (.str x)) => x.length ≤ sizeLine ∧ oM (atI x.cps.toList j) fun ch => Q (.d (.str ⟨#[ch]⟩)) ε
  | some (.lst ts) => oM (ixN ts.length j) fun k => oM ts[k]? fun t => ixE t r k ε Q
  | _ => False
theorem ixT_t {ds : List D} {r : Rv} {j : Int} {ε : Env} {Q : EQ} : ixT (some (.fr (.tup ds))) r j ε Q = oM (atI ds j) fun d => Q (.d d) ε := rfl
theorem ixT_l {ds : List D} {r : Rv} {j : Int} {ε : Env} {Q : EQ} : ixT (some (.fr (.lst ds))) r j ε Q = oM (atI ds j) fun d => Q (.d d) ε := rfl
theorem ixT_c' {ns : List Int} {r : Rv} {j : Int} {ε : Env} {Q : EQ} : ixT (some (.fr (.scr ns))) r j ε Q = oM (atI ns j) fun n => Q (.d (.int n)) ε := rfl
theorem ixT_s {x : Str} {r : Rv} {j : Int} {ε : Env} {Q : EQ} : ixT (some (.fr (.str x))) r j ε Q = (x.length ≤ sizeLine ∧ oM (atI x.cps.toList j) fun ch => Q (.d (.str ⟨#[ch]⟩)) ε) := rfl
theorem ixT_o {ts : List T} {r : Rv} {j : Int} {ε : Env} {Q : EQ} : ixT (some (.lst ts)) r j ε Q = oM (ixN ts.length j) fun k => oM ts[k]? fun t => ixE t r k ε Q := rfl
theorem ixQ_e {r : Rv} {j : Int} {ε : Env} {Q : EQ} : ixQ r j ε Q = ixT (r.tr ε) r j ε Q := by
  unfold ixQ ixT
  generalize r.tr ε = o
  cases o with
  | none => rfl
  | some t =>
    cases t with
    | fr d => cases d <;> rfl
    | dic _ _ => rfl
    | obj _ _ _ => rfl
    | lst ts =>
      refine propext ⟨?_, ?_⟩
      · rintro ⟨k, t, e1, e2, h⟩
        refine ⟨k, e1, t, e2, ?_⟩
        cases t <;> cases r <;> exact h
      · rintro ⟨k, e1, t, e2, h⟩
        refine ⟨k, t, e1, e2, ?_⟩
        cases t <;> cases r <;> exact h
/-- two values added, multiplied; a slice -/
def addK (x y : Sq) (ε : Env) (Q : EQ) (_ : B1 Q := ()) : Prop := addQ x y ε Q
theorem addK_i {n m : Int} {ε : Env} {Q : EQ} : addK (.i n) (.i m) ε Q = Q (.d (.int (n + m))) ε := rfl
theorem addK_s {x y : Str} {ε : Env} {Q : EQ} : addK (.s x) (.s y) ε Q = (x.length + y.length ≤ sizeLine ∧ Q (.d (.str (x ++ y))) ε) := rfl
theorem addK_l {x y : List D} {ε : Env} {Q : EQ} : addK (.l x) (.l y) ε Q = (x.length + y.length ≤ sizeLine ∧ Q (.own (.lst ((x ++ y).map .fr))) ε) := rfl
theorem addK_t {x y : List D} {ε : Env} {Q : EQ} : addK (.t x) (.t y) ε Q = (x.length + y.length ≤ sizeLine ∧ Q (.d (.tup (x ++ y))) ε) := rfl
def mulK (x y : Sq) (ε : Env) (Q : EQ) (_ : B1 Q := ()) : Prop := mulQ x y ε Q
theorem mulK_i {n m : Int} {ε : Env} {Q : EQ} : mulK (.i n) (.i m) ε Q = (CMulW n m ∧ Q (.d (.int (n * m))) ε) := rfl
theorem mulK_l {x : List D} {m : Int} {ε : Env} {Q : EQ} : mulK (.l x) (.i m) ε Q = (0 ≤ m ∧ m < 2 ^ 40 ∧ x.length * m.toNat ≤ sizeLine ∧ Q (.own (.lst ((List.replicate m.toNat x).flatten.map .fr))) ε) := rfl
def slK (x : Sq) (lo hi : Option Int) (ε : Env) (Q : EQ) (_ : B1 Q := ()) : Prop := slQ x lo hi ε Q
theorem slK_l {ds : List D} {lo hi : Option Int} {ε : Env} {Q : EQ} : slK (.l ds) lo hi ε Q = Q (.own (.lst ((cutL ds lo hi).map .fr))) ε := rfl
theorem slK_t {ds : List D} {lo hi : Option Int} {ε : Env} {Q : EQ} : slK (.t ds) lo hi ε Q = Q (.d (.tup (cutL ds lo hi))) ε := rfl
theorem slK_s {x : Str} {lo hi : Option Int} {ε : Env} {Q : EQ} : slK (.s x) lo hi ε Q = (x.length ≤ sizeLine ∧ Q (.d (.str (cutS x lo hi))) ε) := rfl
/-- returned, assigned -/
def rtK (r : Rv) (ε : Env) (Q : T → Env → Prop) (_ : B1 Q := ()) : Prop := retQ r ε Q
theorem rtK_d {d : D} {ε : Env} {Q : T → Env → Prop} : rtK (.d d) ε Q = Q (.fr d) ε := rfl
theorem rtK_o {t : T} {ε : Env} {Q : T → Env → Prop} : rtK (.own t) ε Q = Q t ε := rfl
theorem rtK_a {i : Nat} {ε : Env} {Q : T → Env → Prop} : rtK (.at i []) ε Q = oM (ε.at i) fun t => Q t (ε.set i none) := rfl
theorem rtK_p {i k : Nat} {p : List Nat} {ε : Env} {Q : T → Env → Prop} : rtK (.at i (k :: p)) ε Q = oM (Rv.fz ε (.at i (k :: p))) fun q => Q (.fr q.1) q.2 :=
  propext ⟨fun ⟨d, ε1, e, h⟩ => ⟨(d, ε1), e, h⟩, fun ⟨(d, ε1), e, h⟩ => ⟨d, ε1, e, h⟩⟩
def asK (i : Nat) (r : Rv) (ε : Env) (Q : Env → Prop) (_ : B1 Q := ()) : Prop := asgQ i r ε Q
theorem asK_d {i : Nat} {d : D} {ε : Env} {Q : Env → Prop} : asK i (.d d) ε Q = Q (ε.set i (some (.fr d))) := rfl
theorem asK_o {i : Nat} {t : T} {ε : Env} {Q : Env → Prop} : asK i (.own t) ε Q = Q (ε.set i (some t)) := rfl
theorem asK_a {i j : Nat} {p : List Nat} {ε : Env} {Q : Env → Prop} : asK i (.at j p) ε Q = oM (Rv.fz ε (.at j p)) fun q => Q (q.2.set i (some (.fr q.1))) :=
  propext ⟨fun ⟨d, ε1, e, h⟩ => ⟨(d, ε1), e, h⟩, fun ⟨(d, ε1), e, h⟩ => ⟨d, ε1, e, h⟩⟩
theorem pd_d {d : D} {w : Bool} : (Rv.d d).pend w = True := rfl
theorem pd_o {t : T} {w : Bool} : (Rv.own t).pend w = True := rfl
theorem pd_a {i : Nat} {w : Bool} : (Rv.at i []).pend w = True := rfl
theorem pd_p {i k : Nat} {p : List Nat} {w : Bool} : (Rv.at i (k :: p)).pend w = (w = false) := rfl
theorem x1 {a : Option D} {R : D → D → Prop} {Q : D → Prop} : (∃ dx d, a = some dx ∧ R dx d ∧ Q d) = oM a fun x => rV1 R x Q :=
  propext ⟨fun ⟨x, d, e, h, q⟩ => ⟨x, e, d, h, q⟩, fun ⟨x, e, d, h, q⟩ => ⟨x, d, e, h, q⟩⟩
theorem x2 {a b : Option D} {R : D → D → D → Prop} {Q : D → Prop} : (∃ dx dy d, a = some dx ∧ b = some dy ∧ R dx dy d ∧ Q d) = oM a fun x => oM b fun y => rV2 R x y Q :=
  propext ⟨fun ⟨x, y, d, e, e2, h, q⟩ => ⟨x, e, y, e2, d, h, q⟩, fun ⟨x, e, y, e2, d, h, q⟩ => ⟨x, y, d, e, e2, h, q⟩⟩
theorem xL {a : Option (List D)} {R : List D → D → Prop} {Q : D → Prop} : (∃ dx d, a = some dx ∧ R dx d ∧ Q d) = oM a fun x => rVL R x Q :=
  propext ⟨fun ⟨x, d, e, h, q⟩ => ⟨x, e, d, h, q⟩, fun ⟨x, e, d, h, q⟩ => ⟨x, d, e, h, q⟩⟩
theorem xP {α β : Type} {a : Option (α × β)} {Q : α → β → Prop} : (∃ x y, a = some (x, y) ∧ Q x y) = oM a fun p => Q p.1 p.2 :=
  propext ⟨fun ⟨x, y, e, q⟩ => ⟨(x, y), e, q⟩, fun ⟨(x, y), e, q⟩ => ⟨x, y, e, q⟩⟩
theorem xI {a : Option D} {Q : Int → Prop} : (∃ j, a = some (.int j) ∧ Q j) = oM a fun d => oI d Q := propext ⟨fun ⟨j, e, q⟩ => ⟨_, e, j, rfl, q⟩, fun ⟨_, e, j, e2, q⟩ => ⟨j, by rw [e, e2], q⟩⟩
theorem xO {α : Type} {a : Option α} {Q : α → Prop} : (∃ x, a = some x ∧ Q x) = oM a Q := rfl
section
variable {R R' : D → D → D → Prop} {R1 : D → D → Prop} {RL : List D → D → Prop} {w wb wc wl wh wi : Bool} {t ta tb tc te to ti' : ET} {tt tu : TT'} {ar tr : AT} {ε : Env} {Q : EQ} {EX : EXN} {d : D} {i : Nat} {T' : String} {sp : SpD} {ix : List Nat} {tl th : Env → (Option Int → Env → Prop) → EXN → Prop} {QB : Bool → Env → Prop} {QA : List Rv → Env → Prop} {QO : Option Int → Env → Prop} {QI : List D → Env → Prop}
theorem e_tVr : goE (tVr i) ε Q EX = (vr (ε.at i) i ε Q) := by unfold tVr vr goE; rfl
theorem e_tK : goE (tK d) ε Q EX = (Q (.d d) ε) := rfl
theorem e_tV1 : goE (tV1 R1 ta) ε Q EX = (goE ta ε (fun ra ε1 => oM (ra.vw ε1) fun x => rV1 R1 x fun d => Q (.d d) ε1) EX) := by unfold tV1; simp only [goE, goT, goA, goO, goI, x1]
theorem e_tV2 : goE (tV2 R wb ta tb) ε Q EX = (goE ta ε (fun ra ε1 => ra.pend wb ∧ goE tb ε1 (fun rb ε2 => oM (ra.vw ε2) fun x => oM (rb.vw ε2) fun y => rV2 R x y fun d => Q (.d d) ε2) EX) EX) := by unfold tV2 t2; simp only [goE, goT, goA, goO, goI, x2]
theorem e_tTs : goT (tTs t) ε QB EX = (goE t ε (fun r ε1 => oB r fun b => QB b ε1) EX) := rfl
theorem e_tN : goT (tN tt) ε QB EX = (goT tt ε (fun b ε1 => QB (!b) ε1) EX) := rfl
theorem e_tAn : goT (tAn tt tu) ε QB EX = (goT tt ε (fun b ε1 => iB b (goT tu ε1 QB EX) (QB false ε1)) EX) := rfl
theorem e_tOn : goT (tOn tt tu) ε QB EX = (goT tt ε (fun b ε1 => iB b (QB true ε1) (goT tu ε1 QB EX)) EX) := rfl
theorem e_tAv : goE (tAv ta tb) ε Q EX = (goE ta ε (fun r ε1 => oB r fun b => iB b (goE tb ε1 Q EX) (Q (.d (.bl false)) ε1)) EX) := rfl
theorem e_tOv : goE (tOv ta tb) ε Q EX = (goE ta ε (fun r ε1 => oB r fun b => iB b (Q (.d (.bl true)) ε1) (goE tb ε1 Q EX)) EX) := rfl
theorem e_tNv : goE (tNv ta) ε Q EX = (goE ta ε (fun r ε1 => oB r fun b => Q (.d (.bl (!b))) ε1) EX) := rfl
theorem e_tIf1 : goE (tIf' tt ta tb) ε Q EX = (goT tt ε (fun b ε1 => iB b (goE ta ε1 Q EX) (goE tb ε1 Q EX)) EX) := rfl
theorem e_tCh : goE (tCh R R' wb wc ta tb tc) ε Q EX = (goE ta ε (fun ra ε1 => ra.pend wb ∧ goE tb ε1 (fun rb ε2 => oM (ra.vw ε2) fun x => oM (rb.vw ε2) fun y => rV2 R x y fun z => zB z fun k => iB k (rb.pend wc ∧ goE tc ε2 (fun rc ε3 => oM (rb.vw ε3) fun y => oM (rc.vw ε3) fun z => rV2 R' y z fun d => Q (.d d) ε3) EX) (Q (.d (.bl false)) ε2)) EX) EX) := by
  unfold tCh t2
  simp only [goE, goT, goA, goO, goI, x2]
  have h : ∀ (a b : Option D) (P : Bool → Prop) (S : Bool → Prop), (∃ dx dy k, a = some dx ∧ b = some dy ∧ R dx dy (.bl k) ∧ (k = false → P k) ∧ (k = true → S k)) = oM a fun x => oM b fun y => rV2 R x y fun z => zB z fun k => iB k (S k) (P k) := fun a b P S =>
    propext ⟨fun ⟨x, y, k, e1, e2, r, p, q⟩ => ⟨x, e1, y, e2, _, r, k, rfl, q, p⟩, fun ⟨x, e1, y, e2, _, r, k, e3, q, p⟩ => ⟨x, y, k, e1, e2, by rw [← e3]; exact r, p, q⟩⟩
  simp only [goE, goT, goA, goO, goI, h]
theorem e_tA0 : goA (tA0 ) ε QA EX = (QA [] ε) := rfl
theorem e_tA1 : goA (tA1 wb ta tr) ε QA EX = (goE ta ε (fun r ε1 => r.pend wb ∧ goA tr ε1 (fun rs ε2 => QA (r :: rs) ε2) EX) EX) := rfl
theorem e_tTp : goE (tTp ar) ε Q EX = (goA ar ε (fun rs ε1 => oM (owns rs ε1) fun p => p.1.length ≤ sizeLine ∧ Q (.d (.tup (T.ds p.1))) p.2) EX) := by unfold tTp; simp only [goE, goT, goA, goO, goI, xP]
theorem e_tLs : goE (tLs ar) ε Q EX = (goA ar ε (fun rs ε1 => oM (owns rs ε1) fun p => p.1.length ≤ sizeLine ∧ Q (.own (.lst p.1)) p.2) EX) := by unfold tLs; simp only [goE, goT, goA, goO, goI, xP]
theorem e_tLf : goE (tLf ar) ε Q EX = (goA ar ε (fun rs ε1 => oM (owns rs ε1) fun p => p.1.length ≤ sizeLine ∧ Q (.own (.lst ((T.ds p.1).map .fr))) p.2) EX) := by unfold tLf; simp only [goE, goT, goA, goO, goI, xP]
theorem e_tDc0 : goE (tDc0 ) ε Q EX = (Q (.own (.dic [] [])) ε) := rfl
theorem e_tVL : goE (tVL RL ar) ε Q EX = (goA ar ε (fun rs ε1 => oM (vws ε1 rs) fun ds => rVL RL ds fun d => Q (.d d) ε1) EX) := by unfold tVL; simp only [goE, goT, goA, goO, goI, xL]
theorem e_tIsi : goE (tIsi T' ta) ε Q EX = (goE ta ε (fun r ε1 => oM (r.vw ε1) fun d => oM (isK T' d) fun b => Q (.d (.bl b)) ε1) EX) := by
  unfold tIsi
  have h : ∀ (a : Option D) (P : Bool → Prop), (∃ d b, a = some d ∧ isK T' d = some b ∧ P b) = oM a fun d => oM (isK T' d) P := fun a P => propext ⟨fun ⟨d, b, e1, e2, p⟩ => ⟨d, e1, b, e2, p⟩, fun ⟨d, e1, b, e2, p⟩ => ⟨d, b, e1, e2, p⟩⟩
  simp only [goE, goT, goA, goO, goI, h]
theorem e_tLi : goE (tLi ar) ε Q EX = (goA ar ε (fun rs ε1 => oL rs fun r => oM (r.sq ε1).its fun ds => Q (.own (.lst (ds.map .fr))) ε1) EX) := by
  unfold tLi
  have h : ∀ (rs : List Rv) (ε1 : Env) (P : List D → Prop), (∃ r ds, rs = [r] ∧ (r.sq ε1).its = some ds ∧ P ds) = oL rs fun r => oM (r.sq ε1).its P := fun rs ε1 P => propext ⟨fun ⟨r, ds, e1, e2, p⟩ => ⟨r, e1, ds, e2, p⟩, fun ⟨r, e1, ds, e2, p⟩ => ⟨r, ds, e1, e2, p⟩⟩
  simp only [goE, goT, goA, goO, goI, h]
theorem e_tTu : goE (tTu ar) ε Q EX = (goA ar ε (fun rs ε1 => oL rs fun r => oM (r.sq ε1).its fun ds => Q (.d (.tup ds)) ε1) EX) := by
  unfold tTu
  have h : ∀ (rs : List Rv) (ε1 : Env) (P : List D → Prop), (∃ r ds, rs = [r] ∧ (r.sq ε1).its = some ds ∧ P ds) = oL rs fun r => oM (r.sq ε1).its P := fun rs ε1 P => propext ⟨fun ⟨r, ds, e1, e2, p⟩ => ⟨r, e1, ds, e2, p⟩, fun ⟨r, e1, ds, e2, p⟩ => ⟨r, ds, e1, e2, p⟩⟩
  simp only [goE, goT, goA, goO, goI, h]
theorem e_tAd : goE (tAd wb ta tb) ε Q EX = (goE ta ε (fun ra ε1 => ra.pend wb ∧ goE tb ε1 (fun rb ε2 => addK (ra.sq ε2) (rb.sq ε2) ε2 Q) EX) EX) := rfl
theorem e_tMu : goE (tMu wb ta tb) ε Q EX = (goE ta ε (fun ra ε1 => ra.pend wb ∧ goE tb ε1 (fun rb ε2 => mulK (ra.sq ε2) (rb.sq ε2) ε2 Q) EX) EX) := rfl
theorem e_tSc : goE (tSc wl wh ta tl th) ε Q EX = (goE ta ε (fun ra ε1 => ra.pend (wl || wh) ∧ goO tl ε1 (fun lo ε2 => goO th ε2 (fun hi ε3 => slK (ra.sq ε3) lo hi ε3 Q) EX) EX) EX) := rfl
theorem e_tO0 : goO (tO0 ) ε QO EX = (QO none ε) := rfl
theorem e_tO1 : goO (tO1 ta) ε QO EX = (goE ta ε (fun r ε1 => oM (r.vw ε1) fun d => oI d fun i => QO (some i) ε1) EX) := by unfold tO1; simp only [goE, goT, goA, goO, goI, xI]
theorem e_tIx : goE (tIx wb ta tb) ε Q EX = (goE ta ε (fun ra ε1 => ra.pend wb ∧ goE tb ε1 (fun rb ε2 => oM (rb.vw ε2) fun d => oI d fun j => ixT (ra.tr ε2) ra j ε2 Q) EX) EX) := by unfold tIx t2; simp only [goE, goT, goA, goO, goI, xI, ixQ_e]
theorem e_tCl : goE (tCl sp ar) ε Q EX = (goA ar ε (fun rs ε1 => oM (takeT rs ε1) fun p => calls sp p.1 (fun r ts' => ts'.length = p.1.length ∧ Q r.rv (giveT rs ts' p.2)) (fun x ts' => ts'.length = p.1.length ∧ EX x (giveT rs ts' p.2))) EX) := by unfold tCl callQ; simp only [goE, goT, goA, goO, goI, xP]; rfl
theorem e_tClK : goE (tClK sp ix ar) ε Q EX = (goA ar ε (fun rs ε1 => oM (takeT (pickL ix rs) ε1) fun p => calls sp p.1 (fun r ts' => ts'.length = p.1.length ∧ Q r.rv (giveT (pickL ix rs) ts' p.2)) (fun x ts' => ts'.length = p.1.length ∧ EX x (giveT (pickL ix rs) ts' p.2))) EX) := by unfold tClK callQ; simp only [goE, goT, goA, goO, goI, xP]; rfl
theorem e_tApp : goE (tApp wb to te) ε Q EX = (goE to ε (fun r ε1 => r.pend wb ∧ (lstAt r ε1).isSome = true ∧ goE te ε1 (fun rv ε2 => oM (owns [rv] ε2) fun p => oL p.1 fun t => oM (lstAt r p.2) fun ts => ts.length < sizeLine ∧ Q (.d .non) (DL.putAt r p.2 (ts ++ [t]))) EX) EX) := by
  unfold tApp
  have h : ∀ (o : Option (List T × Env)) (f : Env → Option (List T)) (P : Env → List T → T → Prop), (∃ t ε3 ts, o = some ([t], ε3) ∧ f ε3 = some ts ∧ ts.length < sizeLine ∧ P ε3 ts t) = oM o fun p => oL p.1 fun t => oM (f p.2) fun ts => ts.length < sizeLine ∧ P p.2 ts t := fun o f P =>
    propext ⟨fun ⟨t, ε3, ts, e1, e2, p⟩ => ⟨_, e1, t, rfl, ts, e2, p⟩, fun ⟨⟨l, ε3⟩, e1, t, e3, ts, e2, p⟩ => ⟨t, ε3, ts, by rw [e1]; exact congrArg (fun z => some (z, ε3)) e3, e2, p⟩⟩
  simp only [goE, goT, goA, goO, goI, h]
theorem e_tExt : goE (tExt wb to te) ε Q EX = (goE to ε (fun r ε1 => r.pend wb ∧ (lstAt r ε1).isSome = true ∧ goE te ε1 (fun rv ε2 => sL (rv.sq ε2) fun ds => oM (lstAt r ε2) fun ts => ts.length + ds.length ≤ sizeLine ∧ Q (.d .non) (DL.putAt r ε2 (ts ++ ds.map .fr))) EX) EX) := by
  unfold tExt
  have h : ∀ (s : Sq) (o : Option (List T)) (P : List D → List T → Prop), (∃ ds ts, s = .l ds ∧ o = some ts ∧ P ds ts) = sL s fun ds => oM o fun ts => P ds ts := fun s o P => propext ⟨fun ⟨ds, ts, e1, e2, p⟩ => ⟨ds, e1, ts, e2, p⟩, fun ⟨ds, e1, ts, e2, p⟩ => ⟨ds, ts, e1, e2, p⟩⟩
  simp only [goE, goT, goA, goO, goI, h]
theorem e_tItL : goI (tItL ta) ε QI EX = (goE ta ε (fun r ε1 => oM (r.fz ε1) fun p => dL p.1 fun ds => QI ds p.2) EX) := by
  unfold tItL
  have h : ∀ (o : Option (D × Env)) (P : List D → Env → Prop), (∃ ds ε2, o = some (.lst ds, ε2) ∧ P ds ε2) = oM o fun p => dL p.1 fun ds => P ds p.2 := fun o P => propext ⟨fun ⟨ds, ε2, e1, p⟩ => ⟨_, e1, ds, rfl, p⟩, fun ⟨⟨d, ε2⟩, e1, ds, e2, p⟩ => ⟨ds, ε2, by rw [e1]; exact congrArg (fun z => some (z, ε2)) e2, p⟩⟩
  simp only [goE, goT, goA, goO, goI, h]
theorem e_tItT : goI (tItT ta) ε QI EX = (goE ta ε (fun r ε1 => oM (r.fz ε1) fun p => dT p.1 fun ds => QI ds p.2) EX) := by
  unfold tItT
  have h : ∀ (o : Option (D × Env)) (P : List D → Env → Prop), (∃ ds ε2, o = some (.tup ds, ε2) ∧ P ds ε2) = oM o fun p => dT p.1 fun ds => P ds p.2 := fun o P => propext ⟨fun ⟨ds, ε2, e1, p⟩ => ⟨_, e1, ds, rfl, p⟩, fun ⟨⟨d, ε2⟩, e1, ds, e2, p⟩ => ⟨ds, ε2, by rw [e1]; exact congrArg (fun z => some (z, ε2)) e2, p⟩⟩
  simp only [goE, goT, goA, goO, goI, h]
theorem e_tIt1 : goI (tIt1 ar) ε QI EX = (goA ar ε (fun rs ε1 => oM (vws ε1 rs) fun ds => oL ds fun d => oI d fun j => -(2 ^ 62) ≤ j ∧ j < 2 ^ 62 ∧ QI (rgD 0 j.toNat) ε1) EX) := by
  unfold tIt1
  have h : ∀ (o : Option (List D)) (P : Int → Prop), (∃ j : Int, o = some [.int j] ∧ P j) = oM o fun ds => oL ds fun d => oI d P := fun o P => propext ⟨fun ⟨j, e1, p⟩ => ⟨_, e1, _, rfl, j, rfl, p⟩, fun ⟨ds, e1, d, e2, j, e3, p⟩ => ⟨j, by rw [e1, e2, e3], p⟩⟩
  simp only [goE, goT, goA, goO, goI, h]
theorem e_tIt2 : goI (tIt2 ar) ε QI EX = (goA ar ε (fun rs ε1 => oM (vws ε1 rs) fun ds => o2I ds fun i j => (-(2 ^ 62) ≤ i ∧ i < 2 ^ 62 ∧ -(2 ^ 62) ≤ j ∧ j < 2 ^ 62) ∧ QI (rgD i (j - i).toNat) ε1) EX) := by
  unfold tIt2
  have h : ∀ (o : Option (List D)) (P : Int → Int → Prop), (∃ i j : Int, o = some [.int i, .int j] ∧ P i j) = oM o fun ds => o2I ds P := fun o P => propext ⟨fun ⟨i, j, e1, p⟩ => ⟨_, e1, i, j, rfl, p⟩, fun ⟨ds, e1, i, j, e2, p⟩ => ⟨i, j, by rw [e1, e2], p⟩⟩
  simp only [goE, goT, goA, goO, goI, h]
theorem e_tYs : goT (tYs ) ε QB EX = (QB true ε) := rfl

def goL (p : Pat) (vs : List Nat) (tt : TT') (te : ET) (K : List T → Env → Prop) (items : List D) (acc : List T) (ε : Env) (_ : B3 tt te K := ()) : Prop := lcGo p vs tt te K items acc ε
def goN (p : Pat) (vs : List Nat) (tt : TT') (te : ET) (K : List T → Env → Prop) (items : List D) (acc : List T) (ε : Env) (_ : B3 tt te K := ()) : Prop := lcIn p vs tt te K items acc ε
def go2 (p : Pat) (vs : List Nat) (tt : TT') (ti1 : IT) (p1 : Pat) (vs1 : List Nat) (tt1 : TT') (te : ET) (K : List T → Env → Prop) (items : List D) (acc : List T) (ε : Env) (_ : B3 tt te K := ()) (_ : B3 ti1 tt1 K := ()) : Prop := lcOut p vs tt ti1 p1 vs1 tt1 te K items acc ε
theorem e_tLcD {ti : IT} {p : Pat} {vs : List Nat} : goE (tLcD ti p vs tt te) ε Q EX = goI ti ε (fun items ε1 => items.length ≤ sizeLine ∧ goL p vs tt te (fun acc ε2 => Q (.own (.lst acc)) (unwipe ε1 ε2 vs)) items [] (wipeE ε1 vs)) EX := rfl
theorem e_tLcD2 {ti ti1 : IT} {p p1 : Pat} {vs vs1 : List Nat} : goE (tLcD2 ti p vs tt ti1 p1 vs1 tu te) ε Q EX = goI ti ε (fun items ε1 => go2 p vs tt ti1 p1 vs1 tu te (fun acc ε2 => Q (.own (.lst acc)) (unwipe ε1 ε2 vs)) items [] (wipeE ε1 vs)) EX := rfl
section
variable {p p1 : Pat} {vs vs1 : List Nat} {K : List T → Env → Prop} {items : List D} {acc : List T} {ti1 : IT}
theorem goL_nil : goL p vs tt te K [] acc ε = K acc ε := rfl
theorem goL_cons : goL p vs tt te K (d :: items) acc ε = oM (p.bind d ε) fun ε1 => goT tt ε1 (fun b ε2 => iB b (goE te ε2 (fun rv ε3 => oM (owns [rv] ε3) fun q => oL q.1 fun t => goL p vs tt te K items (acc ++ [t]) (wipeE q.2 vs)) NoX) (goL p vs tt te K items acc (wipeE ε2 vs))) NoX := by
  have h : ∀ (o : Option (List T × Env)) (P : T → Env → Prop), (∃ t ε4, o = some ([t], ε4) ∧ P t ε4) = oM o fun q => oL q.1 fun t => P t q.2 := fun o P => propext ⟨fun ⟨t, ε4, e, p⟩ => ⟨_, e, t, rfl, p⟩, fun ⟨⟨l, ε4⟩, e, t, e2, p⟩ => ⟨t, ε4, by rw [e]; exact congrArg (fun z => some (z, ε4)) e2, p⟩⟩
  unfold goL goT goE
  simp only [lcGo, h]
  rfl
theorem go2_nil : go2 p vs tt ti1 p1 vs1 tu te K [] acc ε = K acc ε := rfl
theorem go2_cons : go2 p vs tt ti1 p1 vs1 tu te K (d :: items) acc ε = oM (p.bind d ε) fun ε1 => goT tt ε1 (fun b ε2 => iB b (goI ti1 ε2 (fun items1 ε3 => goN p1 vs1 tu te (fun acc' ε4 => go2 p vs tt ti1 p1 vs1 tu te K items acc' (wipeE ε4 vs)) items1 acc (wipeE ε3 vs1)) NoX) (go2 p vs tt ti1 p1 vs1 tu te K items acc (wipeE ε2 vs))) NoX := rfl
theorem goL_pure {e0 : Env} (f : D → D) (h : ∀ d ∈ items, ∃ ε1, p.bind d e0 = some ε1 ∧ wipeE ε1 vs = e0 ∧ ∀ Q : EQ, Q (.d (f d)) ε1 → goE te ε1 Q NoX) (k : K (acc ++ items.map fun d => .fr (f d)) e0) : goL p vs tYs te K items acc e0 := lcGo_pure f h k
theorem goN_pure {e0 : Env} (f : D → D) (h : ∀ d ∈ items, ∃ ε1, p.bind d e0 = some ε1 ∧ wipeE ε1 vs = e0 ∧ ∀ Q : EQ, Q (.d (f d)) ε1 → goE te ε1 Q NoX) (hl : acc.length + items.length ≤ sizeLine) (k : K (acc ++ items.map fun d => .fr (f d)) e0) : goN p vs tYs te K items acc e0 := lcIn_pure f h hl k
theorem go2_pure {e0 : Env} (f : D → D → D) (inner : D → List D) : ∀ {items : List D} {acc : List T}, (∀ d ∈ items, ∃ ε1, p.bind d e0 = some ε1 ∧ wipeE (wipeE ε1 vs1) vs = e0 ∧ (∀ Q : List D → Env → Prop, Q (inner d) ε1 → goI ti1 ε1 Q NoX) ∧
      ∀ e ∈ inner d, ∃ ε2, p1.bind e (wipeE ε1 vs1) = some ε2 ∧ wipeE ε2 vs1 = wipeE ε1 vs1 ∧ ∀ Q : EQ, Q (.d (f d e)) ε2 → goE te ε2 Q NoX) →
    acc.length + (items.flatMap inner).length ≤ sizeLine → K (acc ++ items.flatMap fun d => (inner d).map fun e => .fr (f d e)) e0 → go2 p vs tYs ti1 p1 vs1 tYs te K items acc e0
  | [], acc, h, _, k => by
    rw [go2_nil]
    simpa using k
  | d :: ds, acc, h, hl, k => by
    obtain ⟨ε1, h1, h2, h3, h4⟩ := h d (by simp)
    rw [go2_cons, h1, oM_s]
    refine ⟨fun _ => h3 _ (goN_pure (f d) h4 ?_ ?_), fun z => nomatch z⟩
    · simp only [List.flatMap_cons, List.length_append] at hl
      omega
    · rw [h2]
      refine go2_pure f inner (fun e he => h e (by simp [he])) ?_ ?_
      · simp only [List.flatMap_cons, List.length_append] at hl
        simp only [List.length_append, List.length_map]
        omega
      · simpa [List.flatMap_cons] using k
theorem goL_filt {e0 : Env} (t : D → Bool) (f : D → D) (h : ∀ d ∈ items, ∃ ε1, p.bind d e0 = some ε1 ∧ wipeE ε1 vs = e0 ∧ (∀ Q : Bool → Env → Prop, Q (t d) ε1 → goT tt ε1 Q NoX) ∧ ∀ Q : EQ, t d = true → Q (.d (f d)) ε1 → goE te ε1 Q NoX)
    (k : K (acc ++ (items.filter t).map fun d => .fr (f d)) e0) : goL p vs tt te K items acc e0 := lcGo_filt t f h k
end
end
section
variable {E : SEnds} {EX : EXN} {ε ε' : Env} {g g' : ST'} {te te' to ti' : ET} {tt : TT'} {ar : AT} {ti : IT} {p : Pat} {wi : Bool} {i : Nat} {is : List Nat} {kp : List Nat} {ts : List T} {QD : T → List T → Prop} {EXD : Ex → List T → Prop} {r : T} {x : Ex}
def goF (p : Pat) (g : ST') (E : SEnds) (EX : EXN) (items : List D) (ε : Env) (_ : B3 g E EX := ()) : Prop := forGo p g E EX items ε
theorem goF_nil : goF p g E EX [] ε = E.nx ε := rfl
theorem goF_ind (I : Nat → Env → Prop) {items : List D} (h0 : I 0 ε) (hn : ∀ ε', I items.length ε' → E.nx ε')
    (h : ∀ (i : Nat) (d : D) (ε' : Env) (N : Env → Prop), items[i]? = some d → I i ε' → (∀ ε2, I (i + 1) ε2 → N ε2) → ∃ ε1, p.bind d ε' = some ε1 ∧ goS g { nx := N, ct := N, bk := E.nx, rt := E.rt } EX ε1) : goF p g E EX items ε := forGo_ind I h0 hn h
theorem e_sNx : goS sNx E EX ε = E.nx ε := rfl
theorem e_sSq : goS (sSq g g') E EX ε = goS g { E with nx := fun ε1 => goS g' E EX ε1 } EX ε := rfl
theorem e_sNever : goS sNever E EX ε = False := rfl
theorem e_sEx : goS (sEx te) E EX ε = goE te ε (fun _ ε1 => E.nx ε1) EX := rfl
theorem e_sRt : goS (sRt te) E EX ε = goE te ε (fun rv ε1 => rtK rv ε1 E.rt) EX := rfl
theorem e_sRtN : goS sRtN E EX ε = E.rt (.fr .non) ε := rfl
theorem e_sIf : goS (sIf tt g g') E EX ε = goT tt ε (fun b ε1 => iB b (goS g E EX ε1) (goS g' E EX ε1)) EX := rfl
theorem e_sAs : goS (sAs i te) E EX ε = goE te ε (fun rv ε1 => asK i rv ε1 E.nx) EX := rfl
theorem e_sUn : goS (sUn p te) E EX ε = goE te ε (fun rv ε1 => oM (rv.fz ε1) fun q => oM (p.bind q.1 q.2) fun ε3 => E.nx ε3) EX := by
  unfold sUn goS goE
  have h : ∀ (o : Option (D × Env)) (P : Env → Prop), (∃ d ε2 ε3, o = some (d, ε2) ∧ p.bind d ε2 = some ε3 ∧ P ε3) = oM o fun q => oM (p.bind q.1 q.2) P := fun o P => propext ⟨fun ⟨d, ε2, ε3, e1, e2, q⟩ => ⟨_, e1, _, e2, q⟩, fun ⟨⟨d, ε2⟩, e1, ε3, e2, q⟩ => ⟨d, ε2, ε3, e1, e2, q⟩⟩
  simp only [h]
theorem e_sFor : goS (sFor ti p g) E EX ε = goI ti ε (fun items ε1 => goF p g E EX items ε1) EX := rfl
theorem e_sPr : goS (sPr is ar) E EX ε = goA ar ε (fun rs ε1 => oM (owns rs ε1) fun q => q.1.length = is.length ∧ E.nx (setAll is q.1 q.2)) EX := by unfold sPr goS goA; simp only [xP]
theorem e_sSt : goS (sSt wi to ti' te) E EX ε = goE te ε (fun rv ε1 => rv.pend true ∧ goE to ε1 (fun r ε2 => r.pend wi ∧ goE ti' ε2 (fun rj ε3 => oM (rj.vw ε3) fun d => oI d fun j => oM (owns [rv] ε3) fun q => oL q.1 fun t => oM (lstAt r q.2) fun ts => oM (ixN ts.length j) fun k => E.nx (DL.putAt r q.2 (ts.set k t))) EX) EX) EX := by
  unfold sSt goS goE
  have h : ∀ (a : Option D) (o : Option (List T × Env)) (f : Env → Option (List T)) (P : Env → List T → T → Nat → Prop), (∃ j k t ε4 ts, a = some (.int j) ∧ o = some ([t], ε4) ∧ f ε4 = some ts ∧ ixN ts.length j = some k ∧ P ε4 ts t k) = oM a fun d => oI d fun j => oM o fun q => oL q.1 fun t => oM (f q.2) fun ts => oM (ixN ts.length j) fun k => P q.2 ts t k := fun a o f P =>
    propext ⟨fun ⟨j, k, t, ε4, ts, e1, e2, e3, e4, q⟩ => ⟨_, e1, j, rfl, _, e2, t, rfl, ts, e3, k, e4, q⟩, fun ⟨d, e1, j, e5, ⟨l, ε4⟩, e2, t, e6, ts, e3, k, e4, q⟩ => ⟨j, k, t, ε4, ts, by rw [e1, e5], by rw [e2]; exact congrArg (fun z => some (z, ε4)) e6, e3, e4, q⟩⟩
  simp only [h]
theorem fe_nx : (fnEnds kp ts QD).nx ε = oM (parsFrom kp 0 ts ε) fun ts' => QD (.fr .non) ts' := rfl
theorem fe_rt : (fnEnds kp ts QD).rt r ε = oM (parsFrom kp 0 ts ε) fun ts' => QD r ts' := rfl
theorem fe_x : fnX kp ts EXD x ε = oM (parsFrom kp 0 ts ε) fun ts' => EXD x ts' := rfl
/-- an end in the middle: what holds there is said -/
theorem sSq_cut (I : Env → Prop) (h1 : ∀ N : Env → Prop, (∀ ε', I ε' → N ε') → goS g { E with nx := N } EX ε) (h2 : ∀ ε', I ε' → goS g' E EX ε') : goS (sSq g g') E EX ε := h1 _ h2
end
theorem at00 {α : Type} {a : α} {r : List α} : atI (a :: r) 0 = some a := by
  unfold atI ixN
  simp
theorem at01 {α : Type} {a b : α} {r : List α} : atI (a :: b :: r) 1 = some b := by
  unfold atI ixN
  simp [show (1 : Int) < (r.length : Int) + 1 + 1 by omega]
theorem at02 {α : Type} {a b c : α} {r : List α} : atI (a :: b :: c :: r) 2 = some c := by
  unfold atI ixN
  simp [show (2 : Int) < (r.length : Int) + 1 + 1 + 1 by omega]
theorem ixN_30 : ixN 3 0 = some 0 := by decide
theorem ixN_31 : ixN 3 1 = some 1 := by decide
theorem ixN_32 : ixN 3 2 = some 2 := by decide
theorem ixN_20 : ixN 2 0 = some 0 := by decide
theorem ixN_21 : ixN 2 1 = some 1 := by decide
theorem rgD_get {lo : Int} {n i : Nat} {d : D} (h : (rgD lo n)[i]? = some d) : d = .int (lo + i) ∧ i < n := by
  unfold rgD at h
  rw [List.getElem?_map] at h
  obtain ⟨u, e1, e2⟩ := Option.map_eq_some_iff.mp h
  obtain ⟨h1, h2⟩ := List.getElem?_eq_some_iff.mp e1
  rw [List.getElem_range] at h2
  rw [List.length_range] at h1
  subst h2
  exact ⟨e2.symm, h1⟩
theorem rgD_len {lo : Int} {n : Nat} : (rgD lo n).length = n := by simp [rgD]
theorem rgD_mem {lo : Int} {n : Nat} {d : D} (h : d ∈ rgD lo n) : ∃ i : Nat, i < n ∧ d = .int (lo + i) := by
  obtain ⟨i, hi, e⟩ := List.mem_map.mp h
  exact ⟨i, by simpa using hi, e.symm⟩
theorem flatT_fr : ∀ {xs : List D}, flatT (xs.map T.fr) = some xs
  | [] => rfl
  | x :: xs => by simp only [List.map_cons, flatT, flatT_fr (xs := xs), Option.map_some]
theorem atI_nat {α : Type} {xs : List α} {j : Int} (h0 : 0 ≤ j) (h1 : j < xs.length) : atI xs j = xs[j.toNat]? := by
  unfold atI ixN
  rw [if_pos h0, if_pos h1]
  rfl
end DL

namespace DL
open PySem PySem.Spec L2
open PyProof.Rows

/-! ### enumerate(tuple) -/
theorem enum1_new {v : Value} {o : Obj} {H : Heap → Prop} (B : Begins v o H) :
    Meets (Builtin.«enumerate.__new__» ⟨[.type "enumerate", v], []⟩) (fun _ R s => H s.heap ∧ R (.ok (.ret (.ref (s.heap.push o).objs.size))) { s with heap := (s.heap.push o).push { cls := .type "enumerate", data := .fields #[.none, .bool false, .ref s.heap.objs.size, rawInt 0, .none, .none] } }) :=
  .of_wp fun prog w A R s h => by
    obtain ⟨hp, g, d, tk, os⟩ := s
    obtain ⟨h1, h⟩ := h
    have hsub := sub_enumerate
    have it : ∀ {A' : Around} {E : Value → Shared → Prop} {Q : Value → Shared → Prop}, Q (.ref hp.objs.size) ⟨hp.push o, g, d, tk, os⟩ → wpAny (model prog w) A' (pyIter v) Q E ⟨hp, g, d, tk, os⟩ := fun q => B.iter prog w _ _ ⟨hp, g, d, tk, os⟩ _ h1 q
    wp_walk using it
    refine wpAny_stack_any fun st => wpAny_pure ?_
    split
    · rename_i c _ _ _ _ _
      cases (c == Value.type "enumerate") <;> (wp_walk using it; exact ⟨_, rfl, h⟩)
    · wp_walk using it
      exact ⟨_, rfl, h⟩
section
variable {prog : Program} {w : World} {A : Around} {E : Value → Shared → Prop} {s : Shared}
theorem enum1_begins {v : Value} {o : Obj} {H : Heap → Prop} {Q : Value → Shared → Prop} (B : Begins v o H) (h1 : H s.heap)
    (h : ∀ h', IsEnum h' (s.heap.objs.size + 1) s.heap.objs.size 0 .none → h'.get? s.heap.objs.size = some o → h'.objs.size = s.heap.objs.size + 2 → (∀ b o, s.heap.get? b = some o → h'.get? b = some o) → Q (.ref (s.heap.objs.size + 1)) { s with heap := h' }) :
    wpAny (model prog w) A (call (.type "enumerate") [v]) Q E s := by
  refine callType_new F.called_enumerate (by decide) (F.typeCall_enumerate_1 _) (F.newCall_enumerate_1 _) (fun obj => F.args_object_init_2 obj _) F.entry_enumerate_new (enum1_new B) ⟨h1, ?_⟩
  have hz : (s.heap.push o).objs.size = s.heap.objs.size + 1 := Heap.size_push ..
  show _ ∧ _
  rw [hz]
  have he : IsEnum ((s.heap.push o).push { cls := .type "enumerate", data := .fields #[.none, .bool false, .ref s.heap.objs.size, rawInt 0, .none, .none] }) (s.heap.objs.size + 1) s.heap.objs.size 0 .none := by
    have q := Heap.get?_push_size (s.heap.push o) (o := { cls := .type "enumerate", data := .fields #[.none, .bool false, .ref s.heap.objs.size, rawInt 0, .none, .none] }) rfl
    rw [hz] at q
    exact q
  exact ⟨⟨_, he, rfl⟩, h _ he (Heap.get?_push_of_some _ (Heap.get?_push_size _ B.free)) (by rw [Heap.size_push, hz]) fun b o x => Heap.get?_push_of_some _ (Heap.get?_push_of_some _ x)⟩
end
def IteT (K : PySem.W.Frag) (a : Addr) : It :=
  ⟨fun i H => ∃ (xs : List V) (x : V), SqT K H a xs ∧ xs[i]? = some x, fun i H v H' => ∃ T x, v = .ref T ∧ H T = none ∧ H' = upd H T (.tup [.int (i : Nat), x]) ∧ ∀ xs, SqT K H a xs → xs[i]? = some x, fun i H => ∃ xs : List V, SqT K H a xs ∧ xs.length = i⟩
theorem turn_enumT {P : Program} {w : World} {K : PySem.W.Frag} {elts : List Expr} {kk : Nat} {tpos : Pos} (a e it : Addr) (hea : e ≠ a) (hia : a ≠ it) :
    Turn P w K (.Tuple elts kk tpos) (IteT K a) [e, it] e (fun i h => (∃ old, IsEnum h e it ((i : Nat) : Int) old) ∧ h.IsTupleIter it a i ∧ e ≠ it) where
  mem := by simp
  obj := fun i h st b hb => by
    obtain ⟨⟨old, he⟩, ⟨o, ho, hc, hd⟩, _⟩ := st
    rcases (show b = e ∨ b = it by simpa using hb) with rfl | rfl
    · exact ⟨_, he, fun v q => nomatch q⟩
    · exact ⟨o, ho, fun v q => by rw [hd] at q; cases q⟩
  keep := fun i h h' st k => let ⟨⟨old, he⟩, hi, hne⟩ := st; ⟨⟨old, k e (by simp) _ he⟩, hi.at fun o q => k it (by simp) o q, hne⟩
  item := by
    intro X hP hw hK hc i pins s σ H E I hf st hg
    subst hP hw hK
    obtain ⟨⟨old, he⟩, hit, hne⟩ := st
    obtain ⟨xs, x, hq, hx⟩ := hg
    obtain ⟨its, rv, p, hz⟩ := I.tuple hq
    obtain ⟨u, hu, ru⟩ := rv.get hx
    have hel : e < s.heap.objs.size := Heap.lt_size he
    have hil : it < s.heap.objs.size := by obtain ⟨_, q, _⟩ := hit; exact Heap.lt_size q
    have hlt : i < its.toArray.size := by
      have := (List.getElem?_eq_some_iff.mp hu).1
      simpa using this
    refine wpAny_pyNext_enum_itemD (Draws.tuple (show X.A.in1.handled = none from I.ok.hd hc) it a hia its.toArray) he ⟨hit, p⟩ hlt hne (by simp [hne, hea]) fun y h' tk hy ho hit' hT hsz hk => ?_
    have hy' : its[i]? = some y := by simpa using hy
    rw [hu] at hy'
    cases hy'
    refine ⟨_, rfl, wpAny_letOwnedTupleGo_enum (s := { s with heap := h', toks := tk + 1 }) ho fun h'' he' sb => ?_⟩
    have hT2 : h''.get? s.heap.objs.size = some { cls := .type "tuple", data := .seq #[.int i tk, u] } := (sb.2 _ (Nat.ne_of_gt hel)).trans hT
    have new : ObjOk X.prog X.w (upd H s.heap.objs.size (.tup [.int (i : Nat), x])) h'' s.heap.objs.size (.tup [.int (i : Nat), x]) := ⟨by show 2 ≤ sizeLine; decide, [.int i tk, u], .cons ⟨_, rfl⟩ (.cons ru .nil), ⟨_, hT2, rfl, _, rfl⟩⟩
    have I1 : Inv X pins σ (upd H s.heap.objs.size (.tup [.int (i : Nat), x])) { s with heap := h'', toks := tk + 1 } :=
      I.turnedNew (ch := [e, it]) (fun b ob hb q => (sb.2 b (fun z => hb (by simp [z]))).trans (hk b ob (fun z => hb (by simp [z])) (fun z => hb (by simp [z])) q)) hf (Nat.le_refl _) new
    refine ⟨.ref s.heap.objs.size, _, I1, rfl, ⟨_, x, rfl, I.hok.fresh (Nat.le_refl _), rfl, fun ys hy => by rw [I.tuple_inj hy hq]; exact hx⟩, ⟨⟨u, ?_⟩, hit'.1.at fun o q => (sb.2 it (Ne.symm hne)).trans q, hne⟩, fun b hb => ?_⟩
    · rw [show ((i + 1 : Nat) : Int) = (i : Int) + 1 by omega]
      exact he'
    · have hb' : b < s.heap.objs.size := by
        rcases (show b = e ∨ b = it by simpa using hb) with rfl | rfl
        · exact hel
        · exact hil
      rw [upd_ne (Nat.ne_of_lt hb')]
      exact (hf b hb).1
  done := by
    intro X hP hw hK hc i pins s σ H E I hf st hg
    subst hP hw hK
    obtain ⟨⟨old, he⟩, hit, hne⟩ := st
    obtain ⟨xs, hq, hx⟩ := hg
    obtain ⟨its, rv, p, hz⟩ := I.tuple hq
    obtain ⟨f0, f1, f2, f3, f4, f5⟩ := hf it (by simp)
    have hl : i = its.toArray.size := by
      have := rv.length
      simp only [List.size_toArray]
      omega
    rw [hl] at hit
    exact wpAny_pyNext_enum_endD (Draws.tuple (show X.A.in1.handled = none from I.ok.hd hc) it a hia its.toArray) he ⟨hit, p⟩ fun h' eb => ⟨rfl, I.turned (t' := s.toks) (fun b o hb q => eb b o hb q) f0 f1 f3 f4 f5⟩
  self := fun A i s Q E st h => let ⟨⟨_, he⟩, _⟩ := st; wpAny_pyIter_enum he h
/-- enumerate of a list or a tuple -/
def iEnA (K : PySem.W.Frag) (ta : TA) : TI := fun σ H R => ta σ H fun vs H1 => ∃ a xs, vs = [.ref a] ∧ ((SqL K H1 a xs ∧ R (Ite K a) H1) ∨ (SqT K H1 a xs ∧ R (IteT K a) H1))
theorem pi_enA {X : Cx} {e : Expr} {ta : TA} {p pos tpos : Pos} {elts : List Expr} {kk : Nat} (hg : Gl X "enumerate") (hm : X.mg "enumerate" = none) (ha : PA X [e] ta) (hs : starEach [e] X.env = [(false, eval e X.env)] := by rfl) :
    PI X (.Tuple elts kk tpos) (.Call (.Name "enumerate" p) [e] [] pos) (iEnA X.K ta) := by
  refine ⟨fun pins s σ H R I h => ?_⟩
  refine Call_ (ld_blt I hg hm boot_enumerate (PyProof.Rows.callWith_type1 (thn (ha.run pos pins s σ H _ I h) fun us s1 ⟨vs, H1, I1, r1, q1⟩ => ?_) hs rfl))
  obtain ⟨a, xs, ex, q⟩ := q1
  subst ex
  cases r1 with
  | cons r rr =>
    cases rr
    cases r
    have fresh2 : ∀ b, b ∈ [s1.heap.objs.size + 1, s1.heap.objs.size] → FpOk X pins H1 b := fun b hb => by
      have hle : s1.heap.objs.size ≤ b := by
        rcases (show b = s1.heap.objs.size + 1 ∨ b = s1.heap.objs.size by simpa using hb) with rfl | rfl
        · exact Nat.le_add_right _ _
        · exact Nat.le_refl _
      exact I1.fpOk hle (I1.hok.fresh hle)
    rcases q with ⟨hq, q⟩ | ⟨hq, q⟩
    · obtain ⟨its, rv, p', hz⟩ := I1.list hq
      refine call_enumerate_list p'.isList fun h' he hit hsz hk => wpAny_pyIter_enum he ?_
      have I2 : Inv X pins σ H1 { s1 with heap := h' } := I1.kept (t' := s1.toks) hk
      exact ⟨s1.heap.objs.size + 1, [s1.heap.objs.size + 1, s1.heap.objs.size], _, _, H1, rfl, I2, turn_enum a (s1.heap.objs.size + 1) s1.heap.objs.size, ⟨⟨.none, he⟩, hit, Nat.succ_ne_self _⟩, fresh2, q⟩
    · obtain ⟨its, rv, p', hz⟩ := I1.tuple hq
      obtain ⟨o, ho, _⟩ := id p'
      have ha : a < s1.heap.objs.size := Heap.lt_size ho
      refine enum1_begins (begins_tuple a its.toArray) (show s1.heap.IsTuple a its.toArray from p') fun h' he hit hsz hk => wpAny_pyIter_enum he ?_
      have I2 : Inv X pins σ H1 { s1 with heap := h' } := I1.kept (t' := s1.toks) hk
      exact ⟨s1.heap.objs.size + 1, [s1.heap.objs.size + 1, s1.heap.objs.size], _, _, H1, rfl, I2, turn_enumT a (s1.heap.objs.size + 1) s1.heap.objs.size (Nat.ne_of_gt (Nat.lt_succ_of_lt ha)) (Nat.ne_of_lt ha), ⟨⟨.none, he⟩, ⟨_, hit, rfl, rfl⟩, Nat.succ_ne_self _⟩, fresh2, q⟩

/-! ### .. over data -/
section
variable {c : CT} {X : Cx} {W : WX'} {w wa wb : Bool} {a b e : Expr} {ta tb : ET} {pos p tpos : Pos} {elts : List Expr} {kk : Nat}
/-- the items with their numbers -/
def enD (ds : List D) : List D := (List.range ds.length).zipWith (fun i d => .tup [.int (i : Nat), d]) ds
theorem enD_len {ds : List D} : (enD ds).length = ds.length := by simp [enD]
theorem enD_get {ds : List D} {i : Nat} {d : D} (h : ds[i]? = some d) : (enD ds)[i]? = some (.tup [.int (i : Nat), d]) := by
  have hi := (List.getElem?_eq_some_iff.mp h).1
  unfold enD
  rw [List.getElem?_zipWith, List.getElem?_range hi, h]
theorem pair_new {G G' H : Hp} {T : Addr} {x y : V} {d1 d2 : D} (s2 : Sub G H) (hT : H T = none) (r1 : RD c G d1 x) (r2 : RD c G d2 y) :
    Sub G (upd G T (.tup [x, y])) ∧ Sub (upd G T (.tup [x, y])) (upd H T (.tup [x, y])) ∧ Sub H (upd H T (.tup [x, y])) ∧ (∀ a o, upd G T (.tup [x, y]) a = some o → G a = some o ∨ H a = none) ∧ RD c (upd G T (.tup [x, y])) (.tup [d1, d2]) (.ref T) := by
  have hG := s2.no hT
  refine ⟨Sub.new hG, s2.both, Sub.new hT, fun a o z => ?_, ?_⟩
  · by_cases h : a = T
    · subst h; exact .inr hT
    · rw [upd_ne h] at z; exact .inl z
  · simp only [RD, RDs]
    exact ⟨T, [x, y], rfl, upd_same, x, [y], rfl, RD.mono (Sub.new hG) _ _ r1, y, [], rfl, RD.mono (Sub.new hG) _ _ r2, rfl⟩
theorem walkD_enL {G' : Hp} {a : Addr} {vs : List V} {ds : List D} (h1 : G' a = some (.lst vs)) (h2 : RDs c G' ds vs) : WalkD c (Ite c.K a) (enD ds) G' := by
  unfold WalkD
  rw [enD_len, h2.len]
  refine ⟨fun i H hi s => ⟨vs, vs[i], SqL.of (s _ _ h1), by simp [hi]⟩, fun H s => ⟨vs, SqL.of (s _ _ h1), Nat.le_refl _⟩, fun i H v H' hi s y G s1 s2 => ?_⟩
  obtain ⟨T, x, rfl, hT, rfl, hx⟩ := y
  obtain ⟨d, e1, r⟩ := h2.getV (hx vs (SqL.of (s _ _ h1)))
  obtain ⟨k1, k2, k3, k4, k5⟩ := pair_new (G' := G) (d1 := .int (i : Nat)) s2 hT (show RD c G (.int (i : Nat)) (.int (i : Nat)) by simp only [RD]) (RD.mono s1 d x r)
  exact ⟨_, _, k1, k2, k3, k4, enD_get e1, k5⟩
theorem walkD_enT {G' : Hp} {a : Addr} {vs : List V} {ds : List D} (h1 : G' a = some (.tup vs)) (h2 : RDs c G' ds vs) : WalkD c (IteT c.K a) (enD ds) G' := by
  unfold WalkD
  rw [enD_len, h2.len]
  refine ⟨fun i H hi s => ⟨vs, vs[i], SqT.of (s _ _ h1), by simp [hi]⟩, fun H s => ⟨vs, SqT.of (s _ _ h1), rfl⟩, fun i H v H' hi s y G s1 s2 => ?_⟩
  obtain ⟨T, x, rfl, hT, rfl, hx⟩ := y
  obtain ⟨d, e1, r⟩ := h2.getV (hx vs (SqT.of (s _ _ h1)))
  obtain ⟨k1, k2, k3, k4, k5⟩ := pair_new (G' := G) (d1 := .int (i : Nat)) s2 hT (show RD c G (.int (i : Nat)) (.int (i : Nat)) by simp only [RD]) (RD.mono s1 d x r)
  exact ⟨_, _, k1, k2, k3, k4, enD_get e1, k5⟩
/-- a sequence's items, the slot's list frozen -/
def fzL (r : Rv) (ε : Env) : Option (Bool × List D × Env) := (r.fz ε).bind fun q => match q.1 with
  | .lst ds => some (false, ds, q.2)
  | .tup ds => some (true, ds, q.2)
  | _ => none
def tItE (t : AT) : IT := fun ε Q EX => t ε (fun rs ε1 => ∃ r b ds ε2, rs = [r] ∧ fzL r ε1 = some (b, ds, ε2) ∧ Q (enD ds) ε2) EX
theorem di_enum {t : AT} (hk : c.K = X.K) (hg : Gl X "enumerate") (hm : X.mg "enumerate" = none) (ha : DA X c W wa [a] t) (hs : starEach [a] X.env = [(false, eval a X.env)] := by rfl) : DI X c W wa (.Tuple elts kk tpos) (.Call (.Name "enumerate" p) [a] [] pos) (tItE t) := by
  obtain ⟨ta, pa, k⟩ := ha.ex
  refine ⟨_, pi_enA hg hm pa hs, fun G H σ ε F Q EX R S h o xo => ?_⟩
  refine k G H σ ε F _ EX _ S h (fun rs ε1 vs G1 H1 F1 Ft ⟨r, b, ds, ε2, e0, e1, q⟩ s1 S1 v1 t1 => ?_) xo
  subst e0
  obtain ⟨v, us, Fa, Fb, rfl, f1, f2, f3, v1, rest⟩ := v1
  obtain rfl : us = [] := rest
  have ta : Tmp H F G1 H1 F1 Fa := ⟨fun z h => t1.dj z (f1 z h), fun z h => t1.g z (f1 z h), fun z h => t1.fd z (f1 z h), fun z h => t1.n z (f1 z h)⟩
  unfold fzL at e1
  cases e2 : r.fz ε1 with
  | none => rw [e2] at e1; cases e1
  | some q2 =>
    obtain ⟨d, ε3⟩ := q2
    rw [e2] at e1
    obtain ⟨G2, F2, g1, g2, g3, g4, g5, g6⟩ := RV.fzS s1 S1 v1 ta e2
    cases d <;> simp only [Option.bind_some, Option.some.injEq, Prod.mk.injEq, reduceCtorEq] at e1
    · rename_i ds'
      obtain ⟨_, rfl, rfl⟩ := e1
      simp only [RD] at g6
      obtain ⟨a1, vs, rfl, k1, k2⟩ := g6
      refine ⟨a1, vs, rfl, .inr ⟨by rw [← hk]; exact SqT.of (g5.gh _ _ k1), ?_⟩⟩
      rw [← hk]
      exact o _ _ _ G2 H1 F2 q g1 g5 (walkD_enT k1 k2)
    · rename_i ds'
      obtain ⟨_, rfl, rfl⟩ := e1
      simp only [RD] at g6
      obtain ⟨a1, vs, rfl, k1, k2⟩ := g6
      refine ⟨a1, vs, rfl, .inl ⟨by rw [← hk]; exact SqL.of (g5.gh _ _ k1), ?_⟩⟩
      rw [← hk]
      exact o _ _ _ G2 H1 F2 q g1 g5 (walkD_enL k1 k2)
end
end DL

namespace DL
open PySem PySem.Spec L2
section
variable {c : CT} {X : Cx} {W : WX'} {w wa wb : Bool} {a b e : Expr} {ta tb : ET} {pos p p2 tpos : Pos} {elts : List Expr} {kk : Nat}
/-! ### zip of two lists, of two tuples -/
def zpD (xs ys : List D) : List D := List.zipWith (fun x y => .tup [x, y]) xs ys
theorem zpD_get {xs ys : List D} {i : Nat} {x y : D} (h : xs[i]? = some x) (k : ys[i]? = some y) : (zpD xs ys)[i]? = some (.tup [x, y]) := by
  unfold zpD
  rw [List.getElem?_zipWith, h, k]
theorem zpD_len {xs ys : List D} : (zpD xs ys).length = min xs.length ys.length := by simp [zpD]
theorem walkD_zL {G' : Hp} {a b : Addr} {vs us : List V} {ds es : List D} (h1 : G' a = some (.lst vs)) (h2 : RDs c G' ds vs) (k1 : G' b = some (.lst us)) (k2 : RDs c G' es us) : WalkD c (Itz c.K a b) (zpD ds es) G' := by
  unfold WalkD
  rw [zpD_len, h2.len, k2.len]
  refine ⟨fun i H hi s => ⟨vs, us, vs[i]'(by omega), us[i]'(by omega), SqL.of (s _ _ h1), SqL.of (s _ _ k1), by simp, by simp⟩, fun H s => ⟨vs, us, SqL.of (s _ _ h1), SqL.of (s _ _ k1), by omega⟩, fun i H v H' hi s y G s1 s2 => ?_⟩
  obtain ⟨T, x, z, rfl, hT, rfl, hx, hz⟩ := y
  obtain ⟨d, e1, r⟩ := h2.getV (hx vs (SqL.of (s _ _ h1)))
  obtain ⟨d2, e2, r2⟩ := k2.getV (hz us (SqL.of (s _ _ k1)))
  obtain ⟨q1, q2, q3, q4, q5⟩ := pair_new (G' := G) s2 hT (RD.mono s1 d x r) (RD.mono s1 d2 z r2)
  exact ⟨_, _, q1, q2, q3, q4, zpD_get e1 e2, q5⟩
theorem walkD_zT {G' : Hp} {a b : Addr} {vs us : List V} {ds es : List D} (h1 : G' a = some (.tup vs)) (h2 : RDs c G' ds vs) (k1 : G' b = some (.tup us)) (k2 : RDs c G' es us) : WalkD c (RZ.ItzT c.K a b) (zpD ds es) G' := by
  unfold WalkD
  rw [zpD_len, h2.len, k2.len]
  refine ⟨fun i H hi s => ⟨vs, us, vs[i]'(by omega), us[i]'(by omega), SqT.of (s _ _ h1), SqT.of (s _ _ k1), by simp, by simp⟩, fun H s => ⟨vs, us, SqT.of (s _ _ h1), SqT.of (s _ _ k1), by omega⟩, fun i H v H' hi s y G s1 s2 => ?_⟩
  obtain ⟨T, x, z, rfl, hT, rfl, hx, hz⟩ := y
  obtain ⟨d, e1, r⟩ := h2.getV (hx vs (SqT.of (s _ _ h1)))
  obtain ⟨d2, e2, r2⟩ := k2.getV (hz us (SqT.of (s _ _ k1)))
  obtain ⟨q1, q2, q3, q4, q5⟩ := pair_new (G' := G) s2 hT (RD.mono s1 d x r) (RD.mono s1 d2 z r2)
  exact ⟨_, _, q1, q2, q3, q4, zpD_get e1 e2, q5⟩
/-- both frozen -/
def fz2 (r r' : Rv) (ε : Env) : Option (D × D × Env) := (r.fz ε).bind fun q => (r'.fz q.2).map fun q2 => (q.1, q2.1, q2.2)
def zpItems : D → D → Option (List D)
  | .lst xs, .lst ys => some (zpD xs ys)
  | .tup xs, .tup ys => some (zpD xs ys)
  | _, _ => none
def tItZ (t : AT) : IT := fun ε Q EX => t ε (fun rs ε1 => ∃ ts ds ε2, owns rs ε1 = some (ts, ε2) ∧ (∃ x y, T.ds ts = [x, y] ∧ zpItems x y = some ds) ∧ Q ds ε2) EX
theorem di_zip {t : AT} (hk : c.K = X.K) (hg : Gl X "zip") (hm : X.mg "zip" = none) (ha : DA X c W wa [a, b] t)
    (hs : starEach [a, b] X.env = (false, eval a X.env) :: starEach [b] X.env := by rfl) (hpl : (backTo pos (starEach [b] X.env)).any (·.1) = false := by rfl) : DI X c W wa (.Tuple elts kk tpos) (.Call (.Name "zip" p) [a, b] [] pos) (tItZ t) := by
  obtain ⟨ta, pa, k⟩ := ha.ex
  refine ⟨_, RZ.pi_zipA hg hm pa hs hpl, fun G H σ ε F Q EX R S h o xo => ?_⟩
  refine k G H σ ε F _ EX _ S h (fun rs ε1 vs G1 H1 F1 Ft ⟨ts, ds, ε2, e1, ⟨x, y, e2, e3⟩, q⟩ s1 S1 v1 tm => ?_) xo
  obtain ⟨G2, F2, g1, g2, g3, S2, rt⟩ := v1.toT S1 tm.dj tm.g e1
  have dj : ∀ a, Ft a → F2 a → False := fun a z z2 => tm.dj a z (g3 a z2)
  have s2 : Step wa G H F G2 H1 F2 := ⟨s1.g.trans g1, s1.h, fun a o z => (g2 a o z).elim (s1.n a o) fun z => (s1.f a z).elim (fun z => .inr (.inr z)) fun z => .inr (.inl z), fun a z => s1.f a (g3 a z)⟩
  have t2 : Tmp H F G2 H1 F2 Ft := ⟨dj, fun a z => by
    cases e : G2 a with
    | none => rfl
    | some o =>
      rcases g2 a o e with k | k
      · rw [tm.g a z] at k; cases k
      · exact (tm.dj a z k).elim, tm.fd, tm.n⟩
  have s3 := t2.step s2
  have S3 := S2.frzT dj
  have rd := RTs.frz S2.gh rt
  rw [e2] at rd
  simp only [RDs] at rd
  obtain ⟨u, _, rfl, r1, v, _, rfl, r2, rfl⟩ := rd
  cases x <;> cases y <;> simp only [zpItems, Option.some.injEq, reduceCtorEq] at e3
  · subst e3
    simp only [RD] at r1 r2
    obtain ⟨a1, vs, rfl, k1, k2⟩ := r1
    obtain ⟨b1, us, rfl, k3, k4⟩ := r2
    refine ⟨a1, b1, vs, us, rfl, .inr ⟨by rw [← hk]; exact SqT.of (S3.gh _ _ k1), by rw [← hk]; exact SqT.of (S3.gh _ _ k3), ?_⟩⟩
    rw [← hk]
    exact o _ _ _ _ H1 F2 q s3 S3 (walkD_zT k1 k2 k3 k4)
  · subst e3
    simp only [RD] at r1 r2
    obtain ⟨a1, vs, rfl, k1, k2⟩ := r1
    obtain ⟨b1, us, rfl, k3, k4⟩ := r2
    refine ⟨a1, b1, vs, us, rfl, .inl ⟨by rw [← hk]; exact SqL.of (S3.gh _ _ k1), by rw [← hk]; exact SqL.of (S3.gh _ _ k3), ?_⟩⟩
    rw [← hk]
    exact o _ _ _ _ H1 F2 q s3 S3 (walkD_zL k1 k2 k3 k4)

/-! ### list(range(n)) -/
def tLr (ta : ET) : ET := fun ε Q EX => ta ε (fun r ε1 => ∃ j : Int, r.vw ε1 = some (.int j) ∧ (0 ≤ j ∧ j ≤ 1000000) ∧ Q (.own (.lst ((rgD 0 j.toNat).map .fr))) ε1) EX
theorem rgD_rds {G : Hp} (n : Nat) : RDs c G (rgD 0 n) ((List.range n).map fun i => V.int (i : Nat)) := by
  unfold rgD
  generalize List.range n = l
  induction l with
  | nil => simp only [List.map_nil, RDs]
  | cons i l ih =>
    simp only [List.map_cons, RDs, RD]
    exact ⟨_, _, rfl, by rw [Int.zero_add], ih⟩
theorem rgV_rds {G : Hp} {j : Int} : RDs c G (rgD 0 j.toNat) (rgV 0 j) := by
  have h := rgD_rds (c := c) (G := G) j.toNat
  unfold rgV
  simpa only [Int.zero_add, Int.sub_zero] using h
theorem de_listRange (hc : X.calm = true) (hg : Gl X "list") (hm : X.mg "list" = none) (hg2 : Gl X "range") (hm2 : X.mg "range" = none) (ha : DE X c W wa a ta)
    (hs : starEach [a] X.env = (false, eval a X.env) :: starEach [] X.env := by rfl) (hs2 : starEach [.Call (.Name "range" p2) [a] [] tpos] X.env = (false, eval (.Call (.Name "range" p2) [a] [] tpos) X.env) :: starEach [] X.env := by rfl) :
    DE X c W wa (.Call (.Name "list" p) [.Call (.Name "range" p2) [a] [] tpos] [] pos) (tLr ta) := by
  obtain ⟨tea, pa, k⟩ := one ha
  refine ⟨_, pe_listRg hc hg hm (prg_1 hg2 hm2 pa hs) hs2, fun G H σ ε F Q EX QH S h o xo => ?_⟩
  refine k G H σ ε F _ EX _ S h xo fun r1 ε1 x G1 H1 F1 Fa ⟨j, e1, hj, q⟩ s1 S1 v1 t1 _ => ?_
  have ex := rd_int (v1.now S1 e1)
  subst ex
  refine ⟨j, rfl, ?_⟩
  have h0 : 0 ≤ j := hj.1
  · refine ⟨RgOk.of_le (by omega) (by omega) (by omega) h0, fun q0 hq => ?_⟩
    obtain ⟨g1, g2, g3, g4⟩ := newL s1 S1 hq (rgV_rds (j := j))
    exact o _ _ _ _ _ _ _ q g1 g2 g3 g4
/-! ### sorted(ints) -/
theorem rds_ints {G : Hp} : ∀ ns : List Int, RDs c G (ns.map D.int) (ns.map V.int)
  | [] => by simp only [List.map_nil, RDs]
  | n :: ns => by
    simp only [List.map_cons, RDs, RD]
    exact ⟨_, _, rfl, rfl, rds_ints ns⟩
def tSo (t : AT) : ET := fun ε Q EX => t ε (fun rs ε1 => ∃ r ds ns, rs = [r] ∧ r.sq ε1 = .l ds ∧ intsD ds = some ns ∧ ∀ ns' : List Int, ns'.Perm ns → ns'.Pairwise (· ≤ ·) → Q (.own (.lst ((ns'.map D.int).map .fr))) ε1) EX
theorem de_sorted {t : AT} (hk : c.K = X.K) (ha : DA X c W wa [a] t) (hg : Gl X "sorted") (hm : X.mg "sorted" = none)
    (he : starEach [a] X.env = (false, eval a X.env) :: starEach [] X.env := by rfl) (hpl : (backTo pos (starEach [] X.env)).any (·.1) = false := by rfl) : DE X c W wa (.Call (.Name "sorted" p) [a] [] pos) (tSo t) := by
  obtain ⟨ta, pa, k⟩ := ha.ex
  refine ⟨_, pe_callB cr_sortedI hg hm (by decide +kernel) pa (by decide) (by decide) he hpl, fun G H σ ε F Q EX QH S h o xo => ?_⟩
  refine k G H σ ε F _ EX _ S h (fun rs ε1 vs G1 H1 F1 Ft ⟨r, ds, ns, e0, e1, e2, q⟩ s1 S1 v1 t1 => ?_) xo
  subst e0
  obtain ⟨v, us, Fa, Fb, rfl, f1, f2, f3, v1, rest⟩ := v1
  obtain rfl : us = [] := rest
  have sp := v1.sq S1
  rw [e1] at sp
  obtain ⟨a1, vs, rfl, k1, k2⟩ := sp
  have hv := intsD_V k2 e2
  subst hv
  refine ⟨a1, ns, rfl, by rw [← hk]; exact SqL.of k1, fun ns' p hp1 hp2 hp => ?_⟩
  obtain ⟨g1, g2, g3, g4⟩ := newL s1 S1 hp (rds_ints (c := c) (G := G1) ns')
  exact o _ _ _ _ _ _ _ (q ns' hp1 hp2) g1 g2 g3 g4
end
end DL

namespace DL
open PySem PySem.Spec L2
/-! ### dicts with plain keys -/
def eqK : D → Key → Bool
  | .int i, .inl j => decide (i = j)
  | .str x, .inr y => decide (x = y)
  | _, _ => false
def ixK : List D → Key → Option Nat
  | [], _ => none
  | d :: ds, k => if eqK d k = true then some 0 else (ixK ds k).map (· + 1)
theorem eqK_key {k k' : Key} : eqK (keyD k) k' = decide (k = k') := by
  cases k <;> cases k' <;> simp [keyD, eqK]
theorem val_ix {k : Key} : ∀ {kvs : List (Key × V)}, valV kvs k = (ixK (kvs.map fun p => keyD p.1) k).bind fun i => (kvs.map (·.2))[i]?
  | [] => rfl
  | p :: r => by
    rw [List.map_cons]
    simp only [ixK, eqK_key]
    by_cases h : p.1 = k
    · rw [valV_pos h]
      simp [h]
    · rw [valV_neg h, val_ix (kvs := r)]
      simp only [h, decide_false, Bool.false_eq_true, if_false, List.map_cons]
      cases ixK (r.map fun p => keyD p.1) k <;> simp
/-- a value in its place (data), the keys as they were -/
def inK : List D → List T → Key → D → List T
  | kk :: ks, t :: ts, k, d => (if eqK kk k = true then .fr d else t) :: inK ks ts k d
  | _, ts, _, _ => ts
def putKs (ks : List D) (ts : List T) (k : Key) (d : D) : List D × List T := if ks.any (fun x => eqK x k) = true then (ks, inK ks ts k d) else (ks ++ [keyD k], ts ++ [.fr d])
theorem any_key {k : Key} : ∀ {kvs : List (Key × V)}, ((kvs.map fun p => keyD p.1).any fun x => eqK x k) = kvs.any fun kv => decide (kv.1 = k)
  | [] => rfl
  | p :: r => by simp only [List.map_cons, List.any_cons, eqK_key, any_key (kvs := r)]
theorem put_rts {c : CT} {G H : Hp} {k : Key} {d : D} {v : V} (r : RD c G d v) {kvs : List (Key × V)} {ts : List T} {F : FS} (h : RTs c G H ts (kvs.map (·.2)) F) :
    (putKs (kvs.map fun p => keyD p.1) ts k d).1 = (putK kvs k v).map (fun p => keyD p.1) ∧ RTs c G H (putKs (kvs.map fun p => keyD p.1) ts k d).2 ((putK kvs k v).map (·.2)) F := by
  unfold putKs putK
  rw [any_key]
  by_cases ha : (kvs.any fun kv => decide (kv.1 = k)) = true
  · rw [if_pos ha, if_pos ha]
    clear ha
    induction kvs generalizing ts F with
    | nil =>
      refine ⟨rfl, ?_⟩
      simp only [List.map_nil, inK] at h ⊢
      exact h
    | cons p kvs ih =>
      cases ts with
      | nil => simp only [List.map_cons, RTs, reduceCtorEq] at h
      | cons t ts =>
        simp only [List.map_cons, RTs, List.cons.injEq] at h
        obtain ⟨x, q, F1, F2, ⟨rfl, rfl⟩, h1, h2, h3, h4, h5⟩ := h
        obtain ⟨e1, e2⟩ := ih h5
        simp only at e1 e2
        refine ⟨?_, ?_⟩
        · simp only [List.map_cons]
          rw [← e1]
          congr 1
          split <;> rfl
        · simp only [List.map_cons, inK, RTs, eqK_key]
          refine ⟨_, _, F1, F2, rfl, h1, h2, h3, ?_, e2⟩
          by_cases hk : p.1 = k
          · simp only [hk, decide_true, if_true, RT]
            exact r
          · simp only [hk, decide_false, Bool.false_eq_true, if_false]
            exact h4
  · rw [if_neg ha, if_neg ha]
    refine ⟨by rw [List.map_append, List.map_singleton], ?_⟩
    rw [List.map_append, List.map_singleton]
    exact RTs.stay (Sub.refl _) _ _ _ F (fun _ z => z.elim id fun z => z.elim) (fun _ _ _ z => z) (RTs.app (Fb := eNo) h (show RTs c G H [.fr d] [v] eNo by
      simp only [RTs, RT]
      exact ⟨v, [], eNo, eNo, rfl, fun _ z => z, fun _ z => z, fun _ z => z.elim, r, rfl⟩) fun _ _ z => z.elim)
/-- the dict there, with plain keys -/
def dicAt (r : Rv) (ε : Env) : Option (List D × List T) := match r.tr ε with
  | some (.dic ks ts) => if ks.head?.any D.isN = true then none else some (ks, ts)
  | some (.fr (.dic ks ds)) => if ks.head?.any D.isN = true then none else some (ks, ds.map .fr)
  | _ => none
def keyAt (r : Rv) (ε : Env) : Option Key := match r.vw ε with
  | some (.int i) => some (.inl i)
  | some (.str x) => some (.inr x)
  | _ => none
section
variable {c : CT} {G H : Hp} {σ : L2.St} {ε : Env} {F Ft : FS} {x : V} {r : Rv}
theorem keyAt_V {k : Key} (S : Sat c G H σ ε F) (rv : RV c G H σ r x Ft) (e : keyAt r ε = some k) : x = kV k := by
  unfold keyAt at e
  split at e
  · rename_i i q
    cases e
    exact rd_int (rv.now S q)
  · rename_i y q
    cases e
    have := rv.now S q
    show x = V.str y
    simpa only [RD] using this
  · cases e
theorem dicAt_V {ks : List D} {ts : List T} (S : Sat c G H σ ε F) (rv : RV c G H σ r x Ft) (e : dicAt r ε = some (ks, ts)) :
    ∃ (a : Addr) (kvs : List (Key × V)) (Fc : FS), x = .ref a ∧ H a = some (.dK kvs) ∧ ks = kvs.map (fun p => keyD p.1) ∧ RTs c G H ts (kvs.map (·.2)) Fc := by
  unfold dicAt at e
  split at e
  · rename_i ks' ts' e0
    split at e
    · cases e
    · rename_i hn
      cases e
      obtain ⟨Fu, z⟩ := rv.rt S e0
      simp only [RT] at z
      obtain ⟨a, F', rfl, h2, h3, h4, ⟨kvs, h1, h6, h5⟩ | ⟨kvs, h1, h6, h5⟩⟩ := z
      · exact ⟨a, kvs, F', rfl, h1, h6, h5⟩
      · subst h6
        exact absurd rfl hn
  · rename_i ks' ds' e0
    split at e
    · cases e
    · rename_i hn
      cases e
      obtain ⟨Fu, z⟩ := rv.rt S e0
      simp only [RT, RD] at z
      obtain ⟨a, rfl, ⟨kvs, h1, h6, h5⟩ | ⟨kvs, h1, h6, h5⟩⟩ := z
      · exact ⟨a, kvs, eNo, rfl, S.gh _ _ h1, h6, RDs.fr h5⟩
      · subst h6
        exact absurd rfl hn
  · cases e
end
section
variable {c : CT} {X : Cx} {W : WX'} {w wa wb wo we wx : Bool} {a b e f o : Expr} {ta tb to te tx : ET} {pos apos cpos : Pos}
/-- d.get(k, x): the values are data -/
def dgQ (ks : List D) (ts : List T) (k : Key) (rx : Rv) (ε : Env) (Q : EQ) : Prop := match ixK ks k with
  | some i => ∃ d, ts[i]? = some (.fr d) ∧ Q (.d d) ε
  | none => Q rx ε
def tDg2 (we wx : Bool) (to te tx : ET) : ET := fun ε Q EX => to ε (fun r ε1 => r.pend (we || wx) ∧ (dicAt r ε1).isSome = true ∧ te ε1 (fun rk ε2 => rk.pend wx ∧ tx ε2 (fun rx ε3 => ∃ ks ts k, dicAt r ε3 = some (ks, ts) ∧ keyAt rk ε3 = some k ∧ dgQ ks ts k rx ε3 Q) EX) EX) EX
theorem de_dget2 (hu : X.A.units + 1 < cLine) (ho : DE X c W wo o to) (he : DE X c W we e te) (hf : DE X c W wx f tx) (m : M2 X o "get" apos e f cpos) : DE X c W (wo || (we || wx)) (.Call (.Attribute o "get" apos) [e, f] [] cpos) (tDg2 we wx to te tx) := by
  obtain ⟨tO, po, ko⟩ := one ho
  obtain ⟨tE, pe, ke⟩ := one he
  obtain ⟨tX, px, kx⟩ := one hf
  refine ⟨_, pe_dget2 hu po pe px m, fun G H σ ε F Q EX QH S h oo xo => ?_⟩
  refine ko G H σ ε F _ EX _ S h xo fun r ε1 x G1 H1 F1 Fr ⟨pd, il, h1⟩ s1 S1 v1 t1 xo1 => ?_
  obtain ⟨⟨ks0, ts0⟩, e0⟩ := Option.isSome_iff_exists.mp il
  obtain ⟨a, kvs0, Fc0, rfl, k0, _, _⟩ := dicAt_V S1 v1 e0
  refine ⟨a, rfl, .inl ⟨kvs0, .inl k0⟩, ?_⟩
  refine ke G1 H1 σ ε1 F1 _ EX _ S1 h1 xo1 fun rk ε2 y G2 H2 F2 Fk ⟨pd2, h2⟩ s2 S2 v2 t2 xo2 => ?_
  refine kx G2 H2 σ ε2 F2 _ EX _ S2 h2 xo2 fun rx ε3 z G3 H3 F3 Fx ⟨ks, ts, k, e1, e2, q⟩ s3 S3 v3 t3 _ => ?_
  have s23 := s2.trans s3
  have v1' := v1.keep s23 pd t1.dj
  have v2' := v2.keep s3 pd2 t2.dj
  obtain ⟨a', kvs, Fc, ea, k1, k2, k3⟩ := dicAt_V S3 v1' e1
  cases ea
  have ey := keyAt_V S3 v2' e2
  subst ey
  refine ⟨_, DGet.k k1, ?_⟩
  rw [val_ix, ← k2]
  unfold dgQ at q
  cases q1 : ixK ks k with
  | none =>
    rw [q1] at q
    simp only [Option.bind_none, Option.getD_none]
    exact oo _ _ _ G3 H3 F3 Fx q (s1.trans s23) S3 v3 ((t3.pre s2).pre s1)
  | some i =>
    rw [q1] at q
    obtain ⟨d, e3, q⟩ := q
    obtain ⟨Fs, _, _, d3⟩ := k3.split
    obtain ⟨v, e4, r4⟩ := d3 i _ e3
    simp only [Option.bind_some, e4, Option.getD_some]
    simp only [RT] at r4
    exact oo _ _ _ G3 H3 F3 eNo q (s1.trans s23) S3 (by simpa only [RV] using r4) Tmp.no
/-- d[k] = v: data put into a slot's dict -/
def putDic (r : Rv) (ε : Env) (q : List D × List T) : Env := match r with
  | .at i p => match ε.at i with
    | some t => ε.set i (some (t.set p (.dic q.1 q.2)))
    | none => ε
  | _ => ε
def ownDic (r : Rv) (ε : Env) : Option (List D × List T) := match r with
  | .at i p => match (ε.at i).bind fun t => t.get p with
    | some (.dic ks ts) => if ks.head?.any D.isN = true then none else some (ks, ts)
    | _ => none
  | _ => none
def sDp (wi : Bool) (to ti te : ET) : ST' := fun D EX ε => te ε (fun rv ε1 => rv.pend true ∧ to ε1 (fun r ε2 => r.pend wi ∧ ti ε2 (fun rk ε3 => ∃ k d ε4 ks ts, keyAt rk ε3 = some k ∧ rv.fz ε3 = some (d, ε4) ∧ ownDic r ε4 = some (ks, ts) ∧ ks.length < sizeLine ∧ D.nx (putDic r ε4 (putKs ks ts k d))) EX) EX) EX
theorem ds_dput {wi : Bool} {i : Expr} {ti : ET} {spos : Pos} (he : DE X c W we e te) (ho : DE X c W wo o to) (hi : DE X c W wi i ti)
    (h : ∀ {tE tO tI : TE}, PE X e tE → PE X o tO → PE X i tI → PS X (.Assign [.Subscript o i apos] e spos) (tAsg tE (gSub tO tI rSetD))) : DS X c W (.Assign [.Subscript o i apos] e spos) (sDp wi to ti te) := by
  obtain ⟨tE, pe, ke⟩ := one he
  obtain ⟨tO, po, ko⟩ := one ho
  obtain ⟨tI, pi, ki⟩ := one hi
  refine ⟨_, h pe po pi, fun G H σ ε F D EX DH S hh l xo => ?_⟩
  refine ke G H σ ε F _ EX _ S hh xo.at fun rv ε1 y G1 H1 F1 Fy ⟨pd1, h1⟩ s1 S1 v1 t1 xo1 => ?_
  refine ko G1 H1 σ ε1 F1 _ EX _ S1 h1 xo1 fun r ε2 x G2 H2 F2 Fr ⟨pd2, h2⟩ s2 S2 v2 t2 xo2 => ?_
  refine ki G2 H2 σ ε2 F2 _ EX _ S2 h2 xo2 fun rk ε3 z G3 H3 F3 Fz ⟨k, d, ε4, ks, ts, e1, e2, e3, hl, q⟩ s3 S3 v3 t3 _ => ?_
  have ez := keyAt_V S3 v3 e1
  subst ez
  have s12 := s1.trans s2
  have s123 := s12.trans s3
  have pdt : ∀ {w : Bool}, rv.pend w := by
    intro w
    cases rv with
    | d _ => trivial
    | own _ => trivial
    | «at» i p =>
      cases p with
      | nil => trivial
      | cons a b => exact nomatch (show true = false from pd1)
  have y3 := (v1.keep s2 pdt t1.dj).keep s3 pdt (t1.keep s2).dj
  have ty3 := (t1.keep s2).keep s3
  obtain ⟨G4, F4, s4, g4, n4, f4, S4, rd⟩ := RV.fzS s123 S3 y3 ty3 e2
  cases r with
  | d _ => cases e3
  | own _ => cases e3
  | «at» j p =>
    have x3 := v2.keep s3 pd2 t2.dj
    obtain ⟨v0, w1, w2⟩ := x3
    simp only [ownDic] at e3
    cases q0 : ε4.at j with
    | none => rw [q0] at e3; cases e3
    | some t =>
      rw [q0] at e3
      simp only [Option.bind_some] at e3
      cases q1 : t.get p with
      | none => rw [q1] at e3; cases e3
      | some u =>
        rw [q1] at e3
        cases u with
        | fr _ => cases e3
        | lst _ => cases e3
        | obj _ _ _ => cases e3
        | dic ks' ts' =>
          simp only at e3
          split at e3
          · cases e3
          rename_i hn
          cases e3
          obtain ⟨Fu, k1, k2, k3⟩ := S4.put (u' := .dic ks ts) q0 q1 w1 w2
          simp only [RT] at k1
          obtain ⟨a, F', rfl, a2, a3, a4, hk⟩ := k1
          obtain ⟨kvs, a1, a6, a5⟩ : ∃ kvs : List (Key × V), H3 a = some (.dK kvs) ∧ ks = kvs.map (fun p => keyD p.1) ∧ RTs c G4 H3 ts (kvs.map (·.2)) F' := by
            rcases hk with hk | ⟨kvs, _, a6, _⟩
            · exact hk
            · subst a6
              exact absurd rfl hn
          subst a6
          simp only [List.length_map] at hl
          have hG4 : G4 a = none := S4.gf a (k2 a a2)
          refine ⟨a, _, rfl, DPut.k a1 hl, ?_⟩
          obtain ⟨p1, p2⟩ := put_rts (k := k) rd a5
          have keep : ∀ b o, H3 b = some o → b ≠ a → upd H3 a (.dK (putK kvs k y)) b = some o := fun b o e ne => by rw [upd_ne ne]; exact e
          have S5 := k3 G4 (upd H3 a (.dK (putK kvs k y))) (.dic (putKs (kvs.map fun p => keyD p.1) ts k d).1 (putKs (kvs.map fun p => keyD p.1) ts k d).2) Fu (Sub.refl _) (S4.gh.keep hG4) (fun b o e nf => keep b o e fun z => nf (z ▸ a2)) (fun b z _ => S4.gf b z)
            (by
              simp only [RT]
              exact ⟨a, F', rfl, a2, a3, a4, .inl ⟨putK kvs k y, upd_same, p1, RTs.stay (Sub.refl _) _ _ F' F' (fun _ z => z) (fun b o z e => keep b o e fun q => a3 (q ▸ z)) p2⟩⟩)
            (fun b z _ => z) (fun b z => S4.gf b (k2 b z)) (fun b z => by
              by_cases hb : b = a
              · exact ⟨_, by rw [hb]; exact upd_same⟩
              · obtain ⟨o, e⟩ := S4.fd b (k2 b z)
                exact ⟨o, keep b o e hb⟩)
          refine l.nx _ σ G4 _ _ (by simpa only [putDic, q0] using q) ⟨s4.g, fun b o e kk => ?_, s4.n, fun b z => ?_⟩ S5
          · by_cases hb : b = a
            · subst hb
              rcases s4.f b (k2 b a2) with z | z
              · exact (kk rfl z).elim
              · rw [e] at z; cases z
            · exact keep b o (s4.up.h b o e kk) hb
          · rcases z with ⟨z, _⟩ | z
            · exact s4.f b z
            · exact s4.f b (k2 b z)
end
end DL

namespace DL
open PySem PySem.Spec L2
/-! ### the later readings as equations -/
section
variable {w wa wb wi we wx : Bool} {ta tb to te tx : ET} {ar : AT} {ε : Env} {Q : EQ} {QI : List D → Env → Prop} {EX : EXN} {E : SEnds}
def fzK (r : Rv) (ε : Env) (k : List D → Env → Prop) (_ : B1 k := ()) : Prop := oM (fzL r ε) fun q => k q.2.1 q.2.2
theorem e_tItE : goI (tItE ar) ε QI EX = goA ar ε (fun rs ε1 => oL rs fun r => oM (fzL r ε1) fun q => QI (enD q.2.1) q.2.2) EX := by
  unfold tItE
  have h : ∀ (rs : List Rv) (ε1 : Env) (P : List D → Env → Prop), (∃ r b ds ε2, rs = [r] ∧ fzL r ε1 = some (b, ds, ε2) ∧ P (enD ds) ε2) = oL rs fun r => oM (fzL r ε1) fun q => P (enD q.2.1) q.2.2 := fun rs ε1 P =>
    propext ⟨fun ⟨r, b, ds, ε2, e1, e2, p⟩ => ⟨r, e1, (b, ds, ε2), e2, p⟩, fun ⟨r, e1, (b, ds, ε2), e2, p⟩ => ⟨r, b, ds, ε2, e1, e2, p⟩⟩
  simp only [goI, goA, h]
def o2 {α : Type} (l : List α) (k : α → α → Prop) (_ : B1 k := ()) : Prop := ∃ x y, l = [x, y] ∧ k x y
theorem o2_2 {α : Type} {x y : α} {k : α → α → Prop} : o2 [x, y] k = k x y := propext ⟨fun ⟨_, _, e, h⟩ => by cases e; exact h, fun h => ⟨x, y, rfl, h⟩⟩
theorem e_tItZ : goI (tItZ ar) ε QI EX = goA ar ε (fun rs ε1 => oM (owns rs ε1) fun p => o2 (T.ds p.1) fun x y => oM (zpItems x y) fun ds => QI ds p.2) EX := by
  unfold tItZ
  have h : ∀ (o : Option (List T × Env)) (P : List D → Env → Prop), (∃ ts ds ε2, o = some (ts, ε2) ∧ (∃ x y, T.ds ts = [x, y] ∧ zpItems x y = some ds) ∧ P ds ε2) = oM o fun p => o2 (T.ds p.1) fun x y => oM (zpItems x y) fun ds => P ds p.2 := fun o P =>
    propext ⟨fun ⟨ts, ds, ε2, e1, ⟨x, y, e2, e3⟩, p⟩ => ⟨(ts, ε2), e1, x, y, e2, ds, e3, p⟩, fun ⟨(ts, ε2), e1, x, y, e2, ds, e3, p⟩ => ⟨ts, ds, ε2, e1, ⟨x, y, e2, e3⟩, p⟩⟩
  simp only [goI, goA, h]
theorem e_tLr : goE (tLr ta) ε Q EX = goE ta ε (fun r ε1 => oM (r.vw ε1) fun d => oI d fun j => (0 ≤ j ∧ j ≤ 1000000) ∧ Q (.own (.lst ((rgD 0 j.toNat).map .fr))) ε1) EX := by
  unfold tLr
  simp only [goE, xI]
theorem e_tSo : goE (tSo ar) ε Q EX = goA ar ε (fun rs ε1 => oL rs fun r => sL (r.sq ε1) fun ds => oM (intsD ds) fun ns => ∀ ns' : List Int, ns'.Perm ns → ns'.Pairwise (· ≤ ·) → Q (.own (.lst ((ns'.map D.int).map .fr))) ε1) EX := by
  unfold tSo
  have h : ∀ (rs : List Rv) (ε1 : Env) (P : List Int → Prop), (∃ r ds ns, rs = [r] ∧ r.sq ε1 = .l ds ∧ intsD ds = some ns ∧ P ns) = oL rs fun r => sL (r.sq ε1) fun ds => oM (intsD ds) P := fun rs ε1 P =>
    propext ⟨fun ⟨r, ds, ns, e1, e2, e3, p⟩ => ⟨r, e1, ds, e2, ns, e3, p⟩, fun ⟨r, e1, ds, e2, ns, e3, p⟩ => ⟨r, ds, ns, e1, e2, e3, p⟩⟩
  simp only [goE, goA, h]
def dgK (ks : List D) (ts : List T) (k : Key) (rx : Rv) (ε : Env) (Q : EQ) (_ : B1 Q := ()) : Prop := dgQ ks ts k rx ε Q
theorem e_tDg2 : goE (tDg2 we wx to te tx) ε Q EX = goE to ε (fun r ε1 => r.pend (we || wx) ∧ (dicAt r ε1).isSome = true ∧ goE te ε1 (fun rk ε2 => rk.pend wx ∧ goE tx ε2 (fun rx ε3 => oM (dicAt r ε3) fun q => oM (keyAt rk ε3) fun k => dgK q.1 q.2 k rx ε3 Q) EX) EX) EX := by
  unfold tDg2
  have h : ∀ (o : Option (List D × List T)) (o2 : Option Key) (P : List D → List T → Key → Prop), (∃ ks ts k, o = some (ks, ts) ∧ o2 = some k ∧ P ks ts k) = oM o fun q => oM o2 fun k => P q.1 q.2 k := fun o o2 P =>
    propext ⟨fun ⟨ks, ts, k, e1, e2, p⟩ => ⟨(ks, ts), e1, k, e2, p⟩, fun ⟨(ks, ts), e1, k, e2, p⟩ => ⟨ks, ts, k, e1, e2, p⟩⟩
  simp only [goE, h]
  rfl
theorem e_sDp : goS (sDp wi to te ta) E EX ε = goE ta ε (fun rv ε1 => rv.pend true ∧ goE to ε1 (fun r ε2 => r.pend wi ∧ goE te ε2 (fun rk ε3 => oM (keyAt rk ε3) fun k => oM (rv.fz ε3) fun q => oM (ownDic r q.2) fun p => p.1.length < sizeLine ∧ E.nx (putDic r q.2 (putKs p.1 p.2 k q.1))) EX) EX) EX := by
  unfold sDp
  have h : ∀ (o : Option Key) (o2 : Option (D × Env)) (f : Env → Option (List D × List T)) (P : Key → D → Env → List D → List T → Prop), (∃ k d ε4 ks ts, o = some k ∧ o2 = some (d, ε4) ∧ f ε4 = some (ks, ts) ∧ P k d ε4 ks ts) = oM o fun k => oM o2 fun q => oM (f q.2) fun p => P k q.1 q.2 p.1 p.2 := fun o o2 f P =>
    propext ⟨fun ⟨k, d, ε4, ks, ts, e1, e2, e3, p⟩ => ⟨k, e1, (d, ε4), e2, (ks, ts), e3, p⟩, fun ⟨k, e1, (d, ε4), e2, (ks, ts), e3, p⟩ => ⟨k, d, ε4, ks, ts, e1, e2, e3, p⟩⟩
  simp only [goS, goE, h]
end
/-- a while by a measure -/
theorem sWh_ind {t : TT'} {g : ST'} {E : SEnds} {EX : EXN} {ε : Env} (I : Nat → Env → Prop) (m : Nat) (h0 : I m ε)
    (h : ∀ (n : Nat) (ε' : Env) (N : Env → Prop), I n ε' → (∀ (k : Nat) (ε2 : Env), k < n → I k ε2 → N ε2) → goT t ε' (fun b ε1 => iB b (goS g { nx := N, ct := N, bk := E.nx, rt := E.rt } EX ε1) (E.nx ε1)) EX) : goS (sWh t g) E EX ε := by
  have gen : ∀ (f m : Nat) (ε : Env), m < f → I m ε → whGo t g E EX f ε := by
    intro f
    induction f with
    | zero => intro m ε hm; omega
    | succ f ih =>
      intro m ε hm hi
      exact h m ε (whGo t g E EX f) hi fun k ε2 hk h2 => ih k ε2 (by omega) h2
  exact ⟨m + 1, gen (m + 1) m ε (by omega) h0⟩
end DL

namespace DL
open PySem PySem.Spec L2
open PyProof.Rows
/-! ### list(d.values()), d with plain keys -/
theorem kv_vals {κ : Type} {kvs : List (κ × V)} {vs : List (κ × Value)} (r : KV kvs vs) : Vals (kvs.map (·.2)) (vs.map (·.2)) := by
  unfold KV at r
  induction r with
  | nil => exact .nil
  | cons h t ih => exact .cons h.2 ih
def tLVs (to : TE) : TE := fun σ H Q => to σ H fun x H1 => ∃ a kvs, x = .ref a ∧ H1 a = some (.dK kvs) ∧ ∀ q, H1 q = none → Q (.ref q) (upd H1 q (.lst (kvs.map (·.2))))
section
variable {X : Cx} {o : Expr} {to : TE} {p pos apos cpos : Pos}
theorem pe_listVals (hc : X.calm = true) (hg : Gl X "list") (hm : X.mg "list" = none) (ho : PE X o to)
    (hbase : attributeBase o "values" X.env (eval o X.env) = eval o X.env := by rfl) (hline : (apos.endLine == cpos.line) = true := by rfl)
    (na : starEach [.Call (.Attribute o "values" apos) [] [] cpos] X.env = (false, eval (.Call (.Attribute o "values" apos) [] [] cpos) X.env) :: starEach [] X.env := by rfl) :
    PE X (.Call (.Name "list" p) [.Call (.Attribute o "values" apos) [] [] cpos] [] pos) (tLVs to) := by
  refine ⟨fun pins s σ H Q I h => ?_⟩
  refine Call_ (ld_blt I hg hm boot_list (callWith_type1 (args_cons ?_ na) na))
  refine wpAny_Call_method0_late hbase hline (thn (ho.run pins s σ H _ I h) fun v s1 ⟨x, H1, I1, r1, a, kvs, ex, hk, q1⟩ => ?_)
  subst ex
  obtain rfl : v = Value.ref a := r1
  obtain ⟨t1, t2, lo⟩ := isD_at I1 (.inl ⟨kvs, .inl hk⟩)
  refine ⟨"dict", "dict.values", PySem.F.plainAttrs_dict, PySem.F.slot_dict_values, PySem.F.type_dict_values, t1, t2, Calls.callWith_builtin rfl (PySem.evalArgs_none ?_)⟩
  obtain ⟨z, lo', vs, rk, hd⟩ := (show ObjOk X.prog X.w H1 s1.heap a (.dK kvs) from I1.hok a _ hk)
  refine call_meetsIn PySem.F.slot_dict_values t1 PySem.F.entry_dict_values (PySem.F.args_dict_values_1 _) (meets_dict_values (mixKind X.prog X.w) a lo) ⟨⟨vs, hd⟩, ?_⟩
  obtain ⟨ep, hat⟩ := hd.dictAt
  refine args_nil ?_
  have hl : kvs.length = vs.length := Paired.length rk
  refine PySem.W.kdl_call (PySem.W.kdl_values (knd := mixKind X.prog X.w) (kvs := vs) (ep := ep)) (I.ok.hd hc) ⟨⟨_, Heap.get?_push_size _ rfl, rfl, rfl⟩, hat.push _⟩ (by rw [← hl]; exact z) fun h' tk acc' c' hkeep hS hacc => ?_
  have hz : (s1.heap.push { cls := Value.type "dict_values", data := Data.fields #[Value.ref a] }).objs.size = s1.heap.objs.size + 1 := Heap.size_push ..
  have hle : s1.heap.objs.size ≤ (s1.heap.push { cls := Value.type "dict_values", data := Data.fields #[Value.ref a] }).objs.size := by omega
  have ev : acc'.toList = vs.map (·.2) := PySem.W.kdl_vals_eq acc'.toList (by rw [Array.length_toList, hacc.1]) fun j v e => hacc.2 j v (by rw [← Array.getElem?_toList]; exact e)
  refine ⟨.ref (s1.heap.push { cls := Value.type "dict_values", data := Data.fields #[Value.ref a] }).objs.size, upd H1 _ (.lst (kvs.map (·.2))), I1.laid (fun b u e => hkeep b u (Heap.get?_push_of_some _ e)) hle (show ObjOk X.prog X.w _ _ _ (.lst (kvs.map (·.2))) from ⟨?_, acc'.toList, c', ?_, ?_⟩), rfl, q1 _ (I1.hok.fresh hle)⟩
  · rw [List.length_map]; exact z
  · rw [ev]; exact kv_vals rk
  · rw [Array.toArray_toList]; exact hS
end
/-- all items are data -/
def dsFr : List T → Option (List D)
  | [] => some []
  | .fr d :: r => (dsFr r).map (d :: ·)
  | _ => none
theorem dsFr_map : ∀ ds : List D, dsFr (ds.map .fr) = some ds
  | [] => rfl
  | d :: r => by rw [List.map_cons, dsFr, dsFr_map r]; rfl
theorem toD {c : CT} {G H : Hp} : ∀ {ts : List T} {vs : List V} {F : FS} {ds : List D}, RTs c G H ts vs F → dsFr ts = some ds → RDs c G ds vs
  | [], _, _, _, h, e => by
    simp only [dsFr, Option.some.injEq] at e
    subst e
    simp only [RTs] at h
    simp only [RDs]
    first | exact h | exact h.1
  | .fr d :: r, vs, F, ds, h, e => by
    simp only [dsFr, Option.map_eq_some_iff] at e
    obtain ⟨ds', e, rfl⟩ := e
    simp only [RTs, RT] at h
    obtain ⟨x, q, F1, F2, rfl, h1, h2, h3, h4, h5⟩ := h
    simp only [RDs]
    exact ⟨x, q, rfl, h4, toD h5 e⟩
  | .lst _ :: _, _, _, _, _, e => by simp only [dsFr, reduceCtorEq] at e
  | .dic _ _ :: _, _, _, _, _, e => by simp only [dsFr, reduceCtorEq] at e
  | .obj _ _ _ :: _, _, _, _, _, e => by simp only [dsFr, reduceCtorEq] at e
section
variable {c : CT} {X : Cx} {W : WX'} {w : Bool} {o : Expr} {to : ET} {p pos apos cpos : Pos}
/-- list(o.values()): the values are data -/
def tLVals (to : ET) : ET := fun ε Q EX => to ε (fun r ε1 => ∃ ks ts ds, dicAt r ε1 = some (ks, ts) ∧ dsFr ts = some ds ∧ Q (.own (.lst (ds.map .fr))) ε1) EX
theorem de_listVals (hc : X.calm = true) (hg : Gl X "list") (hm : X.mg "list" = none) (ho : DE X c W w o to)
    (hbase : attributeBase o "values" X.env (eval o X.env) = eval o X.env := by rfl) (hline : (apos.endLine == cpos.line) = true := by rfl)
    (na : starEach [.Call (.Attribute o "values" apos) [] [] cpos] X.env = (false, eval (.Call (.Attribute o "values" apos) [] [] cpos) X.env) :: starEach [] X.env := by rfl) :
    DE X c W w (.Call (.Name "list" p) [.Call (.Attribute o "values" apos) [] [] cpos] [] pos) (tLVals to) := by
  obtain ⟨tO, po, k⟩ := one ho
  refine ⟨_, pe_listVals hc hg hm po hbase hline na, fun G H σ ε F Q EX QH S h o xo => ?_⟩
  refine k G H σ ε F _ EX _ S h xo fun r1 ε1 x G1 H1 F1 Fa ⟨ks, ts, ds, e1, e2, q⟩ s1 S1 v1 t1 _ => ?_
  obtain ⟨a, kvs, Fc, rfl, k1, k2, k3⟩ := dicAt_V S1 v1 e1
  refine ⟨a, kvs, rfl, k1, fun q0 hq => ?_⟩
  obtain ⟨g1, g2, g3, g4⟩ := newL s1 S1 hq (toD k3 e2)
  exact o _ _ _ _ _ _ _ q g1 g2 g3 g4
end
end DL

namespace DL
open PySem PySem.Spec L2
open PyProof.Rows
/-! ### sorted(set(t)), t a tuple of ints, fewer than 64 different ones -/
theorem nodup_sub_le : ∀ {xs ys : List Int}, xs.Nodup → (∀ k ∈ xs, k ∈ ys) → xs.length ≤ ys.length
  | [], ys, _, _ => by simp
  | x :: xs, ys, hn, h => by
    obtain ⟨h1, h2⟩ := List.nodup_cons.mp hn
    have hx := h x (by simp)
    have := nodup_sub_le (xs := xs) (ys := ys.erase x) h2 fun k hk => by
      refine (List.mem_erase_of_ne ?_).mpr (h k (by simp [hk]))
      rintro rfl
      exact h1 hk
    rw [List.length_erase_of_mem hx] at this
    have := List.length_pos_of_mem hx
    simp only [List.length_cons]
    omega
theorem setR_le {w : World} {h : Heap} {a : Addr} {ns m : List Int} {c : Nat} (R : SetR w h a (fun j => decide (j ∈ ns)) c) (hm : ∀ k ∈ ns, k ∈ m) : c ≤ m.length := by
  obtain ⟨o, es, ep, t, _, _, _, _, nd, hk, _, _, hn, _⟩ := R
  have := nodup_sub_le nd (ys := m) fun k q => hm k (by simpa using (hk k).mpr q)
  rw [List.length_map, Array.length_toList, hn] at this
  exact this
/-- the number of different items -/
theorem setR_count {w : World} {h : Heap} {a : Addr} {ns m : List Int} {c : Nat} (R : SetR w h a (fun j => decide (j ∈ ns)) c) (hm : m.Nodup) (h1 : ∀ k ∈ ns, k ∈ m) (h2 : ∀ k ∈ m, k ∈ ns) : c = m.length := by
  have h3 := setR_le R h1
  obtain ⟨o, es, ep, t, _, _, _, _, nd, hk, _, _, hn, _⟩ := R
  have := nodup_sub_le hm (ys := es.toList.map keyOf) fun k q => (hk k).mp (by simpa using h2 k q)
  have e : es.toList.length = es.size := Array.length_toList
  rw [List.length_map] at this
  omega
def tSSe (te : TE) : TE := fun σ H Q => te σ H fun x H1 => ∃ (a : Addr) (ns : List Int), x = .ref a ∧ H1 a = some (.tup (ns.map V.int)) ∧ (ns.length ≤ 4000 ∧ ∃ m : List Int, m.length < 64 ∧ ∀ k ∈ ns, k ∈ m) ∧ ∀ (ms : List Int) q, ms.Pairwise (· < ·) → (∀ k : Int, k ∈ ms ↔ k ∈ ns) → H1 q = none → Q (.ref q) (upd H1 q (.lst (ms.map V.int)))
section
variable {X : Cx} {e : Expr} {te : TE} {p p2 pos cpos : Pos}
theorem pe_sortedSet (hc : X.calm = true) (hg : Gl X "sorted") (hm : X.mg "sorted" = none) (hg2 : Gl X "set") (hm2 : X.mg "set" = none) (he : PE X e te)
    (na : starEach [e] X.env = (false, eval e X.env) :: starEach [] X.env := by rfl)
    (nb : starEach [.Call (.Name "set" p2) [e] [] cpos] X.env = (false, eval (.Call (.Name "set" p2) [e] [] cpos) X.env) :: starEach [] X.env := by rfl) :
    PE X (.Call (.Name "sorted" p) [.Call (.Name "set" p2) [e] [] cpos] [] pos) (tSSe te) := by
  refine ⟨fun pins s σ H Q I h => ?_⟩
  refine wpAny_Call_Name_kw (ld_blt I hg hm (u := .builtin "sorted") (by decide +kernel) ?_)
  refine PyProof.Rows.callWith_builtin1 (args_cons ?_ nb) nb
  refine Call_ (ld_blt I hg2 hm2 (u := .type "set") (by decide +kernel) (callWith_type1 (args_cons (thn (he.run pins s σ H _ I h) fun v s1 ⟨x, H1, I1, r1, a, ns, ex, hk, h64, q1⟩ => args_nil ?_) na) na))
  subst ex
  obtain rfl : v = Value.ref a := r1
  obtain ⟨z, its, rv, tp⟩ := (show ObjOk X.prog X.w H1 s1.heap a (.tup (ns.map V.int)) from I1.hok a _ hk)
  refine call_set_tupI ns (I.ok.hd hc) tp (by simpa using ints_of_vals rv) (by unfold scanBound; have := h64.1; omega) fun h' tk c R hcn hkeep => args_nil ?_
  have I2 : Inv X pins σ H1 { s1 with heap := h', toks := tk } := I1.kept hkeep
  have R2 := R
  obtain ⟨h64, m, hm64, hmm2⟩ := h64
  refine sorted_set R (I.ok.hd hc) (Nat.lt_of_le_of_lt (setR_le R2 hmm2) hm64) fun s' p out c' ms k g o hp hgp hi hs hmm hl => ?_
  have hlen : (ms.map V.int).length ≤ sizeLine := by rw [List.length_map, hl, sizeLine_eq]; have := setR_le R2 (m := m) hmm2; omega
  have hn : H1 p = none := I2.hok.fresh hp
  have J : Inv X pins σ (upd H1 p (.lst (ms.map V.int))) { s' with heap := s'.heap } := by
    have J0 : Inv X pins σ (upd H1 p (.lst (ms.map V.int))) { { s1 with heap := h', toks := tk } with heap := s'.heap, gens := s'.gens, drawn := s'.drawn, toks := s'.toks } :=
      I2.call (ch := []) (Un.laid k hp hn) (I2.hok.laid k hp ⟨hlen, out.toList, c', vals_of_ints hi, hgp⟩) (by rw [g]; exact I2.bare) (fun _ z => nomatch z)
    cases s'
    cases o
    exact J0
  exact ⟨.ref p, _, J, rfl, q1 ms p hs (fun k => by rw [hmm k, decide_eq_true_iff]) hn⟩
end
section
variable {c : CT} {X : Cx} {W : WX'} {w : Bool} {e : Expr} {te : ET} {p p2 pos cpos : Pos}
def tSSet (te : ET) : ET := fun ε Q EX => te ε (fun r ε1 => ∃ ds ns, r.sq ε1 = .t ds ∧ intsD ds = some ns ∧ (ns.length ≤ 4000 ∧ ∃ m : List Int, m.length < 64 ∧ ∀ k ∈ ns, k ∈ m) ∧ ∀ ms : List Int, ms.Pairwise (· < ·) → (∀ k : Int, k ∈ ms ↔ k ∈ ns) → Q (.own (.lst ((ms.map D.int).map .fr))) ε1) EX
theorem de_sortedSet (hc : X.calm = true) (hg : Gl X "sorted") (hm : X.mg "sorted" = none) (hg2 : Gl X "set") (hm2 : X.mg "set" = none) (he : DE X c W w e te)
    (na : starEach [e] X.env = (false, eval e X.env) :: starEach [] X.env := by rfl)
    (nb : starEach [.Call (.Name "set" p2) [e] [] cpos] X.env = (false, eval (.Call (.Name "set" p2) [e] [] cpos) X.env) :: starEach [] X.env := by rfl) :
    DE X c W w (.Call (.Name "sorted" p) [.Call (.Name "set" p2) [e] [] cpos] [] pos) (tSSet te) := by
  obtain ⟨tO, po, k⟩ := one he
  refine ⟨_, pe_sortedSet hc hg hm hg2 hm2 po na nb, fun G H σ ε F Q EX QH S h o xo => ?_⟩
  refine k G H σ ε F _ EX _ S h xo fun r1 ε1 x G1 H1 F1 Fa ⟨ds, ns, e1, e2, h64, q⟩ s1 S1 v1 t1 _ => ?_
  have sp := v1.sq S1
  rw [e1] at sp
  obtain ⟨a1, vs, rfl, k1, k2⟩ := sp
  have hv := intsD_V k2 e2
  subst hv
  refine ⟨a1, ns, rfl, frz_sub S1.gh _ _ k1, h64, fun ms q0 hs hmm hq => ?_⟩
  obtain ⟨g1, g2, g3, g4⟩ := newL s1 S1 hq (rds_ints (c := c) (G := G1) ms)
  exact o _ _ _ _ _ _ _ (q ms hs hmm) g1 g2 g3 g4
end
end DL

namespace DL
open PySem PySem.Spec L2
/-! ### list(d.values()), sorted(set(t)) as equations -/
section
variable {te : ET} {ε : Env} {Q : EQ} {EX : EXN}
def sTu (s : Sq) (k : List D → Prop) (_ : B1 k := ()) : Prop := ∃ ds, s = .t ds ∧ k ds
theorem sTu_t {ds : List D} {k : List D → Prop} : sTu (.t ds) k = k ds := propext ⟨fun ⟨_, e, h⟩ => by cases e; exact h, fun h => ⟨ds, rfl, h⟩⟩
theorem e_tLVals : goE (tLVals te) ε Q EX = goE te ε (fun r ε1 => oM (dicAt r ε1) fun q => oM (dsFr q.2) fun ds => Q (.own (.lst (ds.map .fr))) ε1) EX := by
  unfold tLVals
  have h : ∀ (o : Option (List D × List T)) (P : List D → Prop), (∃ ks ts ds, o = some (ks, ts) ∧ dsFr ts = some ds ∧ P ds) = oM o fun q => oM (dsFr q.2) P := fun o P =>
    propext ⟨fun ⟨ks, ts, ds, e1, e2, p⟩ => ⟨(ks, ts), e1, ds, e2, p⟩, fun ⟨(ks, ts), e1, ds, e2, p⟩ => ⟨ks, ts, ds, e1, e2, p⟩⟩
  simp only [goE, h]
theorem e_tSSet : goE (tSSet te) ε Q EX = goE te ε (fun r ε1 => sTu (r.sq ε1) fun ds => oM (intsD ds) fun ns => (ns.length ≤ 4000 ∧ ∃ m : List Int, m.length < 64 ∧ ∀ k ∈ ns, k ∈ m) ∧ ∀ ms : List Int, ms.Pairwise (· < ·) → (∀ k : Int, k ∈ ms ↔ k ∈ ns) → Q (.own (.lst ((ms.map D.int).map .fr))) ε1) EX := by
  unfold tSSet
  have h : ∀ (s : Sq) (P : List Int → Prop), (∃ ds ns, s = .t ds ∧ intsD ds = some ns ∧ P ns) = sTu s fun ds => oM (intsD ds) P := fun s P =>
    propext ⟨fun ⟨ds, ns, e1, e2, p⟩ => ⟨ds, e1, ns, e2, p⟩, fun ⟨ds, e1, ns, e2, p⟩ => ⟨ds, ns, e1, e2, p⟩⟩
  simp only [goE, h]
end
theorem ixN_S0 {n : Nat} : ixN (n + 1) 0 = some 0 := by
  unfold ixN
  rw [if_pos (by decide), if_pos (by omega)]
  rfl
theorem at_S0 {α : Type} {a : α} {r : List α} : atI (a :: r) 0 = some a := by
  rw [atI_nat (by decide) (by simp only [List.length_cons]; omega)]
  rfl
end DL

namespace DL
open PySem PySem.Spec L2
open PyProof.Rows
/-! ### a comprehension by an invariant -/
theorem goL_ind {p : Pat} {vs : List Nat} {tt : TT'} {te : ET} {K : List T → Env → Prop} (I : Nat → List T → Env → Prop) {items : List D} {acc : List T} {ε : Env} (h0 : I 0 acc ε) (hn : ∀ acc' ε', I items.length acc' ε' → K acc' ε')
    (h : ∀ (i : Nat) (d : D) (acc' : List T) (ε' : Env) (N : List T → Env → Prop), items[i]? = some d → I i acc' ε' → (∀ acc2 ε2, I (i + 1) acc2 ε2 → N acc2 ε2) →
      ∃ ε1, p.bind d ε' = some ε1 ∧ goT tt ε1 (fun b ε2 => iB b (goE te ε2 (fun rv ε3 => oM (owns [rv] ε3) fun q => oL q.1 fun t => N (acc' ++ [t]) (wipeE q.2 vs)) NoX) (N acc' (wipeE ε2 vs))) NoX) : goL p vs tt te K items acc ε := by
  have gen : ∀ (rest : List D) (i : Nat) (acc' : List T) (ε' : Env), i ≤ items.length → items.drop i = rest → I i acc' ε' → goL p vs tt te K rest acc' ε' := by
    intro rest
    induction rest with
    | nil =>
      intro i acc' ε' hl e hi
      rw [goL_nil]
      have := List.drop_eq_nil_iff.mp e
      have e : i = items.length := by omega
      subst e
      exact hn _ _ hi
    | cons d rest ih =>
      intro i acc' ε' hl e hi
      have hlt : i < items.length := by
        by_cases hlt : i < items.length
        · exact hlt
        · rw [List.drop_eq_nil_iff.mpr (by omega)] at e
          cases e
      rw [List.drop_eq_getElem_cons hlt] at e
      obtain ⟨e1, e2⟩ := List.cons.inj e
      obtain ⟨ε1, hb, k⟩ := h i d acc' ε' (fun acc2 ε2 => goL p vs tt te K rest acc2 ε2) (by rw [List.getElem?_eq_getElem hlt, e1]) hi fun acc2 ε2 h2 => ih (i + 1) acc2 ε2 (by omega) e2 h2
      rw [goL_cons, hb, oM_s]
      exact k
  exact gen items 0 acc ε (by omega) rfl h0
/-! ### calls with data alone: nothing that a slot owns is written -/
theorem dOnly : ∀ {ds : List DL.D} {ε : Env}, takeT (ds.map Rv.d) ε = some (ds.map .fr, ε)
  | [], _ => rfl
  | d :: ds, ε => by rw [List.map_cons, takeT, dOnly (ds := ds)]; rfl
theorem dGive : ∀ {ds : List DL.D} {ts : List T} {ε : Env}, giveT (ds.map Rv.d) ts ε = ε
  | [], ts, ε => by cases ts <;> rfl
  | d :: ds, [], ε => rfl
  | d :: ds, t :: ts, ε => by rw [List.map_cons, giveT, dGive (ds := ds)]; intro i e; cases e
def callF (sp : SpD) (rs : List Rv) (ε : Env) (Q : EQ) (EX : EXN) : Prop := ∃ ds : List DL.D, rs = ds.map Rv.d ∧ sp (ds.map .fr) (fun r ts' => ts'.length = ds.length ∧ Q r.rv ε) (fun x ts' => ts'.length = ds.length ∧ EX x ε)
section
variable {X : Cx} {c : CT} {W : WX'} {w wa wb : Bool} {e : Expr} {es : List Expr} {t : AT} {pos p : Pos} {k : Nat} {f : Addr} {fd : FuncData} {ps : List Str} {sp : SpD} {x : Str}
theorem RVs.dn {G H : Hp} {σ : L2.St} : ∀ {ds : List DL.D} {vs : List V} {F : FS}, RVs c G H σ (ds.map Rv.d) vs F → RVs c G H σ (ds.map Rv.d) vs eNo
  | [], _, _, h => h
  | d :: ds, vs, F, ⟨v, us, F1, F2, e, h1, h2, h3, h4, h5⟩ => ⟨v, us, eNo, eNo, e, fun _ z => z, fun _ z => z, fun _ z => z.elim, h4, RVs.dn h5⟩
theorem Sat.none {G H : Hp} {σ : L2.St} {ε : Env} {F : FS} (S : Sat c G H σ ε F) : Sat c G H σ (ε.map fun _ => none) eNo :=
  ⟨S.gh, fun _ z => z.elim, fun _ z => z.elim, by rw [List.length_map]; exact S.len, S.pr, fun _ => eNo, fun _ _ _ _ z => z.elim, fun _ _ z => z, fun i t e => by
    rw [List.getElem?_map] at e
    cases q : ε[i]? with
    | none => rw [q] at e; cases e
    | some o => rw [q] at e; cases e⟩
theorem Sat.back {G H G' H' : Hp} {σ : L2.St} {ε ε' : Env} {F F' : FS} (S : Sat c G H σ ε F) (s : Step true G H eNo G' H' F') (S' : Sat c G' H' σ ε' F') : Sat c G' H' σ ε F ∧ Step false G H F G' H' F := by
  have hk : ∀ a o, H a = some o → H' a = some o := fun a o e => s.h a o e fun _ z => z
  have hg : ∀ a, F a → G' a = Option.none := fun a q => by
    cases e : G' a with
    | none => rfl
    | some o =>
      rcases s.n a o e with z | z | z
      · rw [S.gf a q] at z; cases z
      · obtain ⟨o, e⟩ := S.fd a q
        rw [e] at z; cases z
      · exact z.elim
  refine ⟨⟨S'.gh, hg, fun a q => ?_, S.len, S.pr, ?_⟩, s.g, fun a o e _ => hk a o e, fun a o e => ?_, fun a q => .inl q⟩
  · obtain ⟨o, e⟩ := S.fd a q
    exact ⟨o, hk a o e⟩
  · obtain ⟨Fs, d1, d2, d3⟩ := S.at_
    refine ⟨Fs, d1, d2, fun i t e => ?_⟩
    obtain ⟨v, e1, r⟩ := d3 i t e
    exact ⟨v, e1, r.stay s.g t v (Fs i) _ (fun _ q => q) fun a o _ e => hk a o e⟩
  · rcases s.n a o e with z | z | z
    · exact .inl z
    · exact .inr (.inl z)
    · exact z.elim
theorem call_runF (hk : c.K = X.K) (Fn : DFn X.prog X.w X.K X.mg X.base c.ca k f fd ps sp) (hr : Room k X.A) (hgd : X.A.guards = some []) (tk : Takes X W) {pins : List (Addr × Obj)} {σ : L2.St} {G H G1 H1 : Hp} {s : Shared} {ε1 : Env} {F F1 Ft : FS} {args : Args} {us : List Value} {vs : List V} {rs : List Rv} {Q : EQ} {EX : EXN} {QH : VK}
    (I : Inv X pins σ H1 s) (hb : BindsTo s fd args (ps.zip us)) (rv : Vals vs us) (st : Step w G H F G1 H1 F1) (S : Sat c G1 H1 σ ε1 F1) (rr : RVs c G1 H1 σ rs vs Ft) (q : callF sp rs ε1 Q EX) (o : Out c w G H σ F Q QH) (xo : XOut c G H F σ EX W) :
    codeAny (model X.prog X.w) X.A (.call (.ref f) args) (fun r s' => match r with | .ok (.ret u) => EP X pins σ QH u s' | .ok _ => False | .error e => X.xe e s') s := by
  obtain ⟨ds, rfl, q⟩ := q
  refine call_run (w := false) (G := G1) (H := H1) (F := eNo) (F1 := eNo) (ε1 := ε1.map fun _ => none) (Q := fun r _ => ∃ t : T, r = t.rv ∧ Q r ε1) (EX := fun x _ => EX x ε1) hk Fn hr hgd tk I hb rv Step.refl S.none rr.dn Tmp.no ?_ ?_ ?_
  · refine ⟨_, _, dOnly, ?_⟩
    have e : (fun (r : T) (ts' : List T) => ts'.length = (ds.map T.fr).length ∧ ∃ t : T, r.rv = t.rv ∧ Q r.rv ε1) = fun (r : T) (ts' : List T) => ts'.length = ds.length ∧ Q r.rv ε1 := by
      funext r ts'
      rw [List.length_map]
      exact propext ⟨fun ⟨h1, _, _, h2⟩ => ⟨h1, h2⟩, fun ⟨h1, h2⟩ => ⟨h1, r, rfl, h2⟩⟩
    have e2 : (fun (x : Ex) (ts' : List T) => ts'.length = (ds.map T.fr).length ∧ EX x ε1) = fun (x : Ex) (ts' : List T) => ts'.length = ds.length ∧ EX x ε1 := by
      funext x ts'
      rw [List.length_map]
    rw [e, e2]
    exact q
  · rintro rv' ε' v G' H' F' Ft' ⟨t, rfl, q'⟩ s1 S1 v1 t1
    obtain ⟨S2, s2⟩ := S.back s1 S1
    refine o _ ε1 v G' H' F1 Ft' q' (st.then0 s2) S2 v1 ⟨fun a z z2 => ?_, t1.g, t1.fd, fun a z => ?_⟩
    · rcases t1.n a z with z3 | z3
      · exact z3
      · obtain ⟨o, e⟩ := S.fd a z2
        rw [e] at z3; cases z3
    · rcases t1.n a z with z3 | z3
      · exact z3.elim
      · rcases st.no z3 with z | z
        · exact .inr z
        · exact .inl z
  · intro x ε' G' H' F' cl d hx s1 S1 xr
    obtain ⟨S2, s2⟩ := S.back s1 S1
    exact xo x ε1 G' H' F1 cl d hx ((st.up.trans s2).mono fun _ => rfl) S2 xr
def tClF (sp : SpD) (t : AT) : ET := fun ε Q EX => t ε (fun rs ε1 => callF sp rs ε1 Q EX) EX
def tClKF (sp : SpD) (ix : List Nat) (t : AT) : ET := fun ε Q EX => t ε (fun rs ε1 => callF sp (pickL ix rs) ε1 Q EX) EX
theorem de_callF (hk : c.K = X.K) (Fn : DFn X.prog X.w X.K X.mg X.base c.ca k f fd ps sp) (hr : Room k X.A) (hgd : X.A.guards = some []) (tk : Takes X W) (hg : Gl X x) (hm : X.mg x = some (.ref f)) (kp : PySem.W.keepIn X.K (.ref f) = true) (hb : Binds X.K fd ps []) (ha : DA X c W wa (e :: es) t)
    (hdb : (x == ("__debug__" : Str)) = false := by decide) (he : starEach (e :: es) X.env = (false, eval e X.env) :: starEach es X.env := by rfl) (hpl : (backTo pos (starEach es X.env)).any (·.1) = false := by rfl) : DE X c W wa (.Call (.Name x p) (e :: es) [] pos) (tClF sp t) := by
  obtain ⟨ta, pa, ka⟩ := ha.ex
  -- the arguments' reading, then the call
  refine ⟨fun σ H QH => ta σ H fun vs H1 => ∀ (pins : List (Addr × Obj)) (s : Shared) (us : List Value), Inv X pins σ H1 s → Vals vs us → vs.length = ps.length ∧ (∀ args, BindsTo s fd args (ps.zip us) → codeAny (model X.prog X.w) X.A (.call (.ref f) args) (fun r s' => match r with | .ok (.ret u) => EP X pins σ QH u s' | .ok _ => False | .error e => X.xe e s') s), ⟨fun pins s σ H QH I h => ?_⟩, fun G H σ ε F Q EX QH S h o xo => ?_⟩
  · refine wpAny_Call_Name_kw (ld_glob I hg hm ?_ hdb)
    refine PySem.W.callWith_K (h₀ := X.base) I.ok.mod.kin kp (thn (pa.run pos pins s σ H _ I h) fun us s1 ⟨vs, H1, I1, r, q⟩ => ⟨I1.kIn, ?_⟩) he hpl
    obtain ⟨hl, q⟩ := q pins s1 us I1 r
    have hl2 : us.length = ps.length := by rw [← r.length]; exact hl
    have hb' := hb s1 us I1.kIn (by rw [List.append_nil]; exact hl2)
    rw [List.append_nil] at hb'
    refine wpAny_call (codeAny_mono (q ⟨us, []⟩ hb') fun r s' z => ?_)
    cases r with
    | error e => exact z
    | ok fl => cases fl with
      | ret u => exact z
      | next => exact z.elim
      | brk => exact z.elim
      | cont => exact z.elim
  · refine ka G H σ ε F _ EX _ S h (fun rs ε1 vs G1 H1 F1 Ft q st S1 rr tm pins s us I rv => ⟨?_, fun args hbd => ?_⟩) xo
    · obtain ⟨ds, rfl, q⟩ := q
      have := Fn.len _ _ _ q
      rw [List.length_map] at this
      have l := rr.len
      rw [List.length_map] at l
      omega
    · exact call_runF hk Fn hr hgd tk I hbd rv st S1 rr q o xo
theorem de_callKF {kws : List Keyword} {ks : List Str} {ix : List Nat} (hk : c.K = X.K) (Fn : DFn X.prog X.w X.K X.mg X.base c.ca k f fd ps sp) (hr : Room k X.A) (hgd : X.A.guards = some []) (tk : Takes X W) (hg : Gl X x) (hm : X.mg x = some (.ref f)) (kp : PySem.W.keepIn X.K (.ref f) = true) (hb : KBnd X.K fd ps ks ix) (ha : DK X c W wa kws t)
    (hall : (backToKw pos (keywordEach kws X.env)).all (·.1.isSome) = true := by rfl) (hks : (backToKw pos (keywordEach kws X.env)).filterMap (·.1) = ks := by rfl) (hlk : kws.length = ks.length := by rfl)
    (hdb : (x == ("__debug__" : Str)) = false := by decide) (hpl : ((backTo pos (starEach [] X.env)).any (·.1) || (backToKw pos (keywordEach kws X.env)).any (·.1.isNone)) = false := by rfl) : DE X c W wa (.Call (.Name x p) [] kws pos) (tClKF sp ix t) := by
  obtain ⟨ta, pa, ka⟩ := ha.ex
  refine ⟨fun σ H QH => ta σ H fun vs H1 => ∀ (pins : List (Addr × Obj)) (s : Shared) (us : List Value), Inv X pins σ H1 s → Vals vs us → us.length = ks.length ∧ (∀ args, BindsTo s fd args (ps.zip (pickL ix us)) → codeAny (model X.prog X.w) X.A (.call (.ref f) args) (fun r s' => match r with | .ok (.ret u) => EP X pins σ QH u s' | .ok _ => False | .error e => X.xe e s') s), ⟨fun pins s σ H QH I h => ?_⟩, fun G H σ ε F Q EX QH S h o xo => ?_⟩
  · refine wpAny_Call_Name_kw (ld_glob I hg hm ?_ hdb)
    refine PySem.W.callWith_KW0 (h₀ := X.base) I.ok.mod.kin kp hall (thn (pa.run pos pins s σ H _ I h) fun us s1 ⟨vs, H1, I1, r, q⟩ => ⟨I1.kIn, ?_⟩) hpl
    obtain ⟨hl, q⟩ := q pins s1 us I1 r
    rw [hks]
    refine wpAny_call (codeAny_mono (q ⟨[], ks.zip us⟩ (hb.to s1 us I1.kIn hl)) fun r s' z => ?_)
    cases r with
    | error e => exact z
    | ok fl => cases fl with
      | ret u => exact z
      | next => exact z.elim
      | brk => exact z.elim
      | cont => exact z.elim
  · refine ka G H σ ε F _ EX _ S h (fun rs ε1 vs G1 H1 F1 Ft q hl st S1 rr tm pins s us I rv => ?_) xo
    have l1 := rr.len
    have l2 := rv.length
    have hlt : ∀ i ∈ ix, i < rs.length := fun i hi => by have := hb.lt i hi; omega
    have hlv : ∀ i ∈ ix, i < vs.length := fun i hi => by have := hlt i hi; omega
    exact ⟨by omega, fun args hbd => call_runF hk Fn hr hgd tk I hbd (Vals.pick rv hlv) st S1 (rr.pick hb.nd hlt) q o xo⟩

/-- they are data -/
def onlyD : List Rv → Option (List DL.D)
  | [] => some []
  | .d d :: r => (onlyD r).map (d :: ·)
  | _ => none
theorem onlyD_map : ∀ {rs : List Rv} {ds : List DL.D}, onlyD rs = some ds → rs = ds.map Rv.d
  | [], ds, e => by cases e; rfl
  | .d d :: r, ds, e => by
    simp only [onlyD, Option.map_eq_some_iff] at e
    obtain ⟨es, e, rfl⟩ := e
    rw [onlyD_map e]; rfl
  | .own _ :: r, ds, e => by cases e
  | .at _ _ :: r, ds, e => by cases e
theorem map_onlyD : ∀ {ds : List DL.D}, onlyD (ds.map Rv.d) = some ds
  | [] => rfl
  | d :: ds => by rw [List.map_cons, onlyD, map_onlyD]; rfl
theorem callF_e {rs : List Rv} {ε : Env} {Q : EQ} {EX : EXN} : callF sp rs ε Q EX = oM (onlyD rs) fun ds => calls sp (ds.map .fr) (fun r ts' => ts'.length = ds.length ∧ Q r.rv ε) (fun x ts' => ts'.length = ds.length ∧ EX x ε) :=
  propext ⟨fun ⟨ds, e, q⟩ => ⟨ds, by rw [e]; exact map_onlyD, q⟩, fun ⟨ds, e, q⟩ => ⟨ds, onlyD_map e, q⟩⟩
theorem e_tClF {ar : AT} {ε : Env} {Q : EQ} {EX : EXN} : goE (tClF sp ar) ε Q EX = goA ar ε (fun rs ε1 => oM (onlyD rs) fun ds => calls sp (ds.map .fr) (fun r ts' => ts'.length = ds.length ∧ Q r.rv ε1) (fun x ts' => ts'.length = ds.length ∧ EX x ε1)) EX := by
  unfold tClF
  simp only [goE, goA, callF_e]
theorem e_tClKF {ix : List Nat} {ar : AT} {ε : Env} {Q : EQ} {EX : EXN} : goE (tClKF sp ix ar) ε Q EX = goA ar ε (fun rs ε1 => oM (onlyD (pickL ix rs)) fun ds => calls sp (ds.map .fr) (fun r ts' => ts'.length = ds.length ∧ Q r.rv ε1) (fun x ts' => ts'.length = ds.length ∧ EX x ε1)) EX := by
  unfold tClKF
  simp only [goE, goA, callF_e]
end
end DL

namespace DL
open PySem PySem.Spec L2
open PyProof.Rows
/-! ### t[::-1] -/
section
variable {prog : Program} {w : World} {A : Around} {E : Value → Shared → Prop} {s : Shared}
theorem adjust_back (n : Nat) : Builtin.Slice.sliceAdjust none none (-1) (n : Int) = ((n : Int) - 1, -1) := by
  unfold Builtin.Slice.sliceAdjust
  simp
theorem places_back (n : Nat) : Builtin.Slice.slicePlaces ((n : Int) - 1) (-1) (-1) = n := by
  unfold Builtin.Slice.slicePlaces
  simp
  split <;> omega
theorem fm_congr {α β : Type} {f g : α → Option β} : ∀ {l : List α}, (∀ a ∈ l, f a = g a) → l.filterMap f = l.filterMap g
  | [], _ => rfl
  | a :: l, h => by
    rw [List.filterMap_cons, List.filterMap_cons, h a (by simp), fm_congr fun b hb => h b (by simp [hb])]
theorem pick_back (xs : Array Value) : ((List.range xs.size).filterMap fun (m : Nat) => xs[(((xs.size : Int) - 1) + (m : Int) * (-1)).toNat]?).toArray = xs.toList.reverse.toArray := by
  have h := HT.pick_gen xs.reverse 0 xs.size
  have e : ((List.range xs.size).filterMap fun (m : Nat) => xs[(((xs.size : Int) - 1) + (m : Int) * (-1)).toNat]?) = (List.range xs.size).filterMap fun (m : Nat) => xs.reverse[(((0 : Nat) : Int) + (m : Int) * 1).toNat]? := by
    refine fm_congr fun m hm => ?_
    have hm := List.mem_range.mp hm
    have e1 : (((0 : Nat) : Int) + (m : Int) * 1).toNat = m := by omega
    have e2 : (((xs.size : Int) - 1) + (m : Int) * (-1)).toNat = xs.size - 1 - m := by omega
    rw [e1, e2, Array.getElem?_reverse hm]
  rw [e, h]
  simp only [List.drop_zero, Array.toList_reverse]
  rw [List.take_of_length_le (by simp)]
theorem sliceApplied_back {sl : Addr} {vl vu vs : Value} {n : Nat} {Q : Int × Int × Nat → Shared → Prop} (hs : s.heap.IsSliceOf sl vl vu vs) (pl : IsPart vl none) (pu : IsPart vu none) (ps : IsPart vs (some (-1)))
    (h : Q ((n : Int) - 1, -1, n) s) : wpAny (model prog w) A (Builtin.Slice.sliceApplied (.ref sl) (pure (n : Int))) Q E s := by
  obtain ⟨os, hos, hcs, hds⟩ := id hs
  unfold Builtin.Slice.sliceApplied Builtin.Slice.sliceFields
  refine wpAny_bind (wpAny_bind (wpAny_field hos hds (x := vl) rfl (wpAny_bind (wpAny_field hos hds (x := vu) rfl (wpAny_bind (wpAny_field hos hds (x := vs) rfl (wpAny_pure ?_)))))))
  refine wpAny_bind (HT.slicePart_ ps ?_)
  show wpAny _ _ (if ((-1 : Int) == 0) = true then _ else _) _ _ s
  rw [if_neg (by decide)]
  refine wpAny_bind (HT.slicePart_ pl (wpAny_bind (HT.slicePart_ pu (wpAny_bind (wpAny_pure ?_)))))
  show wpAny _ _ (match Builtin.Slice.sliceAdjust none none (-1) (n : Int) with | (lo, hi) => pure (lo, (-1 : Int), Builtin.Slice.slicePlaces lo hi (-1))) _ _ s
  rw [adjust_back n]
  show wpAny _ _ (pure ((n : Int) - 1, (-1 : Int), Builtin.Slice.slicePlaces ((n : Int) - 1) (-1) (-1))) _ _ s
  rw [places_back]
  exact wpAny_pure h
theorem getItem_tuple_back {t sl : Addr} {items : Array Value} {vl vu vs : Value} {Q : Value → Shared → Prop} (ht : IsTup s.heap t items) (hs : s.heap.IsSliceOf sl vl vu vs) (pl : IsPart vl none) (pu : IsPart vu none) (ps : IsPart vs (some (-1)))
    (h : Q (.ref s.heap.objs.size) { s with heap := s.heap.push { cls := .type "tuple", data := .seq items.toList.reverse.toArray } })
    (hsz : items.size ≤ sizeLine) : wpAny (model prog w) A (getItem (.ref t) (.ref sl)) Q E s := by
  have htake : sizeOk (.seq items.toList.reverse.toArray) := by
    show items.toList.reverse.toArray.size ≤ sizeLine
    rw [List.size_toArray, List.length_reverse, Array.length_toList]
    exact hsz
  obtain ⟨os, hos, hcs, hds⟩ := id hs
  have hTs : s.TypeIs (.ref sl) "slice" := ⟨os, hos, hcs⟩
  unfold getItem
  try with_reducible refine wpAny_holding ?_
  first | refine wpAny_bind (wpAny_pure ?_) | skip
  refine wpAny_bind (wpAny_sequenceKey ht.typeIs (by decide) ?_)
  refine wpAny_bind (wpAny_callSpecial?_slot (name := Str.ofString "__getitem__") ht.typeIs PyProof.Rows.slot_tuple_getitem
    (wpAny_call_entry PyProof.Rows.slot_tuple_getitem ht.typeIs entry_tuple_getitem ?_ (args_tuple_getitem _ _)))
  show wpAny _ _ (Builtin.Tuple.tupleItemsOf (.ref t) >>= _) _ _ s
  refine wpAny_bind (tupleItemsOf_ ht ?_)
  refine wpAny_bind (wpAny_typeOf hTs ?_)
  rw [if_pos (by decide)]
  refine wpAny_bind (sliceApplied_back hs pl pu ps ?_)
  have hno : ¬ ((((items.size : Int) - 1) == 0 && (-1 : Int) == 1 && items.size == items.size) = true) := by
    intro q
    rw [Bool.and_eq_true, Bool.and_eq_true] at q
    exact absurd q.1.2 (by decide)
  show wpAny _ _ (if (((items.size : Int) - 1) == 0 && (-1 : Int) == 1 && items.size == items.size) = true then _ else _) _ _ s
  rw [if_neg hno, pick_back]
  first
    | exact wpAny_bind (m := Builtin.Tuple.tupleExact _) (wpAny_newObj_type (wpAny_pure ⟨_, rfl, wpAny_pure h⟩) htake)
    | exact wpAny_bind (m := Builtin.Tuple.tupleExact _) (wpAny_newObj_type (wpAny_bind (wpAny_pure (wpAny_pure ⟨_, rfl, wpAny_pure h⟩))) htake)
end
section
variable {c : CT} {X : Cx} {W : WX'} {w wa : Bool} {a : Expr} {te : TE} {ta : ET} {k : Nat} {p1 p2 p3 pos : Pos}
def tRevA (K : PySem.W.Frag) (te : TE) : TE := fun σ H Q => te σ H fun x H1 => ∃ a xs, x = .ref a ∧ ((SqL K H1 a xs ∧ ∀ p, H1 p = none → Q (.ref p) (upd H1 p (.lst xs.reverse))) ∨ (SqT K H1 a xs ∧ ∀ p, H1 p = none → Q (.ref p) (upd H1 p (.tup xs.reverse))))
theorem pe_revA (he : PE X a te) : PE X (.Subscript a (.Slice none none (some (.UnaryOp .USub (.Constant (.int 1) k p1) p2)) p3) pos) (tRevA X.K te) := by
  refine ⟨fun pins s σ H Q I h => ?_⟩
  refine Subscript_ (thn (he.run pins s σ H _ I h) fun v s1 ⟨x, H1, I1, r1, q1⟩ => ?_)
  obtain ⟨l, xs, ex, q⟩ := q1
  subst ex
  cases r1
  have hst : PO X (some (.UnaryOp .USub (.Constant (.int 1) k p1) p2)) (tPart (tUn (rU fun i => .int (-i)) (tC (.int 1)))) := po_some (pe_un un_neg pe_int)
  refine wpAny_Slice (thn (po_none.run pins s1 σ H1 (fun o H2 => o = none ∧ H2 = H1) I1 ⟨rfl, rfl⟩) fun vl s2 ⟨l', H2, I2, pl, el, e2⟩ => ?_)
  subst el e2
  refine thn (po_none.run pins s2 σ H2 (fun o H3 => o = none ∧ H3 = H2) I2 ⟨rfl, rfl⟩) fun vu s3 ⟨u, H3, I3, pu, eu, e3⟩ => ?_
  subst eu e3
  refine thn (hst.run pins s3 σ H3 (fun o H4 => o = some (-1) ∧ H4 = H3) I3 ⟨1, rfl, -1, rfl, rfl, rfl⟩) fun vs s4 ⟨o, H4, I4, ps, eo, e4⟩ => ?_
  subst eo e4
  have I5 : Inv X pins σ H4 { s4 with heap := s4.heap.push { cls := .type "slice", data := .fields #[vl, vu, vs] } } := I4.kept (t' := s4.toks) fun b ob q => Heap.get?_push_of_some _ q
  rcases q with ⟨hx, q⟩ | ⟨hx, q⟩
  · obtain ⟨its, r, ht, hz⟩ := I5.list hx
    have hlen := r.length
    show wpAny (model X.prog X.w) X.A (subscriptTail a (.Slice none none (some (.UnaryOp .USub (.Constant (.int 1) k p1) p2)) p3) (.ref l) (.ref s4.heap.objs.size)) (EP X pins σ Q) X.xe { s4 with heap := s4.heap.push { cls := .type "slice", data := .fields #[vl, vu, vs] } }
    refine tail_any (ops := [.ref l, .ref s4.heap.objs.size]) ht.isList.typeIs (PySem.slot_list_getitem.lookup) ?_ (by with_unfolding_all rfl)
    refine wpAny_getItem_list_slice ht.isList (Heap.IsSliceOf.new _ vl vu vs) pl pu ps (by decide) ?_ (by rw [List.size_toArray]; omega)
    rw [PySem.W.krv_pick]
    refine ⟨.ref _, _, I5.laid (t' := s4.toks) (o := .lst xs.reverse) (fun b ob q => Heap.get?_push_of_some _ q) (Nat.le_refl _) ?_, rfl, q _ (I5.hok.fresh (Nat.le_refl _))⟩
    exact ⟨by rw [List.length_reverse]; exact hz, _, 0, r.reverse, Heap.get?_push_size _ rfl⟩
  · obtain ⟨its, r, ht, hz⟩ := I5.tuple hx
    have hlen := r.length
    show wpAny (model X.prog X.w) X.A (subscriptTail a (.Slice none none (some (.UnaryOp .USub (.Constant (.int 1) k p1) p2)) p3) (.ref l) (.ref s4.heap.objs.size)) (EP X pins σ Q) X.xe { s4 with heap := s4.heap.push { cls := .type "slice", data := .fields #[vl, vu, vs] } }
    refine tail_any (ops := [.ref l, .ref s4.heap.objs.size]) ht.typeIs (PyProof.Rows.slot_tuple_getitem.lookup) ?_ (by with_unfolding_all rfl)
    refine getItem_tuple_back ht (Heap.IsSliceOf.new _ vl vu vs) pl pu ps ?_ (by rw [List.size_toArray]; omega)
    refine ⟨.ref _, _, I5.laid (t' := s4.toks) (o := .tup xs.reverse) (fun b ob q => Heap.get?_push_of_some _ q) (Nat.le_refl _) ?_, rfl, q _ (I5.hok.fresh (Nat.le_refl _))⟩
    exact ⟨by rw [List.length_reverse]; exact hz, _, r.reverse, IsTup.new _ _⟩
def rvQ (x : Sq) (ε : Env) (Q : EQ) : Prop := match x with
  | .l ds => Q (.own (.lst (ds.reverse.map .fr))) ε
  | .t ds => Q (.d (.tup ds.reverse)) ε
  | _ => False
def tRev (ta : ET) : ET := fun ε Q EX => ta ε (fun r ε1 => rvQ (r.sq ε1) ε1 Q) EX
theorem de_rev (hk : c.K = X.K) (ha : DE X c W w a ta) : DE X c W w (.Subscript a (.Slice none none (some (.UnaryOp .USub (.Constant (.int 1) k p1) p2)) p3) pos) (tRev ta) := by
  obtain ⟨tea, pa, ka⟩ := one ha
  refine ⟨_, pe_revA pa, fun G H σ ε F Q EX QH S h o xo => ?_⟩
  refine ka G H σ ε F _ EX _ S h xo fun r1 ε1 x G1 H1 F1 Fa h1 s1 S1 v1 t1 _ => ?_
  have q1 := v1.sq S1
  have s4 := t1.step s1
  have S4 := S1.frzT t1.dj
  generalize hx : r1.sq ε1 = sx at h1 q1
  unfold rvQ at h1
  split at h1
  · obtain ⟨a1, vs, rfl, k1, k2⟩ := q1
    refine ⟨a1, vs, rfl, .inl ⟨SqL.of k1, fun p hp => ?_⟩⟩
    obtain ⟨g1, g2, g3, g4⟩ := newL s4 S4 hp k2.rev
    exact o _ _ _ _ _ _ _ h1 g1 g2 g3 g4
  · obtain ⟨a1, vs, rfl, k1, k2⟩ := q1
    refine ⟨a1, vs, rfl, .inr ⟨SqT.of (frz_sub S1.gh _ _ k1), fun p hp => ?_⟩⟩
    obtain ⟨g1, g2, g3⟩ := newT s4 S4 hp k2.rev
    exact o _ _ _ _ _ _ _ h1 g1 g2 g3 Tmp.no
  · exact h1.elim
end
section
variable {ε : Env} {Q : EQ} {EX : EXN} {ta : ET}
def rvK (x : Sq) (ε : Env) (Q : EQ) (_ : B1 Q := ()) : Prop := rvQ x ε Q
theorem rvK_l {ds : List D} : rvK (.l ds) ε Q = Q (.own (.lst (ds.reverse.map .fr))) ε := rfl
theorem rvK_t {ds : List D} : rvK (.t ds) ε Q = Q (.d (.tup ds.reverse)) ε := rfl
theorem e_tRev : goE (tRev ta) ε Q EX = goE ta ε (fun r ε1 => rvK (r.sq ε1) ε1 Q) EX := rfl
end
/-! ### len(set(xs)), xs a list of ints -/
section
variable {c : CT} {X : Cx} {W : WX'} {w : Bool} {e : Expr} {ta : TE} {te : ET} {p p2 q pos : Pos}
theorem firstMet_mem {f : Nat → Int} : ∀ (i : Nat), (PyProof.Rows.firstMet f i).Nodup ∧ ∀ k, k ∈ PyProof.Rows.firstMet f i ↔ ∃ j, j < i ∧ f j = k
  | 0 => ⟨List.nodup_nil, fun k => ⟨fun h => (nomatch h), fun ⟨j, h, _⟩ => by omega⟩⟩
  | i + 1 => by
    obtain ⟨h1, h2⟩ := firstMet_mem (f := f) i
    rw [PyProof.Rows.firstMet_succ]
    unfold PyProof.Rows.step_dedup
    by_cases hb : (PyProof.Rows.firstMet f i).any (· == f i) = true
    · rw [if_pos hb]
      refine ⟨h1, fun k => (h2 k).trans ⟨fun ⟨j, h, e⟩ => ⟨j, by omega, e⟩, fun ⟨j, h, e⟩ => ?_⟩⟩
      by_cases hj : j = i
      · subst hj
        obtain ⟨y, hy, ey⟩ := List.any_eq_true.mp hb
        have ey2 : y = f j := eq_of_beq ey
        subst ey2
        exact e ▸ (h2 _).mp hy
      · exact ⟨j, by omega, e⟩
    · rw [if_neg hb]
      have hn : f i ∉ PyProof.Rows.firstMet f i := fun z => hb (List.any_eq_true.mpr ⟨_, z, beq_self_eq_true _⟩)
      refine ⟨?_, fun k => ?_⟩
      · rw [List.nodup_append]
        refine ⟨h1, by simp, fun a ha b hb2 => ?_⟩
        simp only [List.mem_singleton] at hb2
        subst hb2
        rintro rfl
        exact hn ha
      · rw [List.mem_append, List.mem_singleton, h2]
        constructor
        · rintro (⟨j, h, e⟩ | rfl)
          · exact ⟨j, by omega, e⟩
          · exact ⟨i, by omega, rfl⟩
        · rintro ⟨j, h, e⟩
          by_cases hj : j = i
          · subst hj; exact .inr e.symm
          · exact .inl ⟨j, by omega, e⟩
def tLenSetA (K : PySem.W.Frag) (ta : TE) : TE := fun σ H Q => ta σ H fun x H1 => ∃ (l : Addr) (ns m : List Int), x = .ref l ∧ SqL K H1 l (ns.map V.int) ∧ ns.length ≤ 4000 ∧ m.Nodup ∧ (∀ k, k ∈ m ↔ k ∈ ns) ∧ Q (.int (m.length : Nat)) H1
theorem pe_lenSetA (hg : Gl X "len") (hm : X.mg "len" = none) (hg2 : Gl X "set") (hm2 : X.mg "set" = none) (ha : PE X e ta) (hc : X.calm = true)
    (na : starEach [e] X.env = (false, eval e X.env) :: starEach [] X.env := by rfl) : PE X (.Call (.Name "len" p) [.Call (.Name "set" p2) [e] [] q] [] pos) (tLenSetA X.K ta) := by
  refine ⟨fun pins s σ H Q I h => ?_⟩
  refine Call_ (ld_blt I hg hm boot_len ?_)
  refine PyProof.Rows.callWith_builtin1 (PyProof.Rows.args_cons ?_ rfl) rfl rfl
  refine Call_ (ld_blt I hg2 hm2 boot_set ?_)
  refine PyProof.Rows.callWith_type1 (PyProof.Rows.args_cons (thn (ha.run pins s σ H _ I h) fun v s1 ⟨x, H1, I1, r1, q1⟩ => PyProof.Rows.args_nil ?_) na) na rfl
  obtain ⟨l, ns, m, rfl, hq, hl, hnd, hmm, q1⟩ := q1
  cases r1
  obtain ⟨its, r, pl, hz⟩ := I1.list hq
  have hlen : its.toArray.size = ns.length := by rw [List.size_toArray, ← r.length, List.length_map]
  refine PySem.call_set_list (I1.ok.hd hc) pl.isList (by simpa using RZ.intsAre_vals r) (by rw [hlen]; unfold scanBound; omega) fun h' tk hS hk => ?_
  refine PyProof.Rows.args_nil ?_
  rw [hlen] at hS
  obtain ⟨f1, f2⟩ := firstMet_mem (f := fun i => ns.getD i 0) ns.length
  have e : (PyProof.Rows.firstMet (fun i => ns.getD i 0) ns.length).length = m.length := by
    have hmem : ∀ k, k ∈ PyProof.Rows.firstMet (fun i => ns.getD i 0) ns.length ↔ k ∈ m := fun k => by
      rw [f2, hmm]
      constructor
      · rintro ⟨j, h, rfl⟩
        rw [List.getD_eq_getElem?_getD, List.getElem?_eq_getElem h]
        exact List.getElem_mem h
      · intro hk
        obtain ⟨j, h, e⟩ := List.getElem_of_mem hk
        exact ⟨j, h, by rw [List.getD_eq_getElem?_getD, List.getElem?_eq_getElem h]; exact e⟩
    have a1 := nodup_sub_le f1 fun k hk => (hmem k).mp hk
    have a2 := nodup_sub_le hnd fun k hk => (hmem k).mpr hk
    omega
  have hml : m.length ≤ 4000 := by
    have := nodup_sub_le hnd fun k hk => (hmm k).mp hk
    omega
  obtain ⟨o, es, ep, t, ho, hex, hd, _, _, _, hf, hn⟩ := hS
  have I2 : Inv X pins σ H1 { s1 with heap := h', toks := tk } := I1.kept fun b o e => hk b o (Heap.lt_size e) e
  refine call_len_set ho hex hd hf (by rw [hn, e] <;> omega) ⟨.int m.length, H1, I2.tok _, ⟨_, by rw [hn, e]⟩, q1⟩
def tLenSet (te : ET) : ET := fun ε Q EX => te ε (fun r ε1 => ∃ ds ns, r.sq ε1 = .l ds ∧ intsD ds = some ns ∧ ns.length ≤ 4000 ∧ ∃ m : List Int, (m.Nodup ∧ ∀ k : Int, k ∈ m ↔ k ∈ ns) ∧ Q (.d (.int (m.length : Nat))) ε1) EX
theorem de_lenSet (hk : c.K = X.K) (hc : X.calm = true) (hg : Gl X "len") (hm : X.mg "len" = none) (hg2 : Gl X "set") (hm2 : X.mg "set" = none) (he : DE X c W w e te)
    (na : starEach [e] X.env = (false, eval e X.env) :: starEach [] X.env := by rfl) : DE X c W w (.Call (.Name "len" p) [.Call (.Name "set" p2) [e] [] q] [] pos) (tLenSet te) := by
  obtain ⟨tO, po, k⟩ := one he
  refine ⟨_, pe_lenSetA hg hm hg2 hm2 po hc na, fun G H σ ε F Q EX QH S h o xo => ?_⟩
  refine k G H σ ε F _ EX _ S h xo fun r1 ε1 x G1 H1 F1 Fa ⟨ds, ns, e1, e2, h64, m, ⟨hnd, hmm⟩, q⟩ s1 S1 v1 t1 _ => ?_
  have sp := v1.sq S1
  rw [e1] at sp
  obtain ⟨a1, vs, rfl, k1, k2⟩ := sp
  have hv := intsD_V k2 e2
  subst hv
  exact ⟨a1, ns, m, rfl, SqL.of k1, h64, hnd, hmm, o _ _ _ _ _ _ eNo q s1 S1 (by simp only [RV, RD]) Tmp.no⟩
theorem e_tLenSet {ε : Env} {Q : EQ} {EX : EXN} : goE (tLenSet te) ε Q EX = goE te ε (fun r ε1 => sL (r.sq ε1) fun ds => oM (intsD ds) fun ns => ns.length ≤ 4000 ∧ ∃ m : List Int, (m.Nodup ∧ ∀ k : Int, k ∈ m ↔ k ∈ ns) ∧ Q (.d (.int (m.length : Nat))) ε1) EX := by
  unfold tLenSet
  have h : ∀ (s : Sq) (P : List Int → Prop), (∃ ds ns, s = .l ds ∧ intsD ds = some ns ∧ P ns) = sL s fun ds => oM (intsD ds) P := fun s P => propext ⟨fun ⟨ds, ns, e1, e2, p⟩ => ⟨ds, e1, ns, e2, p⟩, fun ⟨ds, e1, ns, e2, p⟩ => ⟨ds, ns, e1, e2, p⟩⟩
  simp only [goE, h]
end
/-! ### sorted of a tuple of ints -/
section
variable {prog : Program} {w : World} {A : Around} {E : Value → Shared → Prop} {s : Shared}
theorem sorted_tupI {l : Addr} {vs : List Value} {ns : List Int} {Q : Value → Shared → Prop} (hl : IsTup s.heap l vs.toArray) (hz : vs.length ≤ sizeLine) (hi : IntsAre vs ns)
    (h : ∀ h1 : Heap, (∀ b o, s.heap.get? b = some o → h1.get? b = some o) → ∀ (h' : Heap) (out : List Value) (ep : Nat) (ns' : List Int), IntsAre out ns' → ns'.Perm ns → ns'.Pairwise (· ≤ ·) → (∀ b o, h1.get? b = some o → h'.get? b = some o) →
      h'.get? h1.objs.size = some (seqObj "list" out.toArray ep) → Q (.ref h1.objs.size) { s with heap := h' }) : wpAny (model prog w) A (call (.builtin "sorted") [.ref l]) Q E s := by
  obtain ⟨o, ho, hc, n, hd⟩ := id hl
  refine Calls.call_function_entry kind_sorted plain_sorted entry_sorted (args_sorted1 _) (wpAny_bind (m := checkCount "sorted" 1 1 _) (wpAny_pure (wpAny_bind (PySem.wpAny_collect_seq l (.inr rfl) ho hc hd (fun h1 k1 => ?_) (by rw [List.size_toArray]; exact hz)))))
  rw [show vs.toArray.toList = vs by simp]
  have hL : (h1.push (seqObj "list" vs.toArray 0)).get? h1.objs.size = some (seqObj "list" vs.toArray 0) := Heap.get?_push_size _ rfl
  refine wpAny_bind (wpAny_newList (wpAny_bind (wpAny_holding (wpAny_call_entry slot_list_sort ⟨_, hL, rfl⟩ entry_list_sort (SrtO.list_sort_ord SrtO.swo_int hL hz (fun h2 => SrtO.ints_sortable hi h2) fun out hs hb => ⟨_, rfl, ?_⟩) (args_list_sort _)))) hz)
  obtain ⟨j2, j3, j4⟩ := SrtO.ints_out hi hs hb
  obtain ⟨ep, he⟩ := sortedHeap_at (vs := vs) (out := out.toArray) hL
  exact wpAny_pure ⟨_, rfl, h h1 k1 _ out ep _ j2 j3 j4 (fun b u e => by
    rw [sortedHeap_old (Nat.ne_of_lt (Heap.lt_size e)) (by rw [size_push']; exact Nat.lt_succ_of_lt (Heap.lt_size e))]
    exact Heap.get?_push_of_some _ e) he⟩
end
/-- sorted(xs): ints of a list or of a tuple -/
def rSoA (K : PySem.W.Frag) : List V → Hp → VK → Prop := fun vs H Q => ∃ (a : Addr) (ns : List Int), vs = [V.ref a] ∧ (SqL K H a (ns.map V.int) ∨ SqT K H a (ns.map V.int)) ∧
  ∀ (ns' : List Int) (p : Addr), ns'.Perm ns → ns'.Pairwise (· ≤ ·) → H p = none → Q (.ref p) (upd H p (.lst (ns'.map V.int)))
theorem cr_soA {X : Cx} : CallR X (.builtin "sorted") (rSoA X.K) := by
  intro pins s σ H vs us Q I r h
  obtain ⟨a, ns, e, hs | hs, q⟩ := h
  · exact cr_sortedI pins s σ H vs us Q I r ⟨a, ns, e, hs, q⟩
  · subst e
    rw [Vals.ref1 r]
    obtain ⟨its, rv, ht, hz⟩ := I.tuple hs
    refine sorted_tupI ht (by rw [← rv.length]; exact hz) rv.ints fun h1 k1 h' out ep ns' j1 j2 j3 k2 he => ?_
    have I2 : Inv X pins σ H { s with heap := h1 } := I.kept (t' := s.toks) k1
    have hl : (ns'.map V.int).length ≤ sizeLine := by
      rw [List.length_map, j2.length_eq]
      rw [List.length_map] at hz
      exact hz
    exact ⟨.ref _, upd H h1.objs.size (.lst (ns'.map V.int)), I2.laid (t' := s.toks) k2 (Nat.le_refl _) ⟨hl, out, ep, vals_of_ints j1, he⟩, rfl, q _ _ j2 j3 (I2.hok.fresh (Nat.le_refl _))⟩
section
variable {c : CT} {X : Cx} {W : WX'} {wa : Bool} {a : Expr} {t : AT} {p pos : Pos}
def intsQ (x : Sq) : Option (List Int) := match x with
  | .l ds => intsD ds
  | .t ds => intsD ds
  | _ => none
def tSoA (t : AT) : ET := fun ε Q EX => t ε (fun rs ε1 => ∃ r ns, rs = [r] ∧ intsQ (r.sq ε1) = some ns ∧ ∀ ns' : List Int, ns'.Perm ns → ns'.Pairwise (· ≤ ·) → Q (.own (.lst ((ns'.map D.int).map .fr))) ε1) EX
theorem de_sortedA (hk : c.K = X.K) (ha : DA X c W wa [a] t) (hg : Gl X "sorted") (hm : X.mg "sorted" = none)
    (he : starEach [a] X.env = (false, eval a X.env) :: starEach [] X.env := by rfl) (hpl : (backTo pos (starEach [] X.env)).any (·.1) = false := by rfl) : DE X c W wa (.Call (.Name "sorted" p) [a] [] pos) (tSoA t) := by
  obtain ⟨ta, pa, k⟩ := ha.ex
  refine ⟨_, pe_callB cr_soA hg hm (by decide +kernel) pa (by decide) (by decide) he hpl, fun G H σ ε F Q EX QH S h o xo => ?_⟩
  refine k G H σ ε F _ EX _ S h (fun rs ε1 vs G1 H1 F1 Ft ⟨r, ns, e0, e1, q⟩ s1 S1 v1 t1 => ?_) xo
  subst e0
  obtain ⟨v, us, Fa, Fb, rfl, f1, f2, f3, v1, rest⟩ := v1
  obtain rfl : us = [] := rest
  have sp := v1.sq S1
  generalize r.sq ε1 = sx at e1 sp
  have fin : ∀ a1, v = .ref a1 → (SqL X.K H1 a1 (ns.map V.int) ∨ SqT X.K H1 a1 (ns.map V.int)) → rSoA X.K [v] H1 QH := fun a1 ev hq => by
    subst ev
    refine ⟨a1, ns, rfl, hq, fun ns' p hp1 hp2 hp => ?_⟩
    obtain ⟨g1, g2, g3, g4⟩ := newL s1 S1 hp (rds_ints (c := c) (G := G1) ns')
    exact o _ _ _ _ _ _ _ (q ns' hp1 hp2) g1 g2 g3 g4
  unfold intsQ at e1
  split at e1
  · obtain ⟨a1, vs, ev, k1, k2⟩ := sp
    have hv := intsD_V k2 e1
    subst hv
    exact fin a1 ev (.inl (by rw [← hk]; exact SqL.of k1))
  · obtain ⟨a1, vs, ev, k1, k2⟩ := sp
    have hv := intsD_V k2 e1
    subst hv
    exact fin a1 ev (.inr (by rw [← hk]; exact SqT.of (frz_sub S1.gh _ _ k1)))
  · cases e1
theorem intsQ_l {ds : List D} : intsQ (.l ds) = intsD ds := rfl
theorem intsQ_t {ds : List D} : intsQ (.t ds) = intsD ds := rfl
theorem e_tSoA {ε : Env} {Q : EQ} {EX : EXN} : goE (tSoA t) ε Q EX = goA t ε (fun rs ε1 => oL rs fun r => oM (intsQ (r.sq ε1)) fun ns => ∀ ns' : List Int, ns'.Perm ns → ns'.Pairwise (· ≤ ·) → Q (.own (.lst ((ns'.map D.int).map .fr))) ε1) EX := by
  unfold tSoA
  have h : ∀ (rs : List Rv) (f : Rv → Option (List Int)) (P : List Int → Prop), (∃ r ns, rs = [r] ∧ f r = some ns ∧ P ns) = oL rs fun r => oM (f r) P := fun rs f P => propext ⟨fun ⟨r, ns, e1, e2, p⟩ => ⟨r, e1, ns, e2, p⟩, fun ⟨r, e1, ns, e2, p⟩ => ⟨r, ns, e1, e2, p⟩⟩
  simp only [goE, goA, h]
end
end DL

namespace DL
open PySem PySem.Spec L2
open PyProof.Rows
/-! ### isinstance(x, (T1, T2)) -/
section
variable {c : CT} {X : Cx} {W : WX'} {w wa : Bool} {a e1 e2 : Expr} {ta : ET} {p pos tpos : Pos} {kk : Nat}
def tIsi2 (T1 T2 : String) (ta : ET) : ET := fun ε Q EX => ta ε (fun r ε1 => ∃ d b1 b2, r.vw ε1 = some d ∧ isK T1 d = some b1 ∧ isK T2 d = some b2 ∧ Q (.d (.bl (b1 || b2))) ε1) EX
theorem de_isi2 {T1 T2 : String} (hk : c.K = X.K) (ha : DE X c W wa a ta) (h1 : PE X e1 (tC (.ty T1))) (h2 : PE X e2 (tC (.ty T2))) (hg : Gl X "isinstance") (hm : X.mg "isinstance" = none)
    (s1 : starEach [e1, e2] X.env = (false, eval e1 X.env) :: starEach [e2] X.env := by rfl) (s2 : starEach [e2] X.env = (false, eval e2 X.env) :: starEach [] X.env := by rfl)
    (he : starEach [a, .Tuple [e1, e2] kk tpos] X.env = (false, eval a X.env) :: starEach [.Tuple [e1, e2] kk tpos] X.env := by rfl) (he2 : starEach [.Tuple [e1, e2] kk tpos] X.env = (false, eval (.Tuple [e1, e2] kk tpos) X.env) :: starEach [] X.env := by rfl)
    (hpl : (backTo pos (starEach [.Tuple [e1, e2] kk tpos] X.env)).any (·.1) = false := by rfl) : DE X c W wa (.Call (.Name "isinstance" p) [a, .Tuple [e1, e2] kk tpos] [] pos) (tIsi2 T1 T2 ta) := by
  obtain ⟨tea, pa, k⟩ := one ha
  refine ⟨_, pe_callB call_isiT hg hm (by decide +kernel) (pa_cons pa (pa_cons (pe_tup (pa_cons h1 (pa_cons h2 pa_nil s2) s1)) pa_nil he2) he) (by decide) (by decide) he hpl, fun G H σ ε F Q EX QH S h o xo => ?_⟩
  refine k G H σ ε F _ EX _ S h xo fun r1 ε1 x G1 H1 F1 Fa ⟨d, b1, b2, ed, k1, k2, q⟩ st S1 v1 t1 _ => ?_
  have z := v1.now S1 ed
  unfold isK at k1 k2
  cases q3 : d.ty with
  | none => rw [q3] at k1; cases k1
  | some t =>
    rw [q3] at k1 k2
    refine ⟨by show 2 ≤ sizeLine; decide, fun tp htp => ?_⟩
    have z2 := RD.mono (Sub.new (o := .tup [V.ty T1, V.ty T2]) htp) d x z
    refine ⟨x, tp, [.ty T1, .ty T2], .type t, [.type T1, .type T2], b1 || b2, rfl, upd_same, .cons (ClsV.ty T1) (.cons (ClsV.ty T2) .nil), rd_ty z2 q3, ?_, ?_⟩
    · refine kitAny_cons (kit_ty k1) (fun e => kitAny_cons (kit_ty k2) (fun e' => by rw [e, e']; exact kitAny_nil) fun e' => by rw [e']; cases b1 <;> rfl) fun e => by rw [e]; rfl
    · exact o _ _ _ G1 _ F1 eNo q (st.then0 (Step.growH htp)) (S1.growH htp) (by simp only [RV, RD]) Tmp.no
theorem e_tIsi2 {T1 T2 : String} {ε : Env} {Q : EQ} {EX : EXN} : goE (tIsi2 T1 T2 ta) ε Q EX = goE ta ε (fun r ε1 => oM (r.vw ε1) fun d => oM (isK T1 d) fun b1 => oM (isK T2 d) fun b2 => Q (.d (.bl (b1 || b2))) ε1) EX := by
  unfold tIsi2
  have h : ∀ (o : Option D) (f g : D → Option Bool) (P : Bool → Bool → Prop), (∃ d b1 b2, o = some d ∧ f d = some b1 ∧ g d = some b2 ∧ P b1 b2) = oM o fun d => oM (f d) fun b1 => oM (g d) fun b2 => P b1 b2 := fun o f g P =>
    propext ⟨fun ⟨d, b1, b2, e1, e2, e3, p⟩ => ⟨d, e1, b1, e2, b2, e3, p⟩, fun ⟨d, e1, b1, e2, b2, e3, p⟩ => ⟨d, b1, b2, e1, e2, e3, p⟩⟩
  simp only [goE, h]
end
/-! ### a def that calls itself: the promise that nobody asks -/
theorem dfn_none {P : Program} {w : World} {K : PySem.W.Frag} {mg : Str → Option Value} {base : Heap} {ca : Str → Option Addr} {k : Nat} {f : Addr} {fd : FuncData} {ps : List Str} {sp : SpD} (h : ∀ ts Q E, ¬ sp ts Q E) : DFn P w K mg base ca k f fd ps sp :=
  ⟨fun ts Q E q => (h ts Q E q).elim, fun A outer s H args us vs ts G F QD EXD QH EH hr hgd e0 hb rv hG hFg hFd rt hs _ _ => (h _ _ _ hs).elim⟩
/-! ### [a, *t], a display with a tuple or a list in it -/
section
variable {c : CT} {X : Cx} {W : WX'} {w wa wb : Bool} {a : Expr} {es : List Expr} {ta : ET} {tr : AT} {p pos : Pos}
/-- the items of a starred thing: data -/
def tAS (ta : ET) (tr : AT) : AT := fun ε Q EX => ta ε (fun r ε1 => ∃ ds ε2, (r.fz ε1 = some (.tup ds, ε2) ∨ r.fz ε1 = some (.lst ds, ε2)) ∧ tr ε2 (fun rs ε3 => Q (ds.map Rv.d ++ rs) ε3) EX) EX
theorem rvs_app {G H : Hp} {σ : L2.St} {rs : List Rv} {ws : List V} {Ft : FS} (h : RVs c G H σ rs ws Ft) : ∀ {ds : List DL.D} {vs : List V}, RDs c G ds vs → RVs c G H σ (ds.map Rv.d ++ rs) (vs ++ ws) Ft
  | [], vs, k => by simp only [RDs] at k; subst k; exact h
  | d :: ds, vs, k => by
    simp only [RDs] at k
    obtain ⟨v, r, rfl, k1, k2⟩ := k
    exact ⟨v, r ++ ws, eNo, Ft, rfl, fun _ z => z.elim, fun _ z => z, fun _ z => z.elim, k1, rvs_app h k2⟩
theorem da_star (hk : c.K = X.K) (ha : DE X c W wa a ta) (hr : DA X c W wb es tr) (hs : starEach (.Starred a p :: es) X.env = (true, eval a X.env) :: starEach es X.env := by rfl) : DA X c W (wa || wb) (.Starred a p :: es) (tAS ta tr) := by
  obtain ⟨tea, pe, k⟩ := one ha
  obtain ⟨ter, pr, k2⟩ := hr.ex
  refine ⟨_, StX.pa_star pe pr hs, fun G H σ ε F Q EX QH S h o xo => ?_⟩
  refine k G H σ ε F _ EX _ S h xo fun r1 ε1 x G1 H1 F1 Fa ⟨ds, ε2, e, h1⟩ s1 S1 v1 t1 xo1 => ?_
  have fin : ∀ {d : DL.D}, r1.fz ε1 = some (d, ε2) → (∀ {G2 : Hp}, Sub G2 H1 → RD c G2 d x → ∃ a1 vs, x = .ref a1 ∧ (SqT X.K H1 a1 vs ∨ SqL X.K H1 a1 vs) ∧ RDs c G2 ds vs) →
      ∃ a1 vs, x = V.ref a1 ∧ (SqT X.K H1 a1 vs ∨ SqL X.K H1 a1 vs) ∧ ter σ H1 fun ys H2 => QH (vs ++ ys) H2 := fun {d} e hd => by
    obtain ⟨G2, F2, g1, g2, g3, g4, g5, g6⟩ := RV.fzS s1 S1 v1 t1 e
    obtain ⟨a1, vs, ex, hq, rd⟩ := hd g5.gh g6
    refine ⟨a1, vs, ex, hq, k2 G2 H1 σ ε2 F2 _ EX _ g5 h1 (fun rs ε3 ws G3 H3 F3 Ft h2 s3 S3 v3 t3 => ?_) (xo.step g1)⟩
    exact o _ ε3 _ G3 H3 F3 Ft h2 (g1.trans s3) S3 (rvs_app v3 (RDs.mono s3.g _ _ rd)) (t3.pre g1)
  rcases e with e | e
  · exact fin e fun {G2} gh z => by
      simp only [RD] at z
      obtain ⟨a1, vs, rfl, j1, j2⟩ := z
      exact ⟨a1, vs, rfl, .inl (SqT.of (gh _ _ j1)), j2⟩
  · exact fin e fun {G2} gh z => by
      simp only [RD] at z
      obtain ⟨a1, vs, rfl, j1, j2⟩ := z
      exact ⟨a1, vs, rfl, .inr (SqL.of (gh _ _ j1)), j2⟩
def seqK (o : Option (DL.D × Env)) (k : List DL.D → Env → Prop) (_ : B1 k := ()) : Prop := ∃ ds ε2, (o = some (.tup ds, ε2) ∨ o = some (.lst ds, ε2)) ∧ k ds ε2
theorem seqK_t {ds : List DL.D} {ε : Env} {k : List DL.D → Env → Prop} : seqK (some (.tup ds, ε)) k = k ds ε := propext ⟨fun ⟨_, _, e, h⟩ => by rcases e with e | e <;> cases e; exact h, fun h => ⟨ds, ε, .inl rfl, h⟩⟩
theorem seqK_l {ds : List DL.D} {ε : Env} {k : List DL.D → Env → Prop} : seqK (some (.lst ds, ε)) k = k ds ε := propext ⟨fun ⟨_, _, e, h⟩ => by rcases e with e | e <;> cases e; exact h, fun h => ⟨ds, ε, .inr rfl, h⟩⟩
theorem e_tAS {ε : Env} {QA : List Rv → Env → Prop} {EX : EXN} : goA (tAS ta tr) ε QA EX = goE ta ε (fun r ε1 => seqK (r.fz ε1) fun ds ε2 => goA tr ε2 (fun rs ε3 => QA (ds.map Rv.d ++ rs) ε3) EX) EX := rfl
end
/-! ### def f(a, b, *t) -/
structure DFnS (P : Program) (w : World) (K : PySem.W.Frag) (mg : Str → Option Value) (base : Heap) (ca : Str → Option Addr) (k : Nat) (f : Addr) (n : Nat) (sp : SpD) : Prop where
  run : ∀ (A : Around) (outer : List PySem.Env) (s : Shared) (H : Hp) (us : List Value) (ws rest : List V) (ds es : List DL.D) (G : Hp) (QD : T → List T → Prop) (EXD : Ex → List T → Prop) (QH : VK) (EH : XK),
    Room k A → A.guards = some [] → Env0 P w K mg base A outer s H → Vals (ws ++ rest) us → Sub G H → RDs (c0 K ca) G ds ws → RDs (c0 K ca) G es rest → ds.length = n → es.length ≤ sizeLine → sp (ds.map .fr ++ [.fr (.tup es)]) QD EXD →
    (∀ r ts' v G' H' F' Ft, QD r ts' → Step true G H eNo G' H' F' → Sub G' H' → (∀ a, F' a → G' a = none) → (∀ a, F' a → ∃ o, H' a = some o) → RT (c0 K ca) G' H' r v Ft → Tmp H eNo G' H' F' Ft → QH v H') →
    (∀ x ts' G' H' F' cl d, EXD x ts' → Step true G H eNo G' H' F' → Sub G' H' → (∀ a, F' a → G' a = none) → (∀ a, F' a → ∃ o, H' a = some o) → XR (c0 K ca) G' x cl d → EH cl d H') →
    codeAny (model P w) A (.call (.ref f) ⟨us, []⟩) (CR (L2.CX P w) outer P w H s QH EH) s
section
variable {P : Program} {w : World} {K : PySem.W.Frag} {mg : Str → Option Value} {base : Heap} {ca : Str → Option Addr}
theorem rts_fr {c : CT} {G H : Hp} : ∀ {ds : List DL.D} {vs : List V}, RDs c G ds vs → RTs c G H (ds.map .fr) vs eNo
  | [], vs, h => by simpa only [List.map_nil, RTs, RDs] using h
  | d :: ds, vs, h => by
    simp only [RDs] at h
    obtain ⟨v, r, rfl, h1, h2⟩ := h
    simp only [List.map_cons, RTs, RT]
    exact ⟨v, r, eNo, eNo, rfl, fun _ z => z, fun _ z => z, fun _ z => z.elim, h1, rts_fr h2⟩
theorem dfnS_of {x qual pv : Str} {st : Stmt} {f : Addr} {fd : FuncData} {N ps : List Str} {k : Nat} {sp : SpD} {kp : List Nat} {g : ST'} (F : Fun K x qual st f fd) (S : FnScope N (ps ++ [pv]) (defScope st))
    (hb : ∀ us rest : List Value, us.length = ps.length → bindArgs fd ⟨us ++ rest, []⟩ = (newTuple rest >>= fun t => pure (ps.zip us ++ [(pv, t)])))
    (body : BodyD P w K mg base ca k N qual st f kp g (ps.length + 1)) (hsp : ∀ ts QD EXD, sp ts QD EXD → g (fnEnds kp ts QD) (fnX kp ts EXD) (startE N ts)) : DFnS P w K mg base ca (k + 1) f ps.length sp := by
  obtain ⟨oc, od, kV, doc, pm, an, cdv, ct, osl, rfl, lk, hcd⟩ := F.ex
  refine ⟨fun A outer s H us ws rest ds es G QD EXD QH EH hr hgd e0 rv hG rd re hn hz hs qn qx => ?_⟩
  obtain ⟨u1, u2, eu, r1, r2⟩ := StX.vals_split rv
  subst eu
  have hl : ws.length = ps.length := by rw [← rd.len]; exact hn
  have hl1 : u1.length = ps.length := by rw [← r1.length]; exact hl
  have hz1 : rest.length ≤ sizeLine := by rw [← re.len]; exact hz
  have hfree : H s.heap.objs.size = none := e0.hok.fresh (Nat.le_refl _)
  refine StX.run_bnd lk hcd S hr e0 (G := fun xs H2 => ∃ q, H q = none ∧ xs = ws ++ [V.ref q] ∧ H2 = upd H q (.tup rest)) (fun A' Ex' Q' hh => ?_) fun s2 H2 xs ⟨q, hq, ex, eH⟩ hr' => ?_
  · rw [hb u1 u2 hl1]
    refine wpAny_bind (wpAny_newTuple (wpAny_pure ?_) (by rw [← r2.length]; exact hz1))
    have un := StX.un_laid (fs := frs outer) (s := s) (o := ({ cls := .type "tuple", data := .seq u2.toArray } : Obj)) (u := .tup rest) hfree
    have new : ObjOk P w (upd H s.heap.objs.size (.tup rest)) (s.heap.push ({ cls := .type "tuple", data := .seq u2.toArray } : Obj)) s.heap.objs.size (.tup rest) := ⟨hz1, u2, r2, ⟨_, Heap.get?_push_size _ rfl, rfl, _, rfl⟩⟩
    have got := hh _ _ (ws ++ [V.ref s.heap.objs.size]) (u1 ++ [Value.ref s.heap.objs.size]) (StX.env0_laid e0 new) un rfl (fun e s' => StX.cxUp outer s H _ _ EH e s' un (fun b o q => Heap.get?_push_of_some _ q) rfl) (r1.append (.cons rfl .nil))
      (by simp only [List.length_append, List.length_singleton, hl]) ⟨_, hfree, rfl, rfl⟩
    rw [List.zip_append hl1.symm] at got
    exact got
  · subst ex eH
    obtain ⟨tb, pb, kb⟩ := (body cdv A outer s2 (upd H q (.tup rest)) (ws ++ [V.ref q]) EH hr' hgd (by simp only [List.length_append, List.length_singleton, hl])).ex
    refine ⟨tb, pb, ?_⟩
    have stg : Step false G H eNo (upd G q (.tup rest)) (upd H q (.tup rest)) eNo := Step.grow hq hG
    have hG2 : Sub (upd G q (.tup rest)) (upd H q (.tup rest)) := hG.both
    have rt : RTs (c0 K ca) (upd G q (.tup rest)) (upd H q (.tup rest)) (ds.map T.fr ++ [T.fr (DL.D.tup es)]) (ws ++ [V.ref q]) eNo := by
      have e : ds.map T.fr ++ [T.fr (DL.D.tup es)] = (ds ++ [DL.D.tup es]).map T.fr := by simp
      rw [e]
      refine rts_fr ((RDs.mono stg.g _ _ rd).app ?_)
      simp only [RDs, RD]
      exact ⟨V.ref q, [], rfl, ⟨q, rest, rfl, upd_same, RDs.mono stg.g _ _ re⟩, rfl⟩
    have hpN : (ps ++ [pv]).length ≤ N.length := by have := congrArg List.length S.pre; rw [List.length_take] at this; omega
    have hlen : (ds.map T.fr ++ [T.fr (DL.D.tup es)]).length = (ps ++ [pv]).length := by simp only [List.length_append, List.length_map, List.length_singleton, hn]
    have S0 : Sat ⟨K, ca, prOf kp (ws ++ [V.ref q])⟩ (upd G q (.tup rest)) (upd H q (.tup rest)) (L2.start N (ws ++ [V.ref q])) (startE N (ds.map T.fr ++ [T.fr (DL.D.tup es)])) eNo :=
      start_sat (by simp only [List.length_append, List.length_singleton] at hpN ⊢; omega) hG2 (fun _ z => z.elim) (fun _ z => z.elim) rt
    have done : ∀ r ε' σ' v G' H' F' Ft, (fnEnds kp (ds.map T.fr ++ [T.fr (DL.D.tup es)]) QD).rt r ε' → Step true (upd G q (.tup rest)) (upd H q (.tup rest)) eNo G' H' F' → Sat ⟨K, ca, prOf kp (ws ++ [V.ref q])⟩ G' H' σ' ε' F' → RT ⟨K, ca, prOf kp (ws ++ [V.ref q])⟩ G' H' r v Ft → Tmp (upd H q (.tup rest)) eNo G' H' F' Ft → QH v H' := fun r ε' σ' v G' H' F' Ft ⟨ts', e1, q1⟩ st S' r1 tm =>
      qn r ts' v G' H' F' Ft q1 ((stg.trans st).mono fun _ => rfl) S'.gh S'.gf S'.fd (RT.cv _ _ _ r1) (tm.pre stg)
    exact kb _ _ _ _ _ (fnEnds kp (ds.map T.fr ++ [T.fr (DL.D.tup es)]) QD) (fnX kp (ds.map T.fr ++ [T.fr (DL.D.tup es)]) EXD) _ S0 (hsp _ QD EXD hs)
      ⟨fun ε' σ' G' H' F' q st S' => done (.fr .non) ε' σ' .non G' H' F' eNo q st S' (by simp only [RT, RD]) Tmp.no, fun ε' σ' G' H' F' q _ _ => q, fun ε' σ' G' H' F' q _ _ => q, done⟩
      (fun y ε' σ' G' H' F' cl d ⟨ts', e1, q1⟩ st S' xr => qx y ts' G' H' F' cl d q1 ((stg.trans st).mono fun _ => rfl) S'.gh S'.gf S'.fd (XR.cv xr))
end
/-- f(a, b, c, ..) of such a def, with data alone -/
def callS (n : Nat) (sp : SpD) (rs : List Rv) (ε : Env) (Q : EQ) (EX : EXN) : Prop := ∃ ds es : List DL.D, rs = ds.map Rv.d ++ es.map Rv.d ∧ ds.length = n ∧ es.length ≤ sizeLine ∧ sp (ds.map .fr ++ [.fr (.tup es)]) (fun r _ => Q r.rv ε) (fun x _ => EX x ε)
def tClS (n : Nat) (sp : SpD) (t : AT) : ET := fun ε Q EX => t ε (fun rs ε1 => callS n sp rs ε1 Q EX) EX
section
variable {X : Cx} {c : CT} {W : WX'} {w wa wb : Bool} {e : Expr} {es : List Expr} {t : AT} {pos p : Pos} {k : Nat} {f : Addr} {fd : FuncData} {n : Nat} {sp : SpD} {x : Str}
theorem rvs_data {G H : Hp} {σ : L2.St} : ∀ {ds : List DL.D} {vs : List V} {F : FS}, RVs c G H σ (ds.map Rv.d) vs F → RDs c G ds vs
  | [], vs, F, h => by simp only [RDs]; exact h
  | d :: ds, vs, F, ⟨v, us, F1, F2, e, h1, h2, h3, h4, h5⟩ => by
    simp only [RDs]
    exact ⟨v, us, e, h4, rvs_data h5⟩
theorem rds_split {G : Hp} : ∀ {ds es : List DL.D} {vs : List V}, RDs c G (ds ++ es) vs → ∃ ws rest, vs = ws ++ rest ∧ RDs c G ds ws ∧ RDs c G es rest
  | [], es, vs, h => ⟨[], vs, rfl, by simp only [RDs], h⟩
  | d :: ds, es, vs, h => by
    rw [List.cons_append] at h
    simp only [RDs] at h
    obtain ⟨v, r, rfl, h1, h2⟩ := h
    obtain ⟨ws, rest, rfl, h3, h4⟩ := rds_split h2
    exact ⟨v :: ws, rest, rfl, by simp only [RDs]; exact ⟨v, ws, rfl, h1, h3⟩, h4⟩
theorem call_runS (hk : c.K = X.K) (Fn : DFnS X.prog X.w X.K X.mg X.base c.ca k f n sp) (hr : Room k X.A) (hgd : X.A.guards = some []) (tk : Takes X W) {pins : List (Addr × Obj)} {σ : L2.St} {G H G1 H1 : Hp} {s : Shared} {ε1 : Env} {F F1 Ft : FS} {us : List Value} {vs : List V} {rs : List Rv} {Q : EQ} {EX : EXN} {QH : VK}
    (I : Inv X pins σ H1 s) (rv : Vals vs us) (st : Step w G H F G1 H1 F1) (S : Sat c G1 H1 σ ε1 F1) (rr : RVs c G1 H1 σ rs vs Ft) (q : callS n sp rs ε1 Q EX) (o : Out c w G H σ F Q QH) (xo : XOut c G H F σ EX W) :
    codeAny (model X.prog X.w) X.A (.call (.ref f) ⟨us, []⟩) (fun r s' => match r with | .ok (.ret u) => EP X pins σ QH u s' | .ok _ => False | .error e => X.xe e s') s := by
  obtain ⟨ds, es, rfl, hn, hz, q⟩ := q
  rw [← List.map_append] at rr
  obtain ⟨ws, rest, rfl, rd, re⟩ := rds_split (rvs_data rr)
  obtain ⟨K0, ca0, pr0⟩ := c
  obtain rfl : K0 = X.K := hk
  have back : ∀ {G' H' : Hp} {F' : FS}, Step true G1 H1 eNo G' H' F' → Sub G' H' → (∀ a, F' a → G' a = none) → (∀ a, F' a → ∃ o, H' a = some o) → Sat ⟨X.K, ca0, pr0⟩ G' H' σ ε1 F1 ∧ Step false G1 H1 F1 G' H' F1 := fun {G' H' F'} s1 gh hg hd =>
    S.back (ε' := ε1.map fun _ => none) (F' := F') s1 ⟨gh, hg, hd, by rw [List.length_map]; exact S.len, S.pr, fun _ => eNo, fun _ _ _ _ z => z.elim, fun _ _ z => z.elim, fun i t e => by
      rw [List.getElem?_map] at e
      cases q : ε1[i]? with
      | none => rw [q] at e; cases e
      | some o => rw [q] at e; cases e⟩
  refine codeAny_mono (Fn.run X.A X.stack s H1 us ws rest ds es G1 _ _ QH (fun cl d H' => W cl d σ H') hr hgd I.env0 rv S.gh (RDs.cv _ _ rd) (RDs.cv _ _ re) hn hz q ?_ ?_) fun r s' hq => ?_
  · intro r ts' v G' H' F' Ft' q s1 gh hg hd r1 tm
    obtain ⟨S2, s2⟩ := back s1 gh hg hd
    refine o _ ε1 v G' H' F1 Ft' q (st.then0 s2) S2 (T.rv_RV (RT.cv _ _ _ r1)) ⟨fun a z z2 => ?_, tm.g, tm.fd, fun a z => ?_⟩
    · rcases tm.n a z with z3 | z3
      · exact z3
      · obtain ⟨o, e⟩ := S.fd a z2
        rw [e] at z3; cases z3
    · rcases tm.n a z with z3 | z3
      · exact z3.elim
      · rcases st.no z3 with z | z
        · exact .inr z
        · exact .inl z
  · intro y ts' G' H' F' cl d q s1 gh hg hd xr
    obtain ⟨S2, s2⟩ := back s1 gh hg hd
    exact xo y ε1 G' H' F1 cl d q ((st.up.trans s2).mono fun _ => rfl) S2 (XR.cv xr)
  · cases r with
    | error e => exact tk _ _ (XE.of_call I (fun _ _ _ z => z) hq)
    | ok fl =>
      cases fl with
      | ret u => exact I.after hq
      | next => exact hq.elim
      | brk => exact hq.elim
      | cont => exact hq.elim
theorem de_callS (hk : c.K = X.K) (Fn : DFnS X.prog X.w X.K X.mg X.base c.ca k f n sp) (hr : Room k X.A) (hgd : X.A.guards = some []) (tk : Takes X W) (hg : Gl X x) (hm : X.mg x = some (.ref f)) (kp : PySem.W.keepIn X.K (.ref f) = true) (ha : DA X c W wa (e :: es) t)
    (hdb : (x == ("__debug__" : Str)) = false := by decide) (he : starEach (e :: es) X.env = (false, eval e X.env) :: starEach es X.env := by rfl) (hpl : (backTo pos (starEach es X.env)).any (·.1) = false := by rfl) : DE X c W wa (.Call (.Name x p) (e :: es) [] pos) (tClS n sp t) := by
  obtain ⟨ta, pa, ka⟩ := ha.ex
  refine ⟨fun σ H QH => ta σ H fun vs H1 => ∀ (pins : List (Addr × Obj)) (s : Shared) (us : List Value), Inv X pins σ H1 s → Vals vs us → codeAny (model X.prog X.w) X.A (.call (.ref f) ⟨us, []⟩) (fun r s' => match r with | .ok (.ret u) => EP X pins σ QH u s' | .ok _ => False | .error e => X.xe e s') s, ⟨fun pins s σ H QH I h => ?_⟩, fun G H σ ε F Q EX QH S h o xo => ?_⟩
  · refine wpAny_Call_Name_kw (ld_glob I hg hm ?_ hdb)
    refine PySem.W.callWith_K (h₀ := X.base) I.ok.mod.kin kp (thn (pa.run pos pins s σ H _ I h) fun us s1 ⟨vs, H1, I1, r, q⟩ => ⟨I1.kIn, ?_⟩) he hpl
    refine wpAny_call (codeAny_mono (q pins s1 us I1 r) fun r s' z => ?_)
    cases r with
    | error e => exact z
    | ok fl => cases fl with
      | ret u => exact z
      | next => exact z.elim
      | brk => exact z.elim
      | cont => exact z.elim
  · exact ka G H σ ε F _ EX _ S h (fun rs ε1 vs G1 H1 F1 Ft q st S1 rr tm pins s us I rv => call_runS hk Fn hr hgd tk I rv st S1 rr q o xo) xo
theorem e_tClS {ar : AT} {ε : Env} {Q : EQ} {EX : EXN} : goE (tClS n sp ar) ε Q EX = goA ar ε (fun rs ε1 => oM (onlyD rs) fun ds => n ≤ ds.length ∧ (ds.drop n).length ≤ sizeLine ∧ calls sp ((ds.take n).map .fr ++ [.fr (.tup (ds.drop n))]) (fun r _ => Q r.rv ε1) (fun x _ => EX x ε1)) EX := by
  have h : ∀ (rs : List Rv) (ε1 : Env), callS n sp rs ε1 Q EX = oM (onlyD rs) fun ds => n ≤ ds.length ∧ (ds.drop n).length ≤ sizeLine ∧ calls sp ((ds.take n).map .fr ++ [.fr (.tup (ds.drop n))]) (fun r _ => Q r.rv ε1) (fun x _ => EX x ε1) := fun rs ε1 => propext ⟨fun ⟨ds, es, e, hn, hz, q⟩ => by
      refine ⟨ds ++ es, by rw [e, ← List.map_append]; exact map_onlyD, by rw [List.length_append]; omega, ?_, ?_⟩
      · rw [← hn, List.drop_left]; exact hz
      · rw [← hn, List.drop_left, List.take_left]; exact q, fun ⟨ds, e, hn, hz, q⟩ => ⟨ds.take n, ds.drop n, by rw [← List.map_append, List.take_append_drop]; exact onlyD_map e, by rw [List.length_take]; omega, hz, q⟩⟩
  unfold tClS
  simp only [goE, goA, h]
end
theorem star2_of {K : PySem.W.Frag} {x qual : Str} {st : Stmt} {f : Addr} {fd : FuncData} {p1 p2 pv : Str} (F : Fun K x qual st f fd)
    (h0 : ∀ (kV doc pm : Value) (an : Option Addr) (cdv ct a b : Value), bindArgs (PySem.W.fnOf x qual (defArgs st) (defBody st) (defScope st) .none kV doc pm an cdv ct) ⟨[a, b], []⟩ = (newTuple [] >>= fun t => pure [(p1, a), (p2, b), (pv, t)]))
    (h1 : ∀ (kV doc pm : Value) (an : Option Addr) (cdv ct a b r : Value) (rs : List Value), bindArgs (PySem.W.fnOf x qual (defArgs st) (defBody st) (defScope st) .none kV doc pm an cdv ct) ⟨a :: b :: r :: rs, []⟩ = (newTuple (r :: rs) >>= fun t => pure [(p1, a), (p2, b), (pv, t)])) :
    ∀ us rest : List Value, us.length = 2 → bindArgs fd ⟨us ++ rest, []⟩ = (newTuple rest >>= fun t => pure ([p1, p2].zip us ++ [(pv, t)])) := by
  obtain ⟨oc, od, kV, doc, pm, an, cdv, ct, osl, rfl, _, _⟩ := F.ex
  exact StX.bind_star2 (B := fun l => bindArgs _ ⟨l, []⟩) (fun a b => h0 kV doc pm an cdv ct a b) fun a b r rs => h1 kV doc pm an cdv ct a b r rs
end DL

namespace DL
open PySem PySem.Spec L2
open PyProof.Rows
/-! ### for x in p, p a parameter that is never assigned: a tuple or a list that stays as it is -/
def seqAt (i : Nat) (ε : Env) : Option (Bool × List D) := match ε.at i with
  | some (.fr (.tup ds)) => some (false, ds)
  | some (.fr (.lst ds)) => some (true, ds)
  | some (.lst ts) => (dsFr ts).map fun ds => (true, ds)
  | _ => none
def forGoP (i : Nat) (p : Pat) (g : ST') (E : SEnds) (EX : EXN) (all : Bool × List D) : List D → Env → Prop
  | [], ε => seqAt i ε = some all ∧ E.nx ε
  | d :: ds, ε => seqAt i ε = some all ∧ ∃ ε1, p.bind d ε = some ε1 ∧ g { nx := forGoP i p g E EX all ds, ct := forGoP i p g E EX all ds, bk := E.nx, rt := E.rt } EX ε1
def sForP (i : Nat) (p : Pat) (g : ST') : ST' := fun E EX ε => ∃ k ds, seqAt i ε = some (k, ds) ∧ forGoP i p g E EX (k, ds) ds ε
theorem forGoP_at {i : Nat} {p : Pat} {g : ST'} {E : SEnds} {EX : EXN} {all : Bool × List D} : ∀ {ds : List D} {ε : Env}, forGoP i p g E EX all ds ε → seqAt i ε = some all
  | [], _, h => h.1
  | _ :: _, _, h => h.1
theorem prOf_at {kp : List Nat} {vs : List V} {i n : Nat} (hi : kp.contains i = true) (hl : vs.length = n) (hn : i < n) : ∃ v, prOf kp vs i = some v := by
  unfold prOf
  rw [if_pos (by simpa using hi)]
  exact ⟨vs[i], List.getElem?_eq_getElem (by omega)⟩
section
variable {c : CT} {X : Cx} {W : WX'} {tg : Expr}
def hSq (K : PySem.W.Frag) (k : Bool) (H : Hp) (a : Addr) (vs : List V) : Prop := if k = true then SqL K H a vs else SqT K H a vs
def jSq (K : PySem.W.Frag) (k : Bool) (a : Addr) : It := if k = true then Itl K a else Itt K a
theorem hSq_of {K : PySem.W.Frag} {k : Bool} {H : Hp} {a : Addr} {vs : List V} (h : H a = some (if k = true then .lst vs else .tup vs)) : hSq K k H a vs := by
  unfold hSq
  cases k with
  | true => exact SqL.of (by simpa using h)
  | false => exact SqT.of (by simpa using h)
theorem walkP {K : PySem.W.Frag} {k : Bool} {a : Addr} {n : Nat} : Walk (jSq K k a) n (fun H => ∃ vs, hSq K k H a vs ∧ vs.length = n) (fun i H x H' => H' = H ∧ ∀ vs, hSq K k H a vs → vs[i]? = some x) := by
  unfold jSq hSq
  cases k with
  | true => exact ⟨fun i H hi ⟨vs, q, e⟩ => ⟨vs, vs[i]'(by omega), q, by simp [e, hi]⟩, fun H ⟨vs, q, e⟩ => ⟨vs, q, by omega⟩, fun i H x H' hi _ y => y⟩
  | false => exact ⟨fun i H hi ⟨vs, q, e⟩ => ⟨vs, vs[i]'(by omega), q, by simp [e, hi]⟩, fun H ⟨vs, q, e⟩ => ⟨vs, q, by omega⟩, fun i H x H' hi _ y => y⟩
def iSeq (K : PySem.W.Frag) (tl : TE) : TI := fun σ H R => tl σ H fun x H1 => ∃ k a vs, x = .ref a ∧ hSq K k H1 a vs ∧ R (jSq K k a) H1
theorem pi_seq {l : Expr} {tl : TE} (hl : PE X l tl) : PI X tg l (iSeq X.K tl) := by
  refine ⟨fun pins s σ H R I h => thn (hl.run pins s σ H _ I h) fun v s1 ⟨x, H1, I1, r1, k, a, vs, e, hq, q⟩ => ?_⟩
  subst e
  obtain rfl : v = Value.ref a := r1
  have fin : ∀ b ∈ [s1.heap.objs.size], FpOk X pins H1 b := fun b hb => by
    obtain rfl : b = s1.heap.objs.size := by simpa using hb
    exact I1.fpOk (Nat.le_refl _) (I1.hok.fresh (Nat.le_refl _))
  cases k with
  | true =>
    obtain ⟨its, rv, p, hz⟩ := I1.list (show SqL X.K H1 a vs from hq)
    exact wpAny_pyIter_list p.isList ⟨s1.heap.objs.size, [s1.heap.objs.size], _, _, H1, rfl, I1.kept (t' := s1.toks) fun b o e => Heap.get?_push_of_some _ e, turn_list a _, ⟨_, Heap.get?_push_size _ rfl, rfl, rfl⟩, fin, q⟩
  | false =>
    obtain ⟨its, rv, p, hz⟩ := I1.tuple (show SqT X.K H1 a vs from hq)
    exact wpAny_pyIter_tuple (show s1.heap.IsTuple a its.toArray from p) ⟨s1.heap.objs.size, [s1.heap.objs.size], _, _, H1, rfl, I1.kept (t' := s1.toks) fun b o e => Heap.get?_push_of_some _ e, turn_tuple a _, ⟨_, Heap.get?_push_size _ rfl, rfl, rfl⟩, fin, q⟩
end
section
variable {c : CT} {X : Cx} {W : WX'} {tg : Expr}
/-- what the slot's thing is in the heap -/
theorem seqAt_H {G H : Hp} {σ : L2.St} {ε : Env} {F : FS} {i : Nat} {v : V} {k : Bool} {ds : List D} (S : Sat c G H σ ε F) (hv : σ[i]? = some (some v)) (e : seqAt i ε = some (k, ds)) :
    ∃ a vs, v = .ref a ∧ H a = some (if k = true then .lst vs else .tup vs) ∧ RDs c G ds vs := by
  obtain ⟨Fs, d1, d2, d3⟩ := S.at_
  unfold seqAt at e
  split at e
  · rename_i ds q
    cases e
    obtain ⟨v1, e1, r⟩ := d3 i _ (Env.at_some q)
    rw [hv] at e1; cases e1
    simp only [RT, RD] at r
    obtain ⟨a, vs, rfl, h1, h2⟩ := r
    exact ⟨a, vs, rfl, S.gh _ _ h1, h2⟩
  · rename_i ds q
    cases e
    obtain ⟨v1, e1, r⟩ := d3 i _ (Env.at_some q)
    rw [hv] at e1; cases e1
    simp only [RT, RD] at r
    obtain ⟨a, vs, rfl, h1, h2⟩ := r
    exact ⟨a, vs, rfl, S.gh _ _ h1, h2⟩
  · rename_i ts q
    cases q2 : dsFr ts with
    | none => rw [q2] at e; cases e
    | some ds' =>
      rw [q2] at e
      cases e
      obtain ⟨v1, e1, r⟩ := d3 i _ (Env.at_some q)
      rw [hv] at e1; cases e1
      simp only [RT] at r
      obtain ⟨a, vs, F', rfl, h1, h2, h3, h4, h5⟩ := r
      exact ⟨a, vs, rfl, h1, toD h5 q2⟩
  · cases e
theorem ds_forP {body : List Stmt} {p : Pat} {x : Str} {pos' pos : Pos} {g : ST'} {i : Nat} (hk : c.K = X.K) (hpo : PassesOwn (model X.prog X.w) X.A X.env X.xe) (hc : X.calm = true) (hpr : ∃ v, c.pr i = some v)
    (hi : PE X (.Name x pos') (tVar i)) (hg : DG X c p tg) (hb : DSs X c W body g)
    (hs : ∀ y, foldedSetIterable (.Name x pos') X.env y = pure y := by intro _; rfl) : DS X c W (.For tg (.Name x pos') body [] pos) (sForP i p g) := by
  obtain ⟨gg, pg, kg⟩ := hg.ex
  obtain ⟨tb, pb, kb⟩ := hb.ex
  obtain ⟨v, hv⟩ := hpr
  refine ⟨_, ps_for hpo hc (pi_seq hi) pg pb hs, fun G H σ ε F D EX DH S ⟨k, all, e0, h⟩ l xo => ?_⟩
  have hv0 := S.pr i v hv
  obtain ⟨a, vs0, rfl, h1, h2⟩ := seqAt_H S hv0 e0
  refine ⟨.ref a, hv0, k, a, vs0, rfl, hSq_of h1, ?_⟩
  rw [← hk]
  refine for_it (walkP (n := all.length)) (fun j σ' H' => ∃ G' ε' F', Step true G H F G' H' F' ∧ Sat c G' H' σ' ε' F' ∧ forGoP i p g D EX (k, all) (all.drop j) ε') ⟨G, ε, F, Step.refl, S, h⟩ (fun j σ' H' _ ⟨G', ε', F', _, S2, q2⟩ => ?_) (fun j x σ' H2 H3 hj ⟨G', ε', F', st, S2, q2⟩ y => ?_) (fun σ' H' ⟨G', ε', F', st, S2, q2⟩ => ?_)
  · obtain ⟨a', vs, e, k1, k2⟩ := seqAt_H S2 (S2.pr i _ hv) (forGoP_at q2)
    cases e
    exact ⟨vs, hSq_of k1, k2.len.symm⟩
  · obtain ⟨rfl, y⟩ := y
    obtain ⟨a', vs, e, k1, k2⟩ := seqAt_H S2 (S2.pr i _ hv) (forGoP_at q2)
    cases e
    obtain ⟨d, e1, r⟩ := k2.getV (y vs (hSq_of k1))
    have hd : all.drop j = d :: all.drop (j + 1) := by
      obtain ⟨hl, e⟩ := List.getElem?_eq_some_iff.mp e1
      rw [List.drop_eq_getElem_cons hl, e]
    rw [hd] at q2
    obtain ⟨_, ε3, e3, q3⟩ := q2
    refine kg G' H3 σ' ε' ε3 F' d x _ S2 r e3 fun σ4 F4 S4 f4 _ _ => ?_
    have st4 : Step true G H F G' H3 F4 := ⟨st.g, st.h, st.n, fun a z => st.f a (f4 a z)⟩
    refine kb G' H3 σ4 ε3 F4 _ EX _ S4 q3 ⟨?_, ?_, ?_, ?_⟩ (xo.step st4)
    · exact fun ε5 σ5 G5 H5 F5 q5 s5 S5 => ⟨G5, ε5, F5, tr2 st4 s5, S5, q5⟩
    · exact fun ε5 σ5 G5 H5 F5 q5 s5 S5 => l.nx ε5 σ5 G5 H5 F5 q5 (tr2 st4 s5) S5
    · exact fun ε5 σ5 G5 H5 F5 q5 s5 S5 => ⟨G5, ε5, F5, tr2 st4 s5, S5, q5⟩
    · exact fun t ε5 σ5 v G5 H5 F5 Ft q5 s5 S5 r5 t5 => l.rt t ε5 σ5 v G5 H5 F5 Ft q5 (tr2 st4 s5) S5 r5 (t5.pre st4)
  · rw [List.drop_length] at q2
    exact l.nx ε' σ' G' H' F' q2.2 st S2
end
end DL

namespace DL
open PySem PySem.Spec L2
section
variable {E : SEnds} {EX : EXN} {ε : Env} {g : ST'} {p : Pat} {i : Nat}
def goFP (i : Nat) (p : Pat) (g : ST') (E : SEnds) (EX : EXN) (q : Bool × List D) (ε : Env) (_ : B3 g E EX := ()) : Prop := forGoP i p g E EX q q.2 ε
def sqK : Option T → Option (Bool × List D)
  | some (.fr (.tup ds)) => some (false, ds)
  | some (.fr (.lst ds)) => some (true, ds)
  | some (.lst ts) => (dsFr ts).map fun ds => (true, ds)
  | _ => none
theorem sqK_t {ds : List D} : sqK (some (.fr (.tup ds))) = some (false, ds) := rfl
theorem sqK_f {ds : List D} : sqK (some (.fr (.lst ds))) = some (true, ds) := rfl
theorem sqK_l {ts : List T} : sqK (some (.lst ts)) = (dsFr ts).map fun ds => (true, ds) := rfl
theorem seqAt_K : seqAt i ε = sqK (ε.at i) := rfl
theorem e_sForP : goS (sForP i p g) E EX ε = oM (sqK (ε.at i)) fun q => goFP i p g E EX q ε := propext
  ⟨fun ⟨k, ds, e, h⟩ => ⟨(k, ds), e, h⟩, fun ⟨(k, ds), e, h⟩ => ⟨k, ds, e, h⟩⟩
theorem goFP_nil {k : Bool} (h : sqK (ε.at i) = some (k, [])) (q : E.nx ε) : goFP i p g E EX (k, []) ε := ⟨h, q⟩
theorem goFP_ind {k : Bool} {items : List D} (I : Nat → Env → Prop) (hs : ∀ j ε', I j ε' → sqK (ε'.at i) = some (k, items)) (h0 : I 0 ε) (hn : ∀ ε', I items.length ε' → E.nx ε')
    (h : ∀ (j : Nat) (d : D) (ε' : Env) (N : Env → Prop), items[j]? = some d → I j ε' → (∀ ε2, I (j + 1) ε2 → N ε2) → ∃ ε1, p.bind d ε' = some ε1 ∧ goS g { nx := N, ct := N, bk := E.nx, rt := E.rt } EX ε1) : goFP i p g E EX (k, items) ε := by
  suffices gen : ∀ (n j : Nat) (ε : Env), n + j = items.length → I j ε → forGoP i p g E EX (k, items) (items.drop j) ε by
    exact gen items.length 0 ε rfl h0
  intro n
  induction n with
  | zero =>
    intro j ε e hi
    obtain rfl : j = items.length := by omega
    rw [List.drop_length]
    exact ⟨hs _ _ hi, hn ε hi⟩
  | succ n ih =>
    intro j ε e hi
    have hlt : j < items.length := by omega
    rw [List.drop_eq_getElem_cons hlt]
    obtain ⟨ε1, e1, q⟩ := h j items[j] ε (forGoP i p g E EX (k, items) (items.drop (j + 1))) (List.getElem?_eq_getElem hlt) hi fun ε2 h2 => ih (j + 1) ε2 (by omega) h2
    exact ⟨hs _ _ hi, ε1, e1, q⟩
end
end DL

namespace GL
/-! ### marks: the plain law (f as a function on wires) -/
/-- a joint melts the higher mark into the lower -/
def melt (f : Int → Int) (p : Int × Int) : Int → Int := if min (f p.1) (f p.2) < max (f p.1) (f p.2) then fun v => if f v = max (f p.1) (f p.2) then min (f p.1) (f p.2) else f v else f
structure Mk (js : List (Int × Int)) (f : Int → Int) : Prop where
  on : ∀ p ∈ js, f p.1 = f p.2
  to : ∀ S : Int → Int, (∀ p ∈ js, S p.1 = S p.2) → ∀ u v, f u = f v → S u = S v
  low : ∀ v, f v ≤ v
  idem : ∀ v, f (f v) = f v
  pos : (∀ p ∈ js, 0 ≤ p.1 ∧ 0 ≤ p.2) → ∀ v, 0 ≤ v → 0 ≤ f v
theorem Mk.nil : Mk [] id := ⟨fun p h => (nomatch h), fun S _ u v h => by cases (show u = v from h); rfl, fun v => Int.le_refl _, fun v => rfl, fun _ v h => h⟩
theorem Mk.step {js : List (Int × Int)} {f : Int → Int} {p : Int × Int} (m : Mk js f) : Mk (js ++ [p]) (melt f p) := by
  obtain ⟨a, b⟩ := p
  have h1 := m.low
  have h2 := m.idem
  have h3 : (∀ q ∈ js ++ [(a, b)], 0 ≤ q.1 ∧ 0 ≤ q.2) → (0 ≤ a ∧ 0 ≤ b) ∧ ∀ v, 0 ≤ v → 0 ≤ f v := fun h => ⟨h (a, b) (by simp), m.pos fun q hq => h q (by simp [hq])⟩
  unfold melt
  split
  · rename_i hlt
    simp only at hlt
    have key : ∀ S : Int → Int, (∀ q ∈ js ++ [(a, b)], S q.1 = S q.2) → ∀ v, S (f v) = S v := fun S hS v => m.to S (fun q hq => hS q (by simp [hq])) _ _ (h2 v)
    refine ⟨fun q hq => ?_, fun S hS u v e => ?_, fun v => ?_, fun v => ?_, fun h v hv => ?_⟩
    · rcases List.mem_append.mp hq with h | h
      · simp only [m.on q h]
      · simp only [List.mem_singleton] at h
        subst h
        simp only
        split <;> split <;> omega
    · have kS := key S hS
      have hab : S a = S b := hS (a, b) (by simp)
      have e1 : S (f a) = S (f b) := by rw [kS, kS, hab]
      have e2 : S (max (f a) (f b)) = S (min (f a) (f b)) := by
        rcases Int.le_total (f a) (f b) with h | h
        · rw [Int.max_eq_right h, Int.min_eq_left h, e1]
        · rw [Int.max_eq_left h, Int.min_eq_right h, e1]
      rw [← kS u, ← kS v]
      simp only at e
      split at e <;> split at e <;> simp_all
    · have := h1 v
      simp only
      split <;> omega
    · simp only
      have ha := h2 a
      have hb := h2 b
      have hv := h2 v
      by_cases hq : f v = max (f a) (f b)
      · rw [if_pos hq]
        rcases Int.le_total (f a) (f b) with h | h
        · rw [Int.max_eq_right h, Int.min_eq_left h] at *
          rw [ha, if_neg (by omega)]
        · rw [Int.max_eq_left h, Int.min_eq_right h] at *
          rw [hb, if_neg (by omega)]
      · rw [if_neg hq, hv, if_neg hq]
    · obtain ⟨⟨ha, hb⟩, h0⟩ := h3 h
      have := h0 a ha
      have := h0 b hb
      have := h0 v hv
      simp only
      split <;> omega
  · rename_i hlt
    simp only at hlt
    refine ⟨fun q hq => ?_, fun S hS => m.to S fun q hq => hS q (by simp [hq]), h1, h2, fun h => (h3 h).2⟩
    rcases List.mem_append.mp hq with h | h
    · exact m.on q h
    · simp only [List.mem_singleton] at h
      subst h
      simp only
      omega
/-- the marks behind some joints -/
def mkF (js : List (Int × Int)) : Int → Int := js.foldl melt id
theorem mkF_snoc {js : List (Int × Int)} {p : Int × Int} : mkF (js ++ [p]) = melt (mkF js) p := by unfold mkF; rw [List.foldl_append]; rfl
theorem foldl_Mk : ∀ (ps js : List (Int × Int)) (f : Int → Int), Mk js f → Mk (js ++ ps) (ps.foldl melt f)
  | [], js, f, h => by simpa using h
  | p :: ps, js, f, h => by
    have := foldl_Mk ps (js ++ [p]) (melt f p) h.step
    simpa using this
theorem mkF_Mk (js : List (Int × Int)) : Mk js (mkF js) := by
  have := foldl_Mk js [] id Mk.nil
  rw [List.nil_append] at this
  exact this
/-- one relation inside the other -/
theorem Mk.coarse {js ks : List (Int × Int)} {f g : Int → Int} (m : Mk js f) (n : Mk ks g) (h : ∀ p ∈ js, g p.1 = g p.2) {u v : Int} (e : f u = f v) : g u = g v := m.to g h u v e
theorem Mk.eq {js ks : List (Int × Int)} {f g : Int → Int} (m : Mk js f) (n : Mk ks g) (h : ∀ p ∈ js, g p.1 = g p.2) (k : ∀ p ∈ ks, f p.1 = f p.2) : f = g := by
  funext v
  have h1 : f (g v) = f v := n.to f k _ _ (n.idem v)
  have h2 : g (f v) = g v := m.to g h _ _ (m.idem v)
  have h3 := m.low (g v)
  have h4 := n.low (f v)
  omega
/-- the joints of some keys -/
def pick (js : List (Int × Int)) (ns : List Int) : List (Int × Int) := ns.filterMap fun k => js[k.toNat]?
theorem pick_mem {js : List (Int × Int)} {ns : List Int} {p : Int × Int} : p ∈ pick js ns ↔ ∃ k ∈ ns, js[k.toNat]? = some p := by simp [pick]
theorem pick_app {js : List (Int × Int)} {ns ms : List Int} : pick js (ns ++ ms) = pick js ns ++ pick js ms := by simp [pick]
def mk (js : List (Int × Int)) (ns : List Int) : Int → Int := mkF (pick js ns)
theorem mk_Mk (js : List (Int × Int)) (ns : List Int) : Mk (pick js ns) (mk js ns) := mkF_Mk _
def tied (f : Int → Int) (js : List (Int × Int)) (k : Nat) : Bool := match js[k]? with
  | some p => decide (f p.1 = f p.2)
  | none => false
/-- the keys that are seen -/
def shown (js : List (Int × Int)) (ns : List Int) : List Int := ((List.range js.length).filter fun k => tied (mk js ns) js k).map fun k : Nat => (k : Int)
def KeysIn (js : List (Int × Int)) (ns : List Int) : Prop := ∀ k ∈ ns, 0 ≤ k ∧ k < js.length
theorem shown_mem {js : List (Int × Int)} {ns : List Int} {k : Int} : k ∈ shown js ns ↔ 0 ≤ k ∧ ∃ p, js[k.toNat]? = some p ∧ mk js ns p.1 = mk js ns p.2 := by
  unfold shown
  rw [List.mem_map]
  constructor
  · rintro ⟨a, ha, rfl⟩
    rw [List.mem_filter, List.mem_range] at ha
    obtain ⟨h1, h2⟩ := ha
    refine ⟨by omega, js[a], by simp, ?_⟩
    simp only [tied, List.getElem?_eq_getElem h1, decide_eq_true_eq] at h2
    exact h2
  · rintro ⟨h0, p, hp, e⟩
    have hl := (List.getElem?_eq_some_iff.mp hp).1
    refine ⟨k.toNat, List.mem_filter.mpr ⟨List.mem_range.mpr hl, ?_⟩, by omega⟩
    simp only [tied, hp, e, decide_true]
theorem shown_in {js : List (Int × Int)} {ns : List Int} : KeysIn js (shown js ns) := fun k hk => by
  obtain ⟨h0, p, hp, _⟩ := shown_mem.mp hk
  have := (List.getElem?_eq_some_iff.mp hp).1
  exact ⟨h0, by omega⟩
theorem shown_pw {js : List (Int × Int)} {ns : List Int} : (shown js ns).Pairwise (· < ·) := by
  unfold shown
  rw [List.pairwise_map]
  exact (List.pairwise_lt_range.filter _).imp fun h => by omega
theorem shown_len {js : List (Int × Int)} {ns : List Int} : (shown js ns).length ≤ js.length := by
  unfold shown
  rw [List.length_map]
  have := List.length_filter_le (fun k => tied (mk js ns) js k) (List.range js.length)
  simpa using this
theorem sub_shown {js : List (Int × Int)} {ns : List Int} (h : KeysIn js ns) {k : Int} (hk : k ∈ ns) : k ∈ shown js ns := by
  obtain ⟨h0, h1⟩ := h k hk
  refine shown_mem.mpr ⟨h0, js[k.toNat], List.getElem?_eq_getElem (by omega), ?_⟩
  exact (mk_Mk js ns).on _ (pick_mem.mpr ⟨k, hk, List.getElem?_eq_getElem (by omega)⟩)
/-- keys that are seen change nothing -/
theorem mk_same {js : List (Int × Int)} {ns ms : List Int} (h : ∀ k ∈ ns, k ∈ ms) (h0 : ∀ k ∈ ms, 0 ≤ k) (h2 : ∀ k ∈ ms, k ∈ shown js ns) : mk js ms = mk js ns := by
  refine (mk_Mk js ms).eq (mk_Mk js ns) (fun p hp => ?_) fun p hp => ?_
  · obtain ⟨k, hk, e⟩ := pick_mem.mp hp
    obtain ⟨_, q, hq, e2⟩ := shown_mem.mp (h2 k hk)
    rw [e] at hq; cases hq
    exact e2
  · obtain ⟨k, hk, e⟩ := pick_mem.mp hp
    exact (mk_Mk js ms).on p (pick_mem.mpr ⟨k, h k hk, e⟩)
theorem mk_shown {js : List (Int × Int)} {ns : List Int} (h : KeysIn js ns) : mk js (shown js ns) = mk js ns := mk_same (fun _ => sub_shown h) (fun k hk => (shown_mem.mp hk).1) fun _ hk => hk
theorem shown_shown {js : List (Int × Int)} {ns : List Int} (h : KeysIn js ns) : shown js (shown js ns) = shown js ns := by
  have e := mk_shown h
  show ((List.range js.length).filter fun k => tied (mk js (shown js ns)) js k).map (fun k : Nat => (k : Int)) = _
  rw [e]
  rfl
theorem mk_mono {js : List (Int × Int)} {ns ms : List Int} (h : ∀ k ∈ ns, k ∈ ms) {u v : Int} (e : mk js ns u = mk js ns v) : mk js ms u = mk js ms v :=
  (mk_Mk js ns).to _ (fun p hp => by
    obtain ⟨k, hk, e⟩ := pick_mem.mp hp
    exact (mk_Mk js ms).on p (pick_mem.mpr ⟨k, h k hk, e⟩)) u v e
theorem shown_mono {js : List (Int × Int)} {ns ms : List Int} (h : ∀ k ∈ ns, k ∈ ms) {k : Int} (hk : k ∈ shown js ns) : k ∈ shown js ms := by
  obtain ⟨h0, p, hp, e⟩ := shown_mem.mp hk
  exact shown_mem.mpr ⟨h0, p, hp, mk_mono h e⟩
/-- only which keys are pressed counts -/
theorem mk_set {js : List (Int × Int)} {ns ms : List Int} (h : ∀ k ∈ ns, k ∈ ms) (h' : ∀ k ∈ ms, k ∈ ns) : mk js ns = mk js ms :=
  (mk_Mk js ns).eq (mk_Mk js ms) (fun p hp => by
    obtain ⟨k, hk, e⟩ := pick_mem.mp hp
    exact (mk_Mk js ms).on p (pick_mem.mpr ⟨k, h k hk, e⟩)) (fun p hp => by
    obtain ⟨k, hk, e⟩ := pick_mem.mp hp
    exact (mk_Mk js ns).on p (pick_mem.mpr ⟨k, h' k hk, e⟩))
/-! ### lots -/
def Joints (n : Int) (js : List (Int × Int)) : Prop := ∀ p ∈ js, 0 ≤ p.1 ∧ p.1 < p.2 ∧ p.2 < n
theorem pick_joints {n : Int} {js : List (Int × Int)} {ns : List Int} (h : Joints n js) : Joints n (pick js ns) := fun p hp => by
  obtain ⟨k, _, e⟩ := pick_mem.mp hp
  exact h p (List.mem_of_getElem? e)
theorem mk_pos {n : Int} {js : List (Int × Int)} {ns : List Int} (h : Joints n js) {v : Int} (hv : 0 ≤ v) : 0 ≤ mk js ns v :=
  (mk_Mk js ns).pos (fun p hp => by have := pick_joints h p hp; omega) v hv
/-- the wires of a lot -/
def cls (n : Nat) (f : Int → Int) (r : Int) : List Int := ((List.range n).filter fun i => decide (f (i : Nat) = r)).map fun i : Nat => (i : Int)
def roots (n : Nat) (f : Int → Int) : List Int := ((List.range n).filter fun i => decide (f (i : Nat) = (i : Nat))).map fun i : Nat => (i : Int)
def lotsOf (n : Nat) (f : Int → Int) : List (List Int) := (roots n f).map (cls n f)
theorem cls_mem {n : Nat} {f : Int → Int} {r v : Int} : v ∈ cls n f r ↔ 0 ≤ v ∧ v < n ∧ f v = r := by
  unfold cls
  simp only [List.mem_map, List.mem_filter, List.mem_range, decide_eq_true_eq]
  constructor
  · rintro ⟨a, ⟨h1, h2⟩, rfl⟩; exact ⟨by omega, by omega, h2⟩
  · rintro ⟨h1, h2, h3⟩; exact ⟨v.toNat, ⟨by omega, by rw [Int.toNat_of_nonneg h1]; exact h3⟩, by omega⟩
theorem cls_pw {n : Nat} {f : Int → Int} {r : Int} : (cls n f r).Pairwise (· < ·) := by
  unfold cls
  rw [List.pairwise_map]
  exact (List.pairwise_lt_range.filter _).imp fun h => by omega
theorem roots_mem {n : Nat} {f : Int → Int} {v : Int} : v ∈ roots n f ↔ 0 ≤ v ∧ v < n ∧ f v = v := by
  unfold roots
  simp only [List.mem_map, List.mem_filter, List.mem_range, decide_eq_true_eq]
  constructor
  · rintro ⟨a, ⟨h1, h2⟩, rfl⟩; exact ⟨by omega, by omega, h2⟩
  · rintro ⟨h1, h2, h3⟩; exact ⟨v.toNat, ⟨by omega, by rw [Int.toNat_of_nonneg h1]; exact h3⟩, by omega⟩
theorem roots_pw {n : Nat} {f : Int → Int} : (roots n f).Pairwise (· < ·) := by
  unfold roots
  rw [List.pairwise_map]
  exact (List.pairwise_lt_range.filter _).imp fun h => by omega
/-- ascending lists with the same items are the same -/
theorem asc_ext : ∀ {xs ys : List Int}, xs.Pairwise (· < ·) → ys.Pairwise (· < ·) → (∀ k, k ∈ xs ↔ k ∈ ys) → xs = ys
  | [], [], _, _, _ => rfl
  | [], y :: ys, _, _, h => by have := (h y).mpr (by simp); simp at this
  | x :: xs, [], _, _, h => by have := (h x).mp (by simp); simp at this
  | x :: xs, y :: ys, hx, hy, h => by
    obtain ⟨hx1, hx2⟩ := List.pairwise_cons.mp hx
    obtain ⟨hy1, hy2⟩ := List.pairwise_cons.mp hy
    have e : x = y := by
      rcases List.mem_cons.mp ((h x).mp (by simp)) with e | h1
      · exact e
      · rcases List.mem_cons.mp ((h y).mpr (by simp)) with e | h2
        · exact e.symm
        · have := hy1 x h1
          have := hx1 y h2
          omega
    subst e
    congr 1
    refine asc_ext hx2 hy2 fun k => ⟨fun hk => ?_, fun hk => ?_⟩
    · rcases List.mem_cons.mp ((h k).mp (by simp [hk])) with e | h1
      · have := hx1 k hk; omega
      · exact h1
    · rcases List.mem_cons.mp ((h k).mpr (by simp [hk])) with e | h1
      · have := hy1 k hk; omega
      · exact h1
theorem asc_of {ns ms : List Int} (hp : ms.Perm ns) (hs : ms.Pairwise (· ≤ ·)) (hn : ns.Nodup) : ms.Pairwise (· < ·) := by
  have hn' : ms.Nodup := hp.nodup_iff.mpr hn
  clear hp hn
  induction ms with
  | nil => exact .nil
  | cons a r ih =>
    obtain ⟨h1, h2⟩ := List.pairwise_cons.mp hs
    obtain ⟨h3, h4⟩ := List.nodup_cons.mp hn'
    refine List.pairwise_cons.mpr ⟨fun b hb => ?_, ih h2 h4⟩
    have := h1 b hb
    by_cases e : a = b
    · exact absurd (e ▸ hb) h3
    · omega
theorem nodup_sub_len : ∀ {xs ys : List Int}, xs.Nodup → (∀ k ∈ xs, k ∈ ys) → xs.length ≤ ys.length
  | [], ys, _, _ => by simp
  | x :: xs, ys, hn, h => by
    obtain ⟨h1, h2⟩ := List.nodup_cons.mp hn
    have hx := h x (by simp)
    have := nodup_sub_len (xs := xs) (ys := ys.erase x) h2 fun k hk => by
      refine (List.mem_erase_of_ne ?_).mpr (h k (by simp [hk]))
      rintro rfl
      exact h1 hk
    rw [List.length_erase_of_mem hx] at this
    have := List.length_pos_of_mem hx
    simp only [List.length_cons]
    omega
end GL

namespace GL
open PySem PySem.Spec L2 DL
/-- a reading is followed as far as it goes -/
local macro_rules | `(tactic| pv_eval) => `(tactic| simp -dsimp only [e_tVr, e_tK, e_tV1, e_tV2, e_tTs, e_tN, e_tAn, e_tOn, e_tAv, e_tOv, e_tNv, e_tIf1, e_tCh, e_tA0, e_tA1, e_tTp, e_tLs, e_tLf, e_tDc0, e_tVL, e_tIsi, e_tLi, e_tTu, e_tAd, e_tMu, e_tSc, e_tO0, e_tO1, e_tIx, e_tCl, e_tClK, e_tClF, e_tClKF, onlyD, e_tRev, rvK_l, rvK_t, e_tLenSet, e_tSoA, e_tIsi2, e_tAS, seqK_t, seqK_l, e_tClS, List.take_succ_cons, List.take_zero, List.drop_succ_cons, List.drop_zero, intsQ_l, intsQ_t, e_tApp, e_tExt, e_tItL, e_tItT, e_tIt1, e_tIt2, e_tYs, goL_nil, goF_nil, go2_nil, e_tLcD, e_tLcD2, e_sNx, e_sSq, e_sNever, e_sEx, e_sRt, e_sRtN, e_sIf, e_sAs, e_sUn, e_sFor, e_sForP, sqK_t, sqK_f, sqK_l, Option.map_some, e_sPr, e_sSt, fe_nx, fe_rt, fe_x, oM_s, oM_n, iB_t, iB_f, oB_b, zB_b, oI_i, oL_1, dL_l, dT_t, sL_l, isAt_a, r2_I, r2_Ic, r2_N, r2_nN, r2_nB, r2_Eq, r2_Ne, r2_InL, r2_InFl, r2_InFt, r1_Neg, rL_lenS, rL_lenL, rL_lenT, rL_lenC, rL_abs, rL_max, rL_min, rL_intI, rL_intB, rL_str, rL_all, rL_any, rL_rep, o2I_i, vr_f, vr_l, vr_d, vr_o, ixE_f, ixE_la, ixE_lo, ixT_t, ixT_l, ixT_c', ixT_s, ixT_o, addK_i, addK_s, addK_l, addK_t, mulK_i, mulK_l, slK_l, slK_t, slK_s, rtK_d, rtK_o, rtK_a, rtK_p, asK_d, asK_o, asK_a, pd_d, pd_o, pd_a, pd_p, at00, at01, at02, ixN_30, ixN_31, ixN_32, ixN_20, ixN_21, ixN_S0, at_S0, e_tItE, e_tItZ, e_tLr, e_tSo, e_tDg2, e_sDp, o2_2, e_tLVals, e_tSSet, sTu_t, dsFr, dsFr_map,
  Rv.vw, Rv.tr, Rv.sq, Rv.fz, T.get, T.kid, T.set, T.setKid, T.d, T.ds, T.rv, T.frO, D.sq, Sq.its, flatT, vws, owns, takeT, giveT, DL.lstAt, DL.putAt, pickL, Pat.bind, Pat.binds, wipeE, unwipe, setAll, startE, parsFrom, at_0, at_S, set_0, set_S, List.map_cons, List.map_nil, List.length_cons, List.length_nil, List.replicate, List.cons_append, List.nil_append, List.append_nil, List.filterMap_cons, List.filterMap_nil, List.getElem?_cons_zero, List.getElem?_cons_succ, Option.map_some, Option.bind_some, Option.isSome_some, and_true, true_and, List.mem_cons, List.mem_singleton, List.not_mem_nil, or_false, false_or, or_true, true_or, if_true, if_false, Nat.zero_add, Nat.add_zero, Nat.reduceAdd, Nat.reduceSub, Nat.reduceEqDiff, reduceCtorEq, true_implies, false_implies, implies_true, false_and, and_false, not_true_eq_false, not_false_eq_true, Bool.true_eq_false, eqC_ii, eqC_ss, eqv_ii, eqv_ss, D.isN, isK, D.ty, Bool.not_true, Bool.not_false, decide_eq_true_eq, Bool.false_eq_true, eq_self, Bool.or_false, Bool.false_or, ite_true, ite_false, and_self, decide_true, decide_false, T.ds_fr, T.ds_map, Int.cast_ofNat_Int, blsD, blsD_f, List.all_cons, List.all_nil, List.any_cons, List.any_nil, id_eq, Bool.and_true, sizeLine_eq, List.isEmpty_nil, List.isEmpty_cons, eqv_l0, eqv_t0, Nat.reduceLeDiff, Nat.reduceLT, Int.reduceLE, Int.reduceLT, Int.reduceEq, Nat.reducePow, flatT_fr, Int.zero_add, fzL, zpItems, intsD, intsD_map, dicAt, keyAt, ownDic, putDic,
  kit_NoneType_int, kit_NoneType_bool, kit_NoneType_tuple, kit_NoneType_list, kit_NoneType_str, kit_NoneType_dict, kit_bool_int, kit_bool_bool, kit_bool_tuple, kit_bool_list, kit_bool_str, kit_bool_dict, kit_int_int, kit_int_bool, kit_int_tuple, kit_int_list, kit_int_str, kit_int_dict, kit_str_int, kit_str_bool, kit_str_tuple, kit_str_list, kit_str_str, kit_str_dict, kit_tuple_int, kit_tuple_bool, kit_tuple_tuple, kit_tuple_list, kit_tuple_str, kit_tuple_dict, kit_list_int, kit_list_bool, kit_list_tuple, kit_list_list, kit_list_str, kit_list_dict, kit_dict_int, kit_dict_bool, kit_dict_tuple, kit_dict_list, kit_dict_str, kit_dict_dict])
def isInt (v : DL.D) (lo : Int) (hi : Option Int) : Bool := match v with
  | .int i => decide (lo ≤ i) && (match hi with | some h => decide (i ≤ h) | none => true)
  | _ => false
def optD : Option Int → DL.D
  | none => .non
  | some i => .int i
def sp_is_integer : SpD := fun ts Q _ => ∃ v lo hi, ts = [.fr v, .fr (.int lo), .fr (optD hi)] ∧ v.py = true ∧ Q (.fr (.bl (isInt v lo hi))) ts
theorem ln_is_integer : ∀ ts Q E, sp_is_integer ts Q E → ts.length = 3 := by rintro _ Q E ⟨v, lo, hi, rfl, _⟩; rfl
def g_is_integer : ST' := (sSq (sIf (tOn (tN (tTs (tIsi "int" (tVr 0)))) (tTs (tIsi "bool" (tVr 0)))) (sRt (tK (.bl false))) sNx)
  (sRt (tAv (tV2 RGe false (tVr 0) (tVr 1)) (tOv (tV2 RIsN false (tVr 2) (tK .non)) (tV2 RLe false (tVr 0) (tVr 2))))))

theorem vc_is_integer : ∀ ts QD EXD, sp_is_integer ts QD EXD → g_is_integer (fnEnds [0, 1, 2] ts QD) (fnX [0, 1, 2] ts EXD) (startE ["value", "low", "high"] ts) := by
  rintro _ Q E ⟨v, lo, hi, rfl, hv, q⟩
  cases v with
  | obj _ _ _ => simp [D.py] at hv
  | scr _ => simp [D.py] at hv
  | int i =>
    cases hi <;> simp only [optD, isInt] at q ⊢ <;> unfold g_is_integer <;> refine go_i ?_ <;> pv_eval <;> refine iB_i (fun h => ?_) (fun h => ?_) <;> pv_eval <;> simp_all
  | bl b => cases b <;> cases hi <;> simp only [optD, isInt] at q ⊢ <;> unfold g_is_integer <;> refine go_i ?_ <;> pv_eval <;> exact q
  | _ => cases hi <;> simp only [optD, isInt] at q ⊢ <;> unfold g_is_integer <;> refine go_i ?_ <;> pv_eval <;> exact q
theorem cl_is_integer {v : DL.D} {lo : Int} {hi : DL.D} {h : Option Int} {Q : T → List T → Prop} {E : Ex → List T → Prop} (e : hi = optD h) (hv : v.py = true) (q : Q (.fr (.bl (isInt v lo h))) [.fr v, .fr (.int lo), .fr hi]) : calls sp_is_integer [.fr v, .fr (.int lo), .fr hi] Q E :=
  ⟨v, lo, h, by rw [e], hv, q⟩
def isJoint (v : DL.D) (n : Int) : Bool := match v with
  | .tup [a, b] => isInt a 0 (some (n - 1)) && isInt b 0 (some (n - 1)) && (match a, b with | .int i, .int j => decide (i < j) | _, _ => false)
  | _ => false
def sp_is_joint : SpD := fun ts Q _ => ∃ v n, ts = [.fr v, .fr (.int n)] ∧ v.py = true ∧ Q (.fr (.bl (isJoint v n))) ts
theorem ln_is_joint : ∀ ts Q E, sp_is_joint ts Q E → ts.length = 2 := by rintro _ Q E ⟨v, n, rfl, _⟩; rfl
def g_is_joint : ST' := (sSq (sIf (tOn (tN (tTs (tIsi "tuple" (tVr 0)))) (tTs (tV2 RNe false (tVL RLen (tA1 false (tVr 0) tA0)) (tK (.int 2))))) (sRt (tK (.bl false))) sNx)
  (sRt (tAv (tVL RAll (tA1 false (tLcD (tItT (tVr 0)) (.nm 2) [2] tYs (tCl sp_is_integer (tA1 false (tVr 2) (tA1 false (tK (.int 0)) (tA1 false (tV2 RSub false (tVr 1) (tK (.int 1))) tA0))))) tA0)) (tV2 RLt false (tIx false (tVr 0) (tK (.int 0))) (tIx false (tVr 0) (tK (.int 1)))))))

theorem isInt_int {v : DL.D} {lo : Int} {hi : Option Int} (h : isInt v lo hi = true) : ∃ i, v = .int i := by
  cases v <;> simp [isInt] at h
  exact ⟨_, rfl⟩
theorem vc_is_joint : ∀ ts QD EXD, sp_is_joint ts QD EXD → g_is_joint (fnEnds [0, 1] ts QD) (fnX [0, 1] ts EXD) (startE ["value", "wires", "wire"] ts) := by
  rintro _ Q E ⟨v, n, rfl, hv, q⟩
  unfold g_is_joint
  refine go_i ?_
  cases v with
  | obj _ _ _ => simp [D.py] at hv
  | scr _ => simp [D.py] at hv
  | tup ds =>
    by_cases hl : ds.length = 2
    · match ds, hl with
      | [a, b], _ =>
        simp only [D.py, D.pys, Bool.and_true, Bool.and_eq_true] at hv
        pv_eval
        refine goL_pure (fun d => .bl (isInt d 0 (some (n - 1)))) (fun d hd => ?_) ?_
        · have hd : d.py = true := by
            simp only [List.mem_cons, List.not_mem_nil, or_false] at hd
            rcases hd with rfl | rfl
            · exact hv.1
            · exact hv.2
          refine ⟨_, rfl, rfl, fun Q q => ?_⟩
          pv_eval
          refine cl_is_integer (h := some (n - 1)) rfl hd ?_
          pv_eval
          exact q
        · pv_eval
          refine iB_i (fun h => ?_) (fun h => ?_)
          · simp only [Bool.and_eq_true] at h
            obtain ⟨i, rfl⟩ := isInt_int h.1
            obtain ⟨j, rfl⟩ := isInt_int h.2
            pv_eval
            simpa only [isJoint, h.1, h.2, Bool.true_and] using q
          · pv_eval
            simpa only [isJoint, h, Bool.false_and] using q
    · pv_eval
      refine iB_i (fun h => ?_) (fun h => ?_)
      · pv_eval
        have : isJoint (.tup ds) n = false := by
          unfold isJoint
          split
          · rename_i h; simp only [D.tup.injEq] at h; subst h; simp at hl
          · rfl
        rw [← this]
        exact q
      · simp at h; omega
  | _ => pv_eval; exact q
theorem cl_is_joint {v : DL.D} {n : Int} {Q : T → List T → Prop} {E : Ex → List T → Prop} (hv : v.py = true) (q : Q (.fr (.bl (isJoint v n))) [.fr v, .fr (.int n)]) : calls sp_is_joint [.fr v, .fr (.int n)] Q E := ⟨v, n, rfl, hv, q⟩
/-- what a board is -/
def isBoard (v : DL.D) : Bool := match v with
  | .tup [.int n, .tup ks] => decide (1 ≤ n) && (!ks.isEmpty && ks.all fun k => isJoint k n)
  | _ => false
/-- behind a number of wires no dict stands among the keys -/
def keysOk (v : DL.D) : Prop := match v with
  | .tup [.int _, .tup ks] => D.eqOk (.tup ks) ∧ ks.length ≤ 100000
  | _ => True
def sp_is_board : SpD := fun ts Q _ => ∃ v, ts = [.fr v] ∧ v.py = true ∧ keysOk v ∧ Q (.fr (.bl (isBoard v))) ts
theorem ln_is_board : ∀ ts Q E, sp_is_board ts Q E → ts.length = 1 := by rintro _ Q E ⟨v, rfl, _⟩; rfl
def g_is_board : ST' := (sSq (sIf (tOn (tN (tTs (tIsi "tuple" (tVr 0)))) (tOn (tTs (tV2 RNe false (tVL RLen (tA1 false (tVr 0) tA0)) (tK (.int 2)))) (tN (tTs (tCl sp_is_integer (tA1 false (tIx false (tVr 0) (tK (.int 0))) (tA1 false (tK (.int 1)) (tA1 false (tK .non) tA0)))))))) (sRt (tK (.bl false))) sNx)
  (sSq (sUn (.tp [.nm 1, .nm 2]) (tVr 0))
  (sRt (tAv (tIsi "tuple" (tVr 2)) (tAv (tV2 RNe false (tVr 2) (tTp tA0)) (tVL RAll (tA1 false (tLcD (tItT (tVr 2)) (.nm 3) [3] tYs (tCl sp_is_joint (tA1 false (tVr 3) (tA1 false (tVr 1) tA0)))) tA0)))))))

theorem isBoard_len {ds : List DL.D} (h : ds.length ≠ 2) : isBoard (.tup ds) = false := by
  unfold isBoard
  split
  · rename_i e; simp only [D.tup.injEq] at e; subst e; simp at h
  · rfl
theorem isBoard_no {a b : DL.D} (h : isInt a 1 none = false) : isBoard (.tup [a, b]) = false := by
  unfold isBoard
  split
  · rename_i n ks e
    simp only [D.tup.injEq, List.cons.injEq, and_true] at e
    obtain ⟨rfl, rfl⟩ := e
    simp only [isInt, Bool.and_true] at h
    rw [h]
    rfl
  · rfl
theorem pys_mem : ∀ {ds : List DL.D}, D.pys ds = true → ∀ d ∈ ds, d.py = true
  | [], _, d, h => by simp at h
  | e :: ds, hp, d, h => by
    simp only [D.pys, Bool.and_eq_true] at hp
    rcases List.mem_cons.mp h with rfl | h
    · exact hp.1
    · exact pys_mem hp.2 d h
theorem vc_is_board : ∀ ts QD EXD, sp_is_board ts QD EXD → g_is_board (fnEnds [0] ts QD) (fnX [0] ts EXD) (startE ["value", "wires", "keys", "key"] ts) := by
  rintro _ Q E ⟨v, rfl, hv, hk, q⟩
  unfold g_is_board
  refine go_i ?_
  cases v with
  | obj _ _ _ => simp [D.py] at hv
  | scr _ => simp [D.py] at hv
  | tup ds =>
    by_cases hl : ds.length = 2
    · match ds, hl with
      | [a, b], _ =>
        simp only [D.py, D.pys, Bool.and_true, Bool.and_eq_true] at hv
        pv_eval
        refine cl_is_integer (h := none) rfl hv.1 ?_
        pv_eval
        refine iB_i (fun h => ?_) (fun h => ?_)
        · pv_eval
          rw [isBoard_no (by simpa using h)] at q
          exact q
        · have h' : isInt a 1 none = true := by simpa using h
          obtain ⟨n, rfl⟩ := isInt_int h'
          pv_eval
          cases b with
          | obj _ _ _ => simp [D.py] at hv
          | scr _ => simp [D.py] at hv
          | tup ks =>
            pv_eval
            have hk : D.eqOk (.tup ks) ∧ ks.length ≤ 100000 := hk
            refine ⟨.inr ⟨hk.1, rfl, rfl⟩, ?_⟩
            have hn : decide (1 ≤ n) = true := by simpa [isInt] using h'
            refine iB_i (fun h2 => ?_) (fun h2 => ?_)
            · pv_eval
              have hlen : ks.length ≤ sizeLine := by have := sizeLine_eq; omega
              refine ⟨hlen, goL_pure (fun d => .bl (isJoint d n)) (fun d hd => ?_) ?_⟩
              · refine ⟨_, rfl, rfl, fun Q q => ?_⟩
                pv_eval
                refine cl_is_joint (pys_mem (by simpa [D.py] using hv.2) d hd) ?_
                pv_eval
                exact q
              · pv_eval
                simp only [isBoard, h2, hn, Bool.true_and] at q
                simpa only [List.all_map, Function.comp_def, id_eq] using q
            · pv_eval
              simpa only [isBoard, h2, Bool.false_and, Bool.and_false] using q
          | _ => pv_eval; exact q
    · pv_eval
      refine iB_i (fun h => ?_) (fun h => ?_)
      · pv_eval
        rw [isBoard_len hl] at q
        exact q
      · simp at h; omega
  | _ => pv_eval; exact q
def sp_check_board : SpD := fun ts Q _ => ∃ v, ts = [.fr v] ∧ v.py = true ∧ keysOk v ∧ isBoard v = true ∧ Q (.fr .non) ts
theorem ln_check_board : ∀ ts Q E, sp_check_board ts Q E → ts.length = 1 := by rintro _ Q E ⟨v, rfl, _⟩; rfl
def g_check_board : ST' := (sIf (tN (tTs (tCl sp_is_board (tA1 false (tVr 0) tA0)))) sNever sNx)

theorem vc_check_board : ∀ ts QD EXD, sp_check_board ts QD EXD → g_check_board (fnEnds [0] ts QD) (fnX [0] ts EXD) (startE ["board"] ts) := by
  rintro _ Q E ⟨v, rfl, hv, hk, hb, q⟩
  unfold g_check_board
  refine go_i ?_
  pv_eval
  refine ⟨v, rfl, hv, ?_⟩
  pv_eval
  rw [hb]
  pv_eval
  exact ⟨hk, q⟩
end GL

namespace GL
open PySem PySem.Spec L2 DL
/-- a reading is followed as far as it goes -/
local macro_rules | `(tactic| pv_eval) => `(tactic| simp -dsimp only [e_tVr, e_tK, e_tV1, e_tV2, e_tTs, e_tN, e_tAn, e_tOn, e_tAv, e_tOv, e_tNv, e_tIf1, e_tCh, e_tA0, e_tA1, e_tTp, e_tLs, e_tLf, e_tDc0, e_tVL, e_tIsi, e_tLi, e_tTu, e_tAd, e_tMu, e_tSc, e_tO0, e_tO1, e_tIx, e_tCl, e_tClK, e_tClF, e_tClKF, onlyD, e_tRev, rvK_l, rvK_t, e_tLenSet, e_tSoA, e_tIsi2, e_tAS, seqK_t, seqK_l, e_tClS, List.take_succ_cons, List.take_zero, List.drop_succ_cons, List.drop_zero, intsQ_l, intsQ_t, e_tApp, e_tExt, e_tItL, e_tItT, e_tIt1, e_tIt2, e_tYs, goL_nil, goF_nil, go2_nil, e_tLcD, e_tLcD2, e_sNx, e_sSq, e_sNever, e_sEx, e_sRt, e_sRtN, e_sIf, e_sAs, e_sUn, e_sFor, e_sForP, sqK_t, sqK_f, sqK_l, Option.map_some, e_sPr, e_sSt, fe_nx, fe_rt, fe_x, oM_s, oM_n, iB_t, iB_f, oB_b, zB_b, oI_i, oL_1, dL_l, dT_t, sL_l, isAt_a, r2_I, r2_Ic, r2_N, r2_nN, r2_nB, r2_Eq, r2_Ne, r2_InL, r2_InFl, r2_InFt, r1_Neg, rL_lenS, rL_lenL, rL_lenT, rL_lenC, rL_abs, rL_max, rL_min, rL_intI, rL_intB, rL_str, rL_all, rL_any, rL_rep, o2I_i, vr_f, vr_l, vr_d, vr_o, ixE_f, ixE_la, ixE_lo, ixT_t, ixT_l, ixT_c', ixT_s, ixT_o, addK_i, addK_s, addK_l, addK_t, mulK_i, mulK_l, slK_l, slK_t, slK_s, rtK_d, rtK_o, rtK_a, rtK_p, asK_d, asK_o, asK_a, pd_d, pd_o, pd_a, pd_p, at00, at01, at02, ixN_30, ixN_31, ixN_32, ixN_20, ixN_21, ixN_S0, at_S0, e_tItE, e_tItZ, e_tLr, e_tSo, e_tDg2, e_sDp, o2_2, e_tLVals, e_tSSet, sTu_t, dsFr, dsFr_map,
  Rv.vw, Rv.tr, Rv.sq, Rv.fz, T.get, T.kid, T.set, T.setKid, T.d, T.ds, T.rv, T.frO, D.sq, Sq.its, flatT, vws, owns, takeT, giveT, DL.lstAt, DL.putAt, pickL, Pat.bind, Pat.binds, wipeE, unwipe, setAll, startE, parsFrom, at_0, at_S, set_0, set_S, List.map_cons, List.map_nil, List.length_cons, List.length_nil, List.replicate, List.cons_append, List.nil_append, List.append_nil, List.filterMap_cons, List.filterMap_nil, List.getElem?_cons_zero, List.getElem?_cons_succ, Option.map_some, Option.bind_some, Option.isSome_some, and_true, true_and, List.mem_cons, List.mem_singleton, List.not_mem_nil, or_false, false_or, or_true, true_or, if_true, if_false, Nat.zero_add, Nat.add_zero, Nat.reduceAdd, Nat.reduceSub, Nat.reduceEqDiff, reduceCtorEq, true_implies, false_implies, implies_true, false_and, and_false, not_true_eq_false, not_false_eq_true, Bool.true_eq_false, eqC_ii, eqC_ss, eqv_ii, eqv_ss, D.isN, isK, D.ty, Bool.not_true, Bool.not_false, decide_eq_true_eq, Bool.false_eq_true, eq_self, Bool.or_false, Bool.false_or, ite_true, ite_false, and_self, decide_true, decide_false, T.ds_fr, T.ds_map, Int.cast_ofNat_Int, blsD, blsD_f, List.all_cons, List.all_nil, List.any_cons, List.any_nil, id_eq, Bool.and_true, sizeLine_eq, List.isEmpty_nil, List.isEmpty_cons, eqv_l0, eqv_t0, Nat.reduceLeDiff, Nat.reduceLT, Int.reduceLE, Int.reduceLT, Int.reduceEq, Nat.reducePow, flatT_fr, Int.zero_add, fzL, zpItems, intsD, intsD_map, dicAt, keyAt, ownDic, putDic,
  kit_NoneType_int, kit_NoneType_bool, kit_NoneType_tuple, kit_NoneType_list, kit_NoneType_str, kit_NoneType_dict, kit_bool_int, kit_bool_bool, kit_bool_tuple, kit_bool_list, kit_bool_str, kit_bool_dict, kit_int_int, kit_int_bool, kit_int_tuple, kit_int_list, kit_int_str, kit_int_dict, kit_str_int, kit_str_bool, kit_str_tuple, kit_str_list, kit_str_str, kit_str_dict, kit_tuple_int, kit_tuple_bool, kit_tuple_tuple, kit_tuple_list, kit_tuple_str, kit_tuple_dict, kit_list_int, kit_list_bool, kit_list_tuple, kit_list_list, kit_list_str, kit_list_dict, kit_dict_int, kit_dict_bool, kit_dict_tuple, kit_dict_list, kit_dict_str, kit_dict_dict])
/-! ### sets of keys -/
def ltD (d : DL.D) : Bool := match d with
  | .tup [.int a, .int b] => decide (a < b)
  | _ => false
/-- what a set of keys from 0 to hi is -/
def isSet (v : DL.D) (hi : Option Int) : Bool := match v with
  | .tup ds => ds.all (fun d => isInt d 0 hi) && (zpD ds (ds.drop 1)).all ltD
  | _ => false
/-- a set of keys: ascending, from 0 to most -/
def keySet (ns : List Int) (most : Int) : Prop := (∀ k ∈ ns, 0 ≤ k ∧ k ≤ most) ∧ ns.Pairwise (· < ·)
def tupI (ns : List Int) : DL.D := .tup (ns.map .int)
theorem ints_of_all : ∀ {ds : List DL.D} {hi : Option Int}, ds.all (fun d => isInt d 0 hi) = true → ∃ ns : List Int, ds = ns.map .int
  | [], _, _ => ⟨[], rfl⟩
  | d :: ds, hi, h => by
    simp only [List.all_cons, Bool.and_eq_true] at h
    obtain ⟨i, rfl⟩ := isInt_int h.1
    obtain ⟨ns, rfl⟩ := ints_of_all h.2
    exact ⟨i :: ns, rfl⟩
theorem zp_lt : ∀ {ns : List Int}, (zpD (ns.map D.int) ((ns.map D.int).drop 1)).all ltD = true ↔ ns.Pairwise (· < ·)
  | [] => by simp [zpD]
  | [a] => by simp [zpD]
  | a :: b :: r => by
    have ih := zp_lt (ns := b :: r)
    simp only [List.map_cons, List.drop_succ_cons, List.drop_zero, zpD, List.zipWith_cons_cons, List.all_cons, Bool.and_eq_true] at ih ⊢
    rw [ih]
    simp only [ltD, decide_eq_true_eq]
    rw [List.pairwise_cons (a := a)]
    constructor
    · rintro ⟨h1, h2⟩
      refine ⟨fun c hc => ?_, h2⟩
      rcases List.mem_cons.mp hc with rfl | hc
      · exact h1
      · have := (List.pairwise_cons.mp h2).1 c hc
        omega
    · rintro ⟨h1, h2⟩
      exact ⟨h1 b (by simp), h2⟩
theorem isSet_iff {ns : List Int} {most : Int} : isSet (tupI ns) (some most) = true ↔ keySet ns most := by
  unfold isSet tupI keySet
  simp only [Bool.and_eq_true, zp_lt]
  simp only [List.all_map, Function.comp_def, isInt, List.all_eq_true, Bool.and_eq_true, decide_eq_true_eq]
theorem isSet_tup {v : DL.D} {hi : Option Int} (h : isSet v hi = true) : ∃ ns, v = tupI ns := by
  cases v <;> simp only [isSet, Bool.false_eq_true] at h
  simp only [Bool.and_eq_true] at h
  obtain ⟨ns, rfl⟩ := ints_of_all h.1
  exact ⟨ns, rfl⟩
/-- not too long -/
def shortD (v : DL.D) : Prop := match v with
  | .tup ds => ds.length ≤ 1000000
  | _ => True
def sp_is_set_form : SpD := fun ts Q _ => ∃ (v : DL.D) (hi : Option Int), ts = [.fr v, .fr (optD hi)] ∧ v.py = true ∧ shortD v ∧ Q (.fr (.bl (isSet v hi))) ts
theorem ln_is_set_form : ∀ ts Q E, sp_is_set_form ts Q E → ts.length = 2 := by rintro _ Q E ⟨v, n, rfl, _⟩; rfl
def g_is_set_form : ST' := (sSq (sIf (tOn (tN (tTs (tIsi "tuple" (tVr 0)))) (tN (tTs (tVL RAll (tA1 false (tLcD (tItT (tVr 0)) (.nm 2) [2] tYs (tCl sp_is_integer (tA1 false (tVr 2) (tA1 false (tK (.int 0)) (tA1 false (tVr 1) tA0))))) tA0))))) (sRt (tK (.bl false))) sNx)
  (sRt (tVL RAll (tA1 false (tLcD (tItZ (tA1 false (tVr 0) (tA1 false (tSc false false (tVr 0) (tO1 (tK (.int 1))) tO0) tA0))) (.tp [.nm 2, .nm 3]) [2, 3] tYs (tV2 RLt false (tVr 2) (tVr 3))) tA0))))

theorem cut1 (xs : List DL.D) : cutL xs (some 1) none = xs.drop 1 := by
  unfold cutL
  have e : HT.sIx xs.length 0 (some 1) = min 1 xs.length := HT.sIx_nat xs.length 0 1
  rw [e, HT.sIx_none]
  cases xs with
  | nil => rfl
  | cons x r =>
    have : min 1 (x :: r).length = 1 := by simp only [List.length_cons]; omega
    rw [this]
    simp
theorem zp_ints : ∀ {ns ms : List Int}, ∀ d ∈ zpD (ns.map D.int) (ms.map D.int), ∃ a b : Int, d = .tup [.int a, .int b]
  | [], _, d, h => by simp [zpD] at h
  | a :: ns, [], d, h => by simp [zpD] at h
  | a :: ns, b :: ms, d, h => by
    simp only [List.map_cons, zpD, List.zipWith_cons_cons, List.mem_cons] at h
    rcases h with rfl | h
    · exact ⟨a, b, rfl⟩
    · exact zp_ints (ns := ns) (ms := ms) d h
theorem vc_is_set_form : ∀ ts QD EXD, sp_is_set_form ts QD EXD → g_is_set_form (fnEnds [0, 1] ts QD) (fnX [0, 1] ts EXD) (startE ["value", "most", "key", "other"] ts) := by
  rintro _ Q E ⟨v, hi, rfl, hv, hs, q⟩
  unfold g_is_set_form
  refine go_i ?_
  cases v with
  | obj _ _ _ => simp [D.py] at hv
  | scr _ => simp [D.py] at hv
  | tup ds =>
    have hs : ds.length ≤ 1000000 := hs
    have hp := pys_mem (by simpa [D.py] using hv)
    pv_eval
    refine ⟨by omega, ?_⟩
    refine goL_pure (fun d => .bl (isInt d 0 hi)) (fun d hd => ?_) ?_
    · refine ⟨_, rfl, rfl, fun Q q => ?_⟩
      pv_eval
      refine cl_is_integer (h := hi) rfl (hp d hd) ?_
      pv_eval
      exact q
    · pv_eval
      have e1 : ((List.map (fun x => isInt x 0 hi) ds).all id) = ds.all fun d => isInt d 0 hi := by simp only [List.all_map, Function.comp_def, id_eq]
      rw [e1]
      refine iB_i (fun h => ?_) (fun h => ?_)
      · have h : ds.all (fun d => isInt d 0 hi) = false := by simpa using h
        pv_eval
        simp only [isSet, h, Bool.false_and] at q
        exact q
      · have h : ds.all (fun d => isInt d 0 hi) = true := by simpa using h
        obtain ⟨ns, rfl⟩ := ints_of_all h
        pv_eval
        rw [cut1]
        have hl : ns.length ≤ 1000000 := by simpa using hs
        refine ⟨by rw [zpD_len, List.length_drop, List.length_map]; omega, ?_⟩
        refine goL_pure (fun d => .bl (ltD d)) (fun d hd => ?_) ?_
        · rw [← List.map_drop] at hd
          obtain ⟨a, b, rfl⟩ := zp_ints d hd
          refine ⟨_, rfl, rfl, fun Q q => ?_⟩
          pv_eval
          exact q
        · pv_eval
          have e2 : ((List.map (fun x => ltD x) (zpD (ns.map D.int) ((ns.map D.int).drop 1))).all id) = (zpD (ns.map D.int) ((ns.map D.int).drop 1)).all ltD := by simp only [List.all_map, Function.comp_def, id_eq]
          rw [e2]
          simp only [isSet, h, Bool.true_and] at q
          exact q
  | _ => pv_eval; exact q
end GL

namespace GL
open PySem PySem.Spec L2 DL
/-- a reading is followed as far as it goes -/
local macro_rules | `(tactic| pv_eval) => `(tactic| simp -dsimp only [e_tVr, e_tK, e_tV1, e_tV2, e_tTs, e_tN, e_tAn, e_tOn, e_tAv, e_tOv, e_tNv, e_tIf1, e_tCh, e_tA0, e_tA1, e_tTp, e_tLs, e_tLf, e_tDc0, e_tVL, e_tIsi, e_tLi, e_tTu, e_tAd, e_tMu, e_tSc, e_tO0, e_tO1, e_tIx, e_tCl, e_tClK, e_tClF, e_tClKF, onlyD, e_tRev, rvK_l, rvK_t, e_tLenSet, e_tSoA, e_tIsi2, e_tAS, seqK_t, seqK_l, e_tClS, List.take_succ_cons, List.take_zero, List.drop_succ_cons, List.drop_zero, intsQ_l, intsQ_t, e_tApp, e_tExt, e_tItL, e_tItT, e_tIt1, e_tIt2, e_tYs, goL_nil, goF_nil, go2_nil, e_tLcD, e_tLcD2, e_sNx, e_sSq, e_sNever, e_sEx, e_sRt, e_sRtN, e_sIf, e_sAs, e_sUn, e_sFor, e_sForP, sqK_t, sqK_f, sqK_l, Option.map_some, e_sPr, e_sSt, fe_nx, fe_rt, fe_x, oM_s, oM_n, iB_t, iB_f, oB_b, zB_b, oI_i, oL_1, dL_l, dT_t, sL_l, isAt_a, r2_I, r2_Ic, r2_N, r2_nN, r2_nB, r2_Eq, r2_Ne, r2_InL, r2_InFl, r2_InFt, r1_Neg, rL_lenS, rL_lenL, rL_lenT, rL_lenC, rL_abs, rL_max, rL_min, rL_intI, rL_intB, rL_str, rL_all, rL_any, rL_rep, o2I_i, vr_f, vr_l, vr_d, vr_o, ixE_f, ixE_la, ixE_lo, ixT_t, ixT_l, ixT_c', ixT_s, ixT_o, addK_i, addK_s, addK_l, addK_t, mulK_i, mulK_l, slK_l, slK_t, slK_s, rtK_d, rtK_o, rtK_a, rtK_p, asK_d, asK_o, asK_a, pd_d, pd_o, pd_a, pd_p, at00, at01, at02, ixN_30, ixN_31, ixN_32, ixN_20, ixN_21, ixN_S0, at_S0, e_tItE, e_tItZ, e_tLr, e_tSo, e_tDg2, e_sDp, o2_2, e_tLVals, e_tSSet, sTu_t, dsFr, dsFr_map,
  Rv.vw, Rv.tr, Rv.sq, Rv.fz, T.get, T.kid, T.set, T.setKid, T.d, T.ds, T.rv, T.frO, D.sq, Sq.its, flatT, vws, owns, takeT, giveT, DL.lstAt, DL.putAt, pickL, Pat.bind, Pat.binds, wipeE, unwipe, setAll, startE, parsFrom, at_0, at_S, set_0, set_S, List.map_cons, List.map_nil, List.length_cons, List.length_nil, List.replicate, List.cons_append, List.nil_append, List.append_nil, List.filterMap_cons, List.filterMap_nil, List.getElem?_cons_zero, List.getElem?_cons_succ, Option.map_some, Option.bind_some, Option.isSome_some, and_true, true_and, List.mem_cons, List.mem_singleton, List.not_mem_nil, or_false, false_or, or_true, true_or, if_true, if_false, Nat.zero_add, Nat.add_zero, Nat.reduceAdd, Nat.reduceSub, Nat.reduceEqDiff, reduceCtorEq, true_implies, false_implies, implies_true, false_and, and_false, not_true_eq_false, not_false_eq_true, Bool.true_eq_false, eqC_ii, eqC_ss, eqv_ii, eqv_ss, D.isN, isK, D.ty, Bool.not_true, Bool.not_false, decide_eq_true_eq, Bool.false_eq_true, eq_self, Bool.or_false, Bool.false_or, ite_true, ite_false, and_self, decide_true, decide_false, T.ds_fr, T.ds_map, Int.cast_ofNat_Int, blsD, blsD_f, List.all_cons, List.all_nil, List.any_cons, List.any_nil, id_eq, Bool.and_true, sizeLine_eq, List.isEmpty_nil, List.isEmpty_cons, eqv_l0, eqv_t0, Nat.reduceLeDiff, Nat.reduceLT, Int.reduceLE, Int.reduceLT, Int.reduceEq, Nat.reducePow, flatT_fr, Int.zero_add, fzL, zpItems, intsD, intsD_map, dicAt, keyAt, ownDic, putDic,
  kit_NoneType_int, kit_NoneType_bool, kit_NoneType_tuple, kit_NoneType_list, kit_NoneType_str, kit_NoneType_dict, kit_bool_int, kit_bool_bool, kit_bool_tuple, kit_bool_list, kit_bool_str, kit_bool_dict, kit_int_int, kit_int_bool, kit_int_tuple, kit_int_list, kit_int_str, kit_int_dict, kit_str_int, kit_str_bool, kit_str_tuple, kit_str_list, kit_str_str, kit_str_dict, kit_tuple_int, kit_tuple_bool, kit_tuple_tuple, kit_tuple_list, kit_tuple_str, kit_tuple_dict, kit_list_int, kit_list_bool, kit_list_tuple, kit_list_list, kit_list_str, kit_list_dict, kit_dict_int, kit_dict_bool, kit_dict_tuple, kit_dict_list, kit_dict_str, kit_dict_dict])
theorem mulW {i j : Int} {k : Nat} (h : i.natAbs < 2 ^ k) (h2 : j.natAbs < 2 ^ k) (hk : k ≤ 400000 := by decide) : CMulW i j := by
  have a : i.natAbs.log2 ≤ k := by
    by_cases z : i.natAbs = 0
    · rw [z]; simp
    · exact Nat.le_of_lt ((Nat.log2_lt z).mpr h)
  have b : j.natAbs.log2 ≤ k := by
    by_cases z : j.natAbs = 0
    · rw [z]; simp
    · exact Nat.le_of_lt ((Nat.log2_lt z).mpr h2)
  show i.natAbs.log2 + j.natAbs.log2 < 1000000
  omega
/-- a jug that was poured from at most m times in its second way -/
def Jug (m : Int) (t : T) : Prop := ∃ a b c : Int, t = .lst [.fr (.int a), .fr (.int b), .fr (.int c)] ∧ 0 ≤ b ∧ b < 1000000000000000000000000000000000000000000000000000000000000 ∧ 0 ≤ c ∧ c ≤ m
theorem Jug.mono {m n : Int} {t : T} (h : Jug m t) (k : m ≤ n) : Jug n t := by
  obtain ⟨a, b, c, e, h1, h2, h3, h4⟩ := h
  exact ⟨a, b, c, e, h1, h2, h3, by omega⟩
def sp_law_jug : SpD := fun ts Q _ => ∃ ns at', ts = [.fr (.scr ns), .fr (.int at')] ∧ 0 ≤ at' ∧ at' < 1000000000 ∧ ∀ t, Jug 0 t → Q t ts
theorem ln_law_jug : ∀ ts Q E, sp_law_jug ts Q E → ts.length = 2 := by rintro _ Q E ⟨v, w, rfl, _⟩; rfl
def g_law_jug : ST' := (sSq (sAs 2 (tIf' (tTs (tV2 RLt false (tVr 1) (tVL RLen (tA1 false (tVr 0) tA0)))) (tIx false (tVr 0) (tVr 1)) (tK (.int 0))))
  (sRt (tLs (tA1 false (tVL RMax2 (tA1 false (tK (.int 0)) (tA1 false (tV2 RSub false (tVL RAbs (tA1 false (tVr 2) tA0)) (tV2 RPow false (tK (.int 10)) (tK (.int 18)))) tA0))) (tA1 false (tAd false (tAd false (tMu false (tV2 RMod false (tVr 2) (tAd false (tV2 RPow false (tK (.int 10)) (tK (.int 38))) (tK (.int 133)))) (tK (.int 83))) (tMu false (tK (.int 53)) (tVr 1))) (tK (.int 19))) (tA1 false (tK (.int 0)) tA0))))))

theorem vc_law_jug : ∀ ts QD EXD, sp_law_jug ts QD EXD → g_law_jug (fnEnds [0, 1] ts QD) (fnX [0, 1] ts EXD) (startE ["_law_script", "_law_at", "_law_cell"] ts) := by
  rintro _ Q E ⟨ns, a, rfl, h0, h1, q⟩
  unfold g_law_jug
  refine go_i ?_
  pv_eval
  have t38 : (10 : Int) ^ Int.toNat 38 = 100000000000000000000000000000000000000 := by decide
  have jug : ∀ x : Int, Jug 0 (.lst [.fr (.int (if (if x < 0 then -x else x) - 10 ^ Int.toNat 18 > 0 then (if x < 0 then -x else x) - 10 ^ Int.toNat 18 else 0)), .fr (.int (x % (10 ^ Int.toNat 38 + 133) * 83 + 53 * a + 19)), .fr (.int 0)]) := fun x => by
    have e1 := Int.emod_nonneg x (show (10 ^ Int.toNat 38 + 133 : Int) ≠ 0 by rw [t38]; decide)
    have e2 := Int.emod_lt_of_pos x (show (0 : Int) < 10 ^ Int.toNat 38 + 133 by rw [t38]; decide)
    rw [t38] at e1 e2 ⊢
    exact ⟨_, _, _, rfl, by omega, by omega, by omega, by omega⟩
  have mul : ∀ x : Int, CMulW (x % (10 ^ Int.toNat 38 + 133)) 83 := fun x => by
    have e1 := Int.emod_nonneg x (show (10 ^ Int.toNat 38 + 133 : Int) ≠ 0 by rw [t38]; decide)
    have e2 := Int.emod_lt_of_pos x (show (0 : Int) < 10 ^ Int.toNat 38 + 133 by rw [t38]; decide)
    rw [t38] at e1 e2 ⊢
    exact mulW (k := 200) (by omega) (by decide)
  have fin : ∀ x : Int, ((CPowW 10 18 ∧ CPowW 10 38 ∧ 0 < (10 : Int) ^ Int.toNat 38 + 133) ∧ CMulW (x % (10 ^ Int.toNat 38 + 133)) 83 ∧ CMulW 53 a ∧ 3 ≤ sizeLine) := fun x =>
    ⟨⟨powW 4 (by decide) (by decide) (by decide), powW 4 (by decide) (by decide) (by decide), by decide⟩, mul x, mulW (k := 200) (by decide) (by omega), by decide⟩
  refine iB_i (fun h => ?_) (fun h => ?_)
  · pv_eval
    have h : a < ns.length := by simpa using h
    rw [atI_nat h0 h, List.getElem?_eq_getElem (by omega)]
    pv_eval
    have f := fin ns[a.toNat]
    exact ⟨f.1.1, f.1.2.1, f.1.2.2, f.2.1, f.2.2.1, q _ (jug _)⟩
  · pv_eval
    have f := fin 0
    refine ⟨f.1.1, f.1.2.1, f.1.2.2, f.2.1, f.2.2.1, q _ ?_⟩
    have j0 := jug 0
    rw [if_neg (show ¬ ((0 : Int) < 0) by decide)] at j0
    exact j0
def sp_law_pour : SpD := fun ts Q _ => ∃ m n j, ts = [j, .fr (.int n)] ∧ Jug m j ∧ m < 1000000000 ∧ 0 < n ∧ n < 1000000000000000000000000000000000000000000000000000000000000 ∧ ∀ r j', 0 ≤ r → r < n → Jug (m + 1) j' → Q (.fr (.int r)) [j', .fr (.int n)]
theorem ln_law_pour : ∀ ts Q E, sp_law_pour ts Q E → ts.length = 2 := by rintro _ Q E ⟨v, w, _, rfl, _⟩; rfl
def g_law_pour : ST' := (sSq (sIf (tTs (tV2 RGt false (tIx false (tVr 0) (tK (.int 0))) (tK (.int 0)))) (sSq (sAs 2 (tV2 RMod false (tIx false (tVr 0) (tK (.int 0))) (tVr 1)))
  (sSq (sSt false (tVr 0) (tK (.int 0)) (tV2 RDiv false (tIx false (tVr 0) (tK (.int 0))) (tVr 1)))
  (sRt (tVr 2)))) sNx)
  (sSq (sSt false (tVr 0) (tK (.int 2)) (tAd false (tIx false (tVr 0) (tK (.int 2))) (tK (.int 1))))
  (sSq (sAs 3 (tV2 RMod false (tV2 RPow false (tAd false (tIx false (tVr 0) (tK (.int 1))) (tMu false (tK (.int 715827883)) (tIx false (tVr 0) (tK (.int 2))))) (tK (.int 3))) (tAd false (tV2 RPow false (tK (.int 10)) (tK (.int 39))) (tK (.int 3)))))
  (sSq (sAs 3 (tV2 RMod false (tV2 RPow false (tAd false (tVr 3) (tMu false (tK (.int 122949829)) (tIx false (tVr 0) (tK (.int 2))))) (tK (.int 3))) (tAd false (tV2 RPow false (tK (.int 10)) (tK (.int 40))) (tK (.int 121)))))
  (sRt (tV2 RMod false (tV2 RDiv false (tVr 3) (tK (.int 1000081))) (tVr 1)))))))

theorem vc_law_pour : ∀ ts QD EXD, sp_law_pour ts QD EXD → g_law_pour (fnEnds [0, 1] ts QD) (fnX [0, 1] ts EXD) (startE ["_law_jug_here", "_law_many", "_law_poured", "_law_mixed"] ts) := by
  rintro _ Q E ⟨m, n, _, rfl, ⟨a, b, c, rfl, b0, b1, c0, c1⟩, hm, n0, n1, q⟩
  unfold g_law_pour
  refine go_i ?_
  pv_eval
  have dv : ∀ x : Int, 0 ≤ x % n ∧ x % n < n := fun x => ⟨Int.emod_nonneg x (by omega), Int.emod_lt_of_pos x n0⟩
  refine iB_i (fun h => ?_) (fun h => ?_)
  · pv_eval
    refine ⟨n0, ⟨n0, ?_⟩, q _ _ (dv a).1 (dv a).2 ⟨_, _, _, rfl, b0, b1, c0, by omega⟩⟩
    have : n.natAbs.log2 ≤ 200 := by
      have := (Nat.log2_lt (n := n.natAbs) (k := 200) (by omega)).mpr (by omega)
      omega
    omega
  · pv_eval
    have t39 : (10 : Int) ^ Int.toNat 39 + 3 = 1000000000000000000000000000000000000003 := by decide
    have t40 : (10 : Int) ^ Int.toNat 40 + 121 = 10000000000000000000000000000000000000121 := by decide
    have p1 := Int.emod_nonneg ((b + 715827883 * (c + 1)) ^ Int.toNat 3) (show (10 ^ Int.toNat 39 + 3 : Int) ≠ 0 by rw [t39]; decide)
    have p2 := Int.emod_lt_of_pos ((b + 715827883 * (c + 1)) ^ Int.toNat 3) (show (0 : Int) < 10 ^ Int.toNat 39 + 3 by rw [t39]; decide)
    generalize hx : (b + 715827883 * (c + 1)) ^ Int.toNat 3 % (10 ^ Int.toNat 39 + 3) = x at p1 p2 ⊢
    rw [t39] at p2
    refine ⟨mulW (k := 200) (by decide) (by omega), powW 300 (by omega) (by decide) (by decide), powW 4 (by decide) (by decide) (by decide), by decide, mulW (k := 200) (by decide) (by omega), powW 300 (by omega) (by decide) (by decide), powW 4 (by decide) (by decide) (by decide), by decide, ⟨by decide, by decide⟩, n0,
      q _ _ (dv _).1 (dv _).2 ⟨_, _, _, rfl, b0, b1, by omega, by omega⟩⟩
theorem cl_law_pour {m n : Int} {j : T} {Q : T → List T → Prop} {E : Ex → List T → Prop} (hj : Jug m j) (hm : m < 1000000000) (n0 : 0 < n) (n1 : n < 1000000000000000000000000000000000000000000000000000000000000) (q : ∀ r j', 0 ≤ r → r < n → Jug (m + 1) j' → Q (.fr (.int r)) [j', .fr (.int n)]) : calls sp_law_pour [j, .fr (.int n)] Q E :=
  ⟨m, n, j, rfl, hj, hm, n0, n1, q⟩
end GL

namespace GL
open PySem PySem.Spec L2 DL
/-- a reading is followed as far as it goes -/
local macro_rules | `(tactic| pv_eval) => `(tactic| simp -dsimp only [e_tVr, e_tK, e_tV1, e_tV2, e_tTs, e_tN, e_tAn, e_tOn, e_tAv, e_tOv, e_tNv, e_tIf1, e_tCh, e_tA0, e_tA1, e_tTp, e_tLs, e_tLf, e_tDc0, e_tVL, e_tIsi, e_tLi, e_tTu, e_tAd, e_tMu, e_tSc, e_tO0, e_tO1, e_tIx, e_tCl, e_tClK, e_tClF, e_tClKF, onlyD, e_tRev, rvK_l, rvK_t, e_tLenSet, e_tSoA, e_tIsi2, e_tAS, seqK_t, seqK_l, e_tClS, List.take_succ_cons, List.take_zero, List.drop_succ_cons, List.drop_zero, intsQ_l, intsQ_t, e_tApp, e_tExt, e_tItL, e_tItT, e_tIt1, e_tIt2, e_tYs, goL_nil, goF_nil, go2_nil, e_tLcD, e_tLcD2, e_sNx, e_sSq, e_sNever, e_sEx, e_sRt, e_sRtN, e_sIf, e_sAs, e_sUn, e_sFor, e_sForP, sqK_t, sqK_f, sqK_l, Option.map_some, e_sPr, e_sSt, fe_nx, fe_rt, fe_x, oM_s, oM_n, iB_t, iB_f, oB_b, zB_b, oI_i, oL_1, dL_l, dT_t, sL_l, isAt_a, r2_I, r2_Ic, r2_N, r2_nN, r2_nB, r2_Eq, r2_Ne, r2_InL, r2_InFl, r2_InFt, r1_Neg, rL_lenS, rL_lenL, rL_lenT, rL_lenC, rL_abs, rL_max, rL_min, rL_intI, rL_intB, rL_str, rL_all, rL_any, rL_rep, o2I_i, vr_f, vr_l, vr_d, vr_o, ixE_f, ixE_la, ixE_lo, ixT_t, ixT_l, ixT_c', ixT_s, ixT_o, addK_i, addK_s, addK_l, addK_t, mulK_i, mulK_l, slK_l, slK_t, slK_s, rtK_d, rtK_o, rtK_a, rtK_p, asK_d, asK_o, asK_a, pd_d, pd_o, pd_a, pd_p, at00, at01, at02, ixN_30, ixN_31, ixN_32, ixN_20, ixN_21, ixN_S0, at_S0, e_tItE, e_tItZ, e_tLr, e_tSo, e_tDg2, e_sDp, o2_2, e_tLVals, e_tSSet, sTu_t, dsFr, dsFr_map,
  Rv.vw, Rv.tr, Rv.sq, Rv.fz, T.get, T.kid, T.set, T.setKid, T.d, T.ds, T.rv, T.frO, D.sq, Sq.its, flatT, vws, owns, takeT, giveT, DL.lstAt, DL.putAt, pickL, Pat.bind, Pat.binds, wipeE, unwipe, setAll, startE, parsFrom, at_0, at_S, set_0, set_S, List.map_cons, List.map_nil, List.length_cons, List.length_nil, List.replicate, List.cons_append, List.nil_append, List.append_nil, List.filterMap_cons, List.filterMap_nil, List.getElem?_cons_zero, List.getElem?_cons_succ, Option.map_some, Option.bind_some, Option.isSome_some, and_true, true_and, List.mem_cons, List.mem_singleton, List.not_mem_nil, or_false, false_or, or_true, true_or, if_true, if_false, Nat.zero_add, Nat.add_zero, Nat.reduceAdd, Nat.reduceSub, Nat.reduceEqDiff, reduceCtorEq, true_implies, false_implies, implies_true, false_and, and_false, not_true_eq_false, not_false_eq_true, Bool.true_eq_false, eqC_ii, eqC_ss, eqv_ii, eqv_ss, D.isN, isK, D.ty, Bool.not_true, Bool.not_false, decide_eq_true_eq, Bool.false_eq_true, eq_self, Bool.or_false, Bool.false_or, ite_true, ite_false, and_self, decide_true, decide_false, T.ds_fr, T.ds_map, Int.cast_ofNat_Int, blsD, blsD_f, List.all_cons, List.all_nil, List.any_cons, List.any_nil, id_eq, Bool.and_true, sizeLine_eq, List.isEmpty_nil, List.isEmpty_cons, eqv_l0, eqv_t0, Nat.reduceLeDiff, Nat.reduceLT, Int.reduceLE, Int.reduceLT, Int.reduceEq, Nat.reducePow, flatT_fr, Int.zero_add, fzL, zpItems, intsD, intsD_map, dicAt, keyAt, ownDic, putDic,
  kit_NoneType_int, kit_NoneType_bool, kit_NoneType_tuple, kit_NoneType_list, kit_NoneType_str, kit_NoneType_dict, kit_bool_int, kit_bool_bool, kit_bool_tuple, kit_bool_list, kit_bool_str, kit_bool_dict, kit_int_int, kit_int_bool, kit_int_tuple, kit_int_list, kit_int_str, kit_int_dict, kit_str_int, kit_str_bool, kit_str_tuple, kit_str_list, kit_str_str, kit_str_dict, kit_tuple_int, kit_tuple_bool, kit_tuple_tuple, kit_tuple_list, kit_tuple_str, kit_tuple_dict, kit_list_int, kit_list_bool, kit_list_tuple, kit_list_list, kit_list_str, kit_list_dict, kit_dict_int, kit_dict_bool, kit_dict_tuple, kit_dict_list, kit_dict_str, kit_dict_dict])
def jointD (p : Int × Int) : DL.D := .tup [.int p.1, .int p.2]
def boardD (n : Int) (js : List (Int × Int)) : DL.D := .tup [.int n, .tup (js.map jointD)]
def sp_law_frame : SpD := fun ts Q _ => ∃ m most many j, ts = [j, .fr (.int most), .fr (.int many)] ∧ Jug m j ∧ m < 500000000 ∧ 4 ≤ most ∧ most < 1000000000 ∧ 1 ≤ many ∧ many ≤ 100000 ∧
  ∀ n js j', 2 ≤ n → n ≤ most → js ≠ [] → js.length ≤ many → Joints n js → Jug (m + 4 + 4 * many) j' → Q (.fr (boardD n js)) [j', .fr (.int most), .fr (.int many)]
theorem ln_law_frame : ∀ ts Q E, sp_law_frame ts Q E → ts.length = 3 := by rintro _ Q E ⟨_, _, _, _, rfl, _⟩; rfl
def g_law_frame : ST' := (sSq (sAs 3 (tAd true (tK (.int 2)) (tCl sp_law_pour (tA1 true (tVr 0) (tA1 false (tIx true (tLs (tA1 false (tK (.int 3)) (tA1 false (tV2 RSub false (tVr 1) (tK (.int 1))) tA0))) (tCl sp_law_pour (tA1 false (tVr 0) (tA1 false (tK (.int 2)) tA0)))) tA0)))))
  (sSq (sPr [4, 5, 6] (tA1 true (tAd true (tK (.int 1)) (tCl sp_law_pour (tA1 false (tVr 0) (tA1 false (tVr 2) tA0)))) (tA1 false (tCl sp_law_pour (tA1 false (tVr 0) (tA1 false (tK (.int 4)) tA0))) (tA1 false (tV2 RDiv false (tVr 3) (tK (.int 2))) tA0))))
  (sSq (sAs 7 (tLs tA0))
  (sSq (sFor (tIt1 (tA1 false (tVr 4) tA0)) (.nm 8) (sSq (sPr [9, 10] (tA1 true (tCl sp_law_pour (tA1 false (tVr 0) (tA1 false (tVr 3) tA0))) (tA1 false (tCl sp_law_pour (tA1 false (tVr 0) (tA1 false (tV2 RSub false (tVr 3) (tK (.int 1))) tA0))) tA0)))
  (sSq (sAs 10 (tAd false (tVr 10) (tVL RInt (tA1 false (tV2 RGe false (tVr 10) (tVr 9)) tA0))))
  (sSq (sIf (tTs (tV2 REq false (tVr 5) (tK (.int 1)))) (sPr [9, 10] (tA1 true (tCl sp_law_pour (tA1 false (tVr 0) (tA1 false (tVr 6) tA0))) (tA1 false (tAd true (tVr 6) (tCl sp_law_pour (tA1 false (tVr 0) (tA1 false (tV2 RSub false (tVr 3) (tVr 6)) tA0)))) tA0))) sNx)
  (sSq (sIf (tTs (tV2 REq false (tVr 5) (tK (.int 2)))) (sPr [9, 10] (tA1 false (tV2 RMod false (tVr 8) (tV2 RSub false (tVr 3) (tK (.int 1)))) (tA1 false (tAd false (tV2 RMod false (tVr 8) (tV2 RSub false (tVr 3) (tK (.int 1)))) (tK (.int 1))) tA0))) sNx)
  (sSq (sIf (tTs (tV2 REq false (tVr 5) (tK (.int 3)))) (sPr [9, 10] (tA1 true (tK (.int 0)) (tA1 false (tAd true (tK (.int 1)) (tCl sp_law_pour (tA1 false (tVr 0) (tA1 false (tVL RMin2 (tA1 false (tK (.int 2)) (tA1 false (tV2 RSub false (tVr 3) (tK (.int 1))) tA0))) tA0)))) tA0))) sNx)
  (sEx (tApp false (tVr 7) (tTp (tA1 false (tVL RMin2 (tA1 false (tVr 9) (tA1 false (tVr 10) tA0))) (tA1 false (tVL RMax2 (tA1 false (tVr 9) (tA1 false (tVr 10) tA0))) tA0)))))))))))
  (sRt (tTp (tA1 false (tVr 3) (tA1 false (tTu (tA1 false (tVr 7) tA0)) tA0))))))))

theorem vc_law_frame : ∀ ts QD EXD, sp_law_frame ts QD EXD → g_law_frame (fnEnds [0, 1, 2] ts QD) (fnX [0, 1, 2] ts EXD) (startE ["_law_jug_here", "_law_most", "_law_many", "_law_size", "_law_count", "_law_style", "_law_half", "_law_found", "_law_turn", "_law_one", "_law_other"] ts) := by
  rintro _ Q E ⟨m, most, many, j, rfl, hj, hm, w0, w1, n0, n1, q⟩
  unfold g_law_frame
  refine go_i ?_
  obtain ⟨a, b, c, rfl, _⟩ := id hj
  pv_eval

  refine cl_law_pour hj (by omega) (by omega) (by omega) fun r1 j1 r0 r1' hj1 => ?_
  have hr : ∃ i k, ixN 2 r1 = some i ∧ ([T.fr (.int 3), .fr (.int (most - 1))] : List T)[i]? = some (.fr (.int k)) ∧ 3 ≤ k ∧ k < most := by
    obtain rfl | rfl : r1 = 0 ∨ r1 = 1 := by omega
    · exact ⟨0, 3, rfl, rfl, by omega, by omega⟩
    · exact ⟨1, most - 1, rfl, rfl, by omega, by omega⟩
  obtain ⟨i, k, ei, ek, k0, k1⟩ := hr
  obtain ⟨a, b, c, rfl, _⟩ := id hj1
  pv_eval
  refine oM_i ei (oM_i ek ?_)
  pv_eval
  refine cl_law_pour hj1 (by omega) (by omega) (by omega) fun r2 j2 r2a r2b hj2 => ?_
  obtain ⟨a, b, c, rfl, _⟩ := id hj2
  pv_eval
  refine cl_law_pour hj2 (by omega) (by omega) (by omega) fun r3 j3 r3a r3b hj3 => ?_
  obtain ⟨a, b, c, rfl, _⟩ := id hj3
  pv_eval
  refine cl_law_pour hj3 (by omega) (by omega) (by omega) fun st j4 st0 st1 hj4 => ?_
  obtain ⟨a, b, c, rfl, _⟩ := id hj4
  pv_eval
  have h40 : (-(2 ^ 62) : Int) ≤ 1 + r3 ∧ 1 + r3 < 2 ^ 62 := by omega
  refine ⟨⟨by decide, by decide⟩, h40.1, h40.2, goF_ind (fun i ε => ∃ j x y z js, ε = [some j, some (.fr (.int most)), some (.fr (.int many)), some (.fr (.int (2 + r2))), some (.fr (.int (1 + r3))), some (.fr (.int st)), some (.fr (.int ((2 + r2) / 2))), some (.lst ((js.map jointD).map .fr)), x, y, z] ∧
    Jug (m + 4 + 4 * i) j ∧ js.length = i ∧ Joints (2 + r2) js) ?_ ?_ ?_⟩
  · refine ⟨_, none, none, none, [], rfl, hj4.mono (by omega), rfl, fun p hp => by simp at hp⟩
  · rintro ε' ⟨j, x, y, z, js, rfl, hj5, hl, hJ⟩
    rw [rgD_len] at hl
    pv_eval
    refine q (2 + r2) js j (by omega) (by omega) (fun e => by subst e; simp at hl; omega) (by omega) hJ (hj5.mono (by rw [rgD_len]; omega))
  · rintro i d ε' N hd ⟨j, x, y, z, js, rfl, hj5, hl, hJ⟩ hN
    obtain ⟨rfl, hi⟩ := rgD_get hd
    obtain ⟨a, b, c, rfl, _⟩ := id hj5
    refine ⟨_, rfl, ?_⟩
    have fin : ∀ (k : Int) (t : T) (u v : Int) (x : Option T) (y z : Option T), k ≤ 4 → Jug (m + 4 + 4 * i + k) t → 0 ≤ u → u < 2 + r2 → 0 ≤ v → v < 2 + r2 → u ≠ v →
        N [some t, some (.fr (.int most)), some (.fr (.int many)), some (.fr (.int (2 + r2))), some (.fr (.int (1 + r3))), some (.fr (.int st)), some (.fr (.int ((2 + r2) / 2))),
          some (.lst (List.map .fr (List.map jointD js) ++ [.fr (.tup [.int (if v < u then v else u), .int (if v > u then v else u)])])), x, y, z] := by
      intro k t u v x y z hk ht u0 u1 v0 v1 ne
      refine hN _ ⟨t, x, y, z, js ++ [(if v < u then v else u, if v > u then v else u)], ?_, ht.mono (by omega), ?_, ?_⟩
      · simp [jointD]
      · simp [hl]
      · intro p hp
        rcases List.mem_append.mp hp with hp | hp
        · exact hJ p hp
        · simp only [List.mem_singleton] at hp
          subst hp
          dsimp only
          split <;> split <;> omega
    pv_eval
    refine cl_law_pour hj5 (by omega) (by omega) (by omega) fun o j6 o0 o1 hj6 => ?_
    obtain ⟨a, b, c, rfl, _⟩ := id hj6
    pv_eval
    refine cl_law_pour hj6 (by omega) (by omega) (by omega) fun u j7 u0 u1 hj7 => ?_
    obtain ⟨a, b, c, rfl, _⟩ := id hj7
    obtain rfl | rfl | rfl | rfl : st = 0 ∨ st = 1 ∨ st = 2 ∨ st = 3 := by omega
    · pv_eval
      refine ⟨by simp; omega, fin 2 _ o _ _ _ _ (by omega) (hj7.mono (by omega)) o0 o1 ?_ ?_ ?_⟩ <;> split <;> omega
    · pv_eval
      refine cl_law_pour hj7 (by omega) (by omega) (by omega) fun o j8 o0 o1 hj8 => ?_
      obtain ⟨a, b, c, rfl, _⟩ := id hj8
      pv_eval
      refine cl_law_pour hj8 (by omega) (by omega) (by omega) fun u j9 u0 u1 hj9 => ?_
      obtain ⟨a, b, c, rfl, _⟩ := id hj9
      pv_eval
      exact ⟨by simp; omega, fin 4 _ o _ _ _ _ (by omega) (hj9.mono (by omega)) o0 (by omega) (by omega) (by omega) (by omega)⟩
    · have e1 := Int.emod_nonneg (i : Int) (show (2 + r2 - 1 : Int) ≠ 0 by omega)
      have e2 := Int.emod_lt_of_pos (i : Int) (show (0 : Int) < 2 + r2 - 1 by omega)
      pv_eval
      refine ⟨by omega, by omega, by simp; omega, fin 2 _ _ _ _ _ _ (by omega) (hj7.mono (by omega)) e1 (by omega) (by omega) (by omega) (by omega)⟩
    · pv_eval
      refine cl_law_pour hj7 (by omega) (by split <;> omega) (by split <;> omega) fun u j8 u0 u1 hj8 => ?_
      have u2 : u < 2 + r2 - 1 := by revert u1; split <;> omega
      obtain ⟨a, b, c, rfl, _⟩ := id hj8
      pv_eval
      exact ⟨by simp; omega, fin 3 _ 0 _ _ _ _ (by omega) (hj8.mono (by omega)) (by omega) (by omega) (by omega) (by omega) (by omega)⟩
theorem cl_law_frame {m most many : Int} {j : T} {Q : T → List T → Prop} {E : Ex → List T → Prop} (hj : Jug m j) (hm : m < 500000000) (h1 : 4 ≤ most) (h2 : most < 1000000000) (h3 : 1 ≤ many) (h4 : many ≤ 100000)
    (q : ∀ n js j', 2 ≤ n → n ≤ most → js ≠ [] → js.length ≤ many → Joints n js → Jug (m + 4 + 4 * many) j' → Q (.fr (boardD n js)) [j', .fr (.int most), .fr (.int many)]) : calls sp_law_frame [j, .fr (.int most), .fr (.int many)] Q E :=
  ⟨m, most, many, j, rfl, hj, hm, h1, h2, h3, h4, q⟩
theorem cl_law_jug {ns : List Int} {a : Int} {Q : T → List T → Prop} {E : Ex → List T → Prop} (h0 : 0 ≤ a) (h1 : a < 1000000000) (q : ∀ t, Jug 0 t → Q t [.fr (.scr ns), .fr (.int a)]) : calls sp_law_jug [.fr (.scr ns), .fr (.int a)] Q E := ⟨ns, a, rfl, h0, h1, q⟩
end GL

namespace GL
open PySem PySem.Spec L2 DL
/-- a reading is followed as far as it goes -/
local macro_rules | `(tactic| pv_eval) => `(tactic| simp -dsimp only [e_tVr, e_tK, e_tV1, e_tV2, e_tTs, e_tN, e_tAn, e_tOn, e_tAv, e_tOv, e_tNv, e_tIf1, e_tCh, e_tA0, e_tA1, e_tTp, e_tLs, e_tLf, e_tDc0, e_tVL, e_tIsi, e_tLi, e_tTu, e_tAd, e_tMu, e_tSc, e_tO0, e_tO1, e_tIx, e_tCl, e_tClK, e_tClF, e_tClKF, onlyD, e_tRev, rvK_l, rvK_t, e_tLenSet, e_tSoA, e_tIsi2, e_tAS, seqK_t, seqK_l, e_tClS, List.take_succ_cons, List.take_zero, List.drop_succ_cons, List.drop_zero, intsQ_l, intsQ_t, e_tApp, e_tExt, e_tItL, e_tItT, e_tIt1, e_tIt2, e_tYs, goL_nil, goF_nil, go2_nil, e_tLcD, e_tLcD2, e_sNx, e_sSq, e_sNever, e_sEx, e_sRt, e_sRtN, e_sIf, e_sAs, e_sUn, e_sFor, e_sForP, sqK_t, sqK_f, sqK_l, Option.map_some, e_sPr, e_sSt, fe_nx, fe_rt, fe_x, oM_s, oM_n, iB_t, iB_f, oB_b, zB_b, oI_i, oL_1, dL_l, dT_t, sL_l, isAt_a, r2_I, r2_Ic, r2_N, r2_nN, r2_nB, r2_Eq, r2_Ne, r2_InL, r2_InFl, r2_InFt, r1_Neg, rL_lenS, rL_lenL, rL_lenT, rL_lenC, rL_abs, rL_max, rL_min, rL_intI, rL_intB, rL_str, rL_all, rL_any, rL_rep, o2I_i, vr_f, vr_l, vr_d, vr_o, ixE_f, ixE_la, ixE_lo, ixT_t, ixT_l, ixT_c', ixT_s, ixT_o, addK_i, addK_s, addK_l, addK_t, mulK_i, mulK_l, slK_l, slK_t, slK_s, rtK_d, rtK_o, rtK_a, rtK_p, asK_d, asK_o, asK_a, pd_d, pd_o, pd_a, pd_p, at00, at01, at02, ixN_30, ixN_31, ixN_32, ixN_20, ixN_21, ixN_S0, at_S0, e_tItE, e_tItZ, e_tLr, e_tSo, e_tDg2, e_sDp, o2_2, e_tLVals, e_tSSet, sTu_t, dsFr, dsFr_map,
  Rv.vw, Rv.tr, Rv.sq, Rv.fz, T.get, T.kid, T.set, T.setKid, T.d, T.ds, T.rv, T.frO, D.sq, Sq.its, flatT, vws, owns, takeT, giveT, DL.lstAt, DL.putAt, pickL, Pat.bind, Pat.binds, wipeE, unwipe, setAll, startE, parsFrom, at_0, at_S, set_0, set_S, List.map_cons, List.map_nil, List.length_cons, List.length_nil, List.replicate, List.cons_append, List.nil_append, List.append_nil, List.filterMap_cons, List.filterMap_nil, List.getElem?_cons_zero, List.getElem?_cons_succ, Option.map_some, Option.bind_some, Option.isSome_some, and_true, true_and, List.mem_cons, List.mem_singleton, List.not_mem_nil, or_false, false_or, or_true, true_or, if_true, if_false, Nat.zero_add, Nat.add_zero, Nat.reduceAdd, Nat.reduceSub, Nat.reduceEqDiff, reduceCtorEq, true_implies, false_implies, implies_true, false_and, and_false, not_true_eq_false, not_false_eq_true, Bool.true_eq_false, eqC_ii, eqC_ss, eqv_ii, eqv_ss, D.isN, isK, D.ty, Bool.not_true, Bool.not_false, decide_eq_true_eq, Bool.false_eq_true, eq_self, Bool.or_false, Bool.false_or, ite_true, ite_false, and_self, decide_true, decide_false, T.ds_fr, T.ds_map, Int.cast_ofNat_Int, blsD, blsD_f, List.all_cons, List.all_nil, List.any_cons, List.any_nil, id_eq, Bool.and_true, sizeLine_eq, List.isEmpty_nil, List.isEmpty_cons, eqv_l0, eqv_t0, Nat.reduceLeDiff, Nat.reduceLT, Int.reduceLE, Int.reduceLT, Int.reduceEq, Nat.reducePow, flatT_fr, Int.zero_add, fzL, zpItems, intsD, intsD_map, dicAt, keyAt, ownDic, putDic,
  kit_NoneType_int, kit_NoneType_bool, kit_NoneType_tuple, kit_NoneType_list, kit_NoneType_str, kit_NoneType_dict, kit_bool_int, kit_bool_bool, kit_bool_tuple, kit_bool_list, kit_bool_str, kit_bool_dict, kit_int_int, kit_int_bool, kit_int_tuple, kit_int_list, kit_int_str, kit_int_dict, kit_str_int, kit_str_bool, kit_str_tuple, kit_str_list, kit_str_str, kit_str_dict, kit_tuple_int, kit_tuple_bool, kit_tuple_tuple, kit_tuple_list, kit_tuple_str, kit_tuple_dict, kit_list_int, kit_list_bool, kit_list_tuple, kit_list_list, kit_list_str, kit_list_dict, kit_dict_int, kit_dict_bool, kit_dict_tuple, kit_dict_list, kit_dict_str, kit_dict_dict])
/-! ### sets of keys of a board -/
theorem keySet_in {js : List (Int × Int)} {ns : List Int} (h : keySet ns (js.length - 1)) : KeysIn js ns := fun k hk => by
  have := h.1 k hk
  omega
theorem shown_keySet {js : List (Int × Int)} {ns : List Int} : keySet (shown js ns) (js.length - 1) := ⟨fun k hk => by
  have := shown_in (js := js) (ns := ns) k hk
  omega, shown_pw⟩
theorem pw_len : ∀ {ns : List Int} {lo hi : Int}, ns.Pairwise (· < ·) → (∀ k ∈ ns, lo ≤ k ∧ k < hi) → (ns.length : Int) ≤ max 0 (hi - lo)
  | [], lo, hi, _, _ => by simp; omega
  | a :: r, lo, hi, hp, h => by
    obtain ⟨h1, h2⟩ := List.pairwise_cons.mp hp
    have h3 := h a (by simp)
    have := pw_len (ns := r) (lo := a + 1) (hi := hi) h2 fun k hk => by
      have := h1 k hk
      have := h k (by simp [hk])
      omega
    simp only [List.length_cons]
    omega
theorem keySet_len {js : List (Int × Int)} {ns : List Int} (h : keySet ns (js.length - 1)) : ns.length ≤ js.length := by
  have := pw_len (lo := 0) (hi := js.length) h.2 fun k hk => by have := h.1 k hk; omega
  omega
theorem eqv_tupI : ∀ {ns ms : List Int}, (tupI ns).eqv (tupI ms) = decide (ns = ms)
  | [], [] => by decide +kernel
  | [], m :: ms => by simp [tupI, D.eqv, D.pd, D.pds, PyData.eqv, PyData.eqvAll]
  | n :: ns, [] => by simp [tupI, D.eqv, D.pd, D.pds, PyData.eqv, PyData.eqvAll]
  | n :: ns, m :: ms => by
    have ih := eqv_tupI (ns := ns) (ms := ms)
    have h1 := eqv_ii (i := n) (j := m)
    simp only [tupI, D.eqv, List.map_cons, D.pd, D.pds, PyData.eqv, PyData.eqvAll] at ih h1 ⊢
    rw [ih, h1]
    simp [List.cons.injEq]
theorem nc_tupI {ns : List Int} {k : Nat} (h : ∀ i ∈ ns, i.natAbs < 2 ^ 200) : (tupI ns).nc (k + 1) = true := D.ncs_mem.mpr fun d hd => by
  obtain ⟨i, hi, rfl⟩ := List.mem_map.mp hd
  exact nc_num (h i hi)
theorem nd_tupI {ns : List Int} : (tupI ns).nd = true := D.nds_mem.mpr fun d hd => by
  obtain ⟨i, hi, rfl⟩ := List.mem_map.mp hd
  rfl
theorem p200 {i : Int} (h : i.natAbs < 10 ^ 45) : i.natAbs < 2 ^ 200 := Nat.lt_trans h (by decide)
theorem eqC_tupI {ns ms : List Int} (h : ∀ i ∈ ns, i.natAbs < 10 ^ 45) (h' : ∀ i ∈ ms, i.natAbs < 10 ^ 45) : EqC (tupI ns) (tupI ms) :=
  eqC_nc (k := 1) (l := 1) (nc_tupI fun i hi => p200 (h i hi)) nd_tupI (nc_tupI fun i hi => p200 (h' i hi)) nd_tupI
theorem keysIn_45 {js : List (Int × Int)} {ns : List Int} (h : KeysIn js ns) (hl : js.length ≤ 1000000) : ∀ i ∈ ns, i.natAbs < 10 ^ 45 := fun i hi => by
  have := h i hi
  omega
def sp_is_keys : SpD := fun ts Q _ => ∃ (n : Int) (js : List (Int × Int)) (v : DL.D), ts = [.fr (boardD n js), .fr v] ∧ v.py = true ∧ shortD v ∧ Q (.fr (.bl (isSet v (some (js.length - 1))))) ts
theorem ln_is_keys : ∀ ts Q E, sp_is_keys ts Q E → ts.length = 2 := by rintro _ Q E ⟨v, n, m, rfl, _⟩; rfl
def g_is_keys : ST' := (sRt (tCl sp_is_set_form (tA1 false (tVr 1) (tA1 false (tV2 RSub false (tVL RLen (tA1 false (tIx false (tVr 0) (tK (.int 1))) tA0)) (tK (.int 1))) tA0))))

theorem vc_is_keys : ∀ ts QD EXD, sp_is_keys ts QD EXD → g_is_keys (fnEnds [0, 1] ts QD) (fnX [0, 1] ts EXD) (startE ["board", "value"] ts) := by
  rintro _ Q E ⟨n, js, v, rfl, hv, hs, q⟩
  unfold g_is_keys
  refine go_i ?_
  unfold boardD at q ⊢
  pv_eval
  refine ⟨v, some (js.length - 1), by rw [List.length_map]; rfl, hv, hs, ?_⟩
  pv_eval
  exact q
def sp_check_keys : SpD := fun ts Q _ => ∃ (n : Int) (js : List (Int × Int)) (v : DL.D), ts = [.fr (boardD n js), .fr v] ∧ v.py = true ∧ shortD v ∧ isSet v (some (js.length - 1)) = true ∧ Q (.fr .non) ts
theorem ln_check_keys : ∀ ts Q E, sp_check_keys ts Q E → ts.length = 2 := by rintro _ Q E ⟨v, n, m, rfl, _⟩; rfl
def g_check_keys : ST' := (sIf (tN (tTs (tCl sp_is_keys (tA1 false (tVr 0) (tA1 false (tVr 1) tA0))))) sNever sNx)

theorem vc_check_keys : ∀ ts QD EXD, sp_check_keys ts QD EXD → g_check_keys (fnEnds [0, 1] ts QD) (fnX [0, 1] ts EXD) (startE ["board", "keys"] ts) := by
  rintro _ Q E ⟨n, js, v, rfl, hv, hs, hk, q⟩
  unfold g_check_keys
  refine go_i ?_
  pv_eval
  refine ⟨n, js, v, rfl, hv, hs, ?_⟩
  rw [hk]
  pv_eval
  exact q
/-- a board that the functions are asked about -/
structure Brd (n : Int) (js : List (Int × Int)) : Prop where
  n1 : 1 ≤ n
  n2 : n ≤ 1000
  l1 : js ≠ []
  l2 : js.length ≤ 1000
  jo : Joints n js
theorem isJoint_j {n : Int} {p : Int × Int} (h : 0 ≤ p.1 ∧ p.1 < p.2 ∧ p.2 < n) : isJoint (jointD p) n = true := by
  simp only [isJoint, jointD, isInt, Bool.and_eq_true, decide_eq_true_eq]
  omega
theorem Brd.is {n : Int} {js : List (Int × Int)} (h : Brd n js) : isBoard (boardD n js) = true := by
  simp only [isBoard, boardD, Bool.and_eq_true, decide_eq_true_eq, List.all_map, List.all_eq_true, Function.comp_def]
  refine ⟨h.n1, ?_, fun p hp => isJoint_j (h.jo p hp)⟩
  have := h.l1
  cases js with
  | nil => exact absurd rfl this
  | cons _ _ => rfl
theorem py_joint {p : Int × Int} : (jointD p).py = true := rfl
theorem pys_joints : ∀ {js : List (Int × Int)}, D.pys (js.map jointD) = true
  | [] => rfl
  | p :: js => by
    simp only [List.map_cons, D.pys, py_joint, Bool.true_and]
    exact pys_joints
theorem py_board {n : Int} {js : List (Int × Int)} : (boardD n js).py = true := by
  simp only [boardD, D.py, D.pys, pys_joints, Bool.true_and, Bool.and_true]
theorem nc_joint {n : Int} {p : Int × Int} (h : 0 ≤ p.1 ∧ p.1 < p.2 ∧ p.2 < n) (hn : n ≤ 1000) {k : Nat} : (jointD p).nc (k + 1) = true := by
  show (D.nc k (.int p.1) && (D.nc k (.int p.2) && true)) = true
  rw [nc_num (p200 (by omega)), nc_num (p200 (by omega))]
  rfl
theorem nc_joints {n : Int} {js : List (Int × Int)} (h : Joints n js) (hn : n ≤ 1000) {k : Nat} : (D.tup (js.map jointD)).nc (k + 2) = true := D.ncs_mem.mpr fun d hd => by
  obtain ⟨p, hp, rfl⟩ := List.mem_map.mp hd
  exact nc_joint (h p hp) hn
theorem nd_joints {js : List (Int × Int)} : (D.tup (js.map jointD)).nd = true := D.nds_mem.mpr fun d hd => by
  obtain ⟨p, hp, rfl⟩ := List.mem_map.mp hd
  rfl
theorem Brd.ok {n : Int} {js : List (Int × Int)} (h : Brd n js) : keysOk (boardD n js) :=
  ⟨D.nc_eqOk (k := 2) (nc_joints h.jo h.n2) nd_joints, by have := h.l2; rw [List.length_map]; omega⟩
theorem cl_check_board {n : Int} {js : List (Int × Int)} (h : Brd n js) {Q : T → List T → Prop} {E : Ex → List T → Prop} (q : Q (.fr .non) [.fr (boardD n js)]) : calls sp_check_board [.fr (boardD n js)] Q E := ⟨_, rfl, py_board, h.ok, h.is, q⟩
theorem py_tupI : ∀ {ns : List Int}, D.pys (ns.map .int) = true
  | [] => rfl
  | n :: ns => by simp only [List.map_cons, D.pys, D.py, py_tupI, Bool.and_self]
theorem short_tupI {js : List (Int × Int)} {ns : List Int} (h : keySet ns (js.length - 1)) (hl : js.length ≤ 1000) : shortD (tupI ns) := by
  have := keySet_len h
  show (ns.map D.int).length ≤ 1000000
  rw [List.length_map]
  omega
theorem cl_check_keys {n : Int} {js : List (Int × Int)} {ns : List Int} (h : Brd n js) (hk : keySet ns (js.length - 1)) {Q : T → List T → Prop} {E : Ex → List T → Prop} (q : Q (.fr .non) [.fr (boardD n js), .fr (tupI ns)]) : calls sp_check_keys [.fr (boardD n js), .fr (tupI ns)] Q E :=
  ⟨n, js, _, rfl, py_tupI, short_tupI hk h.l2, isSet_iff.mpr hk, q⟩
end GL

namespace GL
open PySem PySem.Spec L2 DL
/-- a reading is followed as far as it goes -/
local macro_rules | `(tactic| pv_eval) => `(tactic| simp -dsimp only [e_tVr, e_tK, e_tV1, e_tV2, e_tTs, e_tN, e_tAn, e_tOn, e_tAv, e_tOv, e_tNv, e_tIf1, e_tCh, e_tA0, e_tA1, e_tTp, e_tLs, e_tLf, e_tDc0, e_tVL, e_tIsi, e_tLi, e_tTu, e_tAd, e_tMu, e_tSc, e_tO0, e_tO1, e_tIx, e_tCl, e_tClK, e_tClF, e_tClKF, onlyD, e_tRev, rvK_l, rvK_t, e_tLenSet, e_tSoA, e_tIsi2, e_tAS, seqK_t, seqK_l, e_tClS, List.take_succ_cons, List.take_zero, List.drop_succ_cons, List.drop_zero, intsQ_l, intsQ_t, e_tApp, e_tExt, e_tItL, e_tItT, e_tIt1, e_tIt2, e_tYs, goL_nil, goF_nil, go2_nil, e_tLcD, e_tLcD2, e_sNx, e_sSq, e_sNever, e_sEx, e_sRt, e_sRtN, e_sIf, e_sAs, e_sUn, e_sFor, e_sForP, sqK_t, sqK_f, sqK_l, Option.map_some, e_sPr, e_sSt, fe_nx, fe_rt, fe_x, oM_s, oM_n, iB_t, iB_f, oB_b, zB_b, oI_i, oL_1, dL_l, dT_t, sL_l, isAt_a, r2_I, r2_Ic, r2_N, r2_nN, r2_nB, r2_Eq, r2_Ne, r2_InL, r2_InFl, r2_InFt, r1_Neg, rL_lenS, rL_lenL, rL_lenT, rL_lenC, rL_abs, rL_max, rL_min, rL_intI, rL_intB, rL_str, rL_all, rL_any, rL_rep, o2I_i, vr_f, vr_l, vr_d, vr_o, ixE_f, ixE_la, ixE_lo, ixT_t, ixT_l, ixT_c', ixT_s, ixT_o, addK_i, addK_s, addK_l, addK_t, mulK_i, mulK_l, slK_l, slK_t, slK_s, rtK_d, rtK_o, rtK_a, rtK_p, asK_d, asK_o, asK_a, pd_d, pd_o, pd_a, pd_p, at00, at01, at02, ixN_30, ixN_31, ixN_32, ixN_20, ixN_21, ixN_S0, at_S0, e_tItE, e_tItZ, e_tLr, e_tSo, e_tDg2, e_sDp, o2_2, e_tLVals, e_tSSet, sTu_t, dsFr, dsFr_map,
  Rv.vw, Rv.tr, Rv.sq, Rv.fz, T.get, T.kid, T.set, T.setKid, T.d, T.ds, T.rv, T.frO, D.sq, Sq.its, flatT, vws, owns, takeT, giveT, DL.lstAt, DL.putAt, pickL, Pat.bind, Pat.binds, wipeE, unwipe, setAll, startE, parsFrom, at_0, at_S, set_0, set_S, List.map_cons, List.map_nil, List.length_cons, List.length_nil, List.replicate, List.cons_append, List.nil_append, List.append_nil, List.filterMap_cons, List.filterMap_nil, List.getElem?_cons_zero, List.getElem?_cons_succ, Option.map_some, Option.bind_some, Option.isSome_some, and_true, true_and, List.mem_cons, List.mem_singleton, List.not_mem_nil, or_false, false_or, or_true, true_or, if_true, if_false, Nat.zero_add, Nat.add_zero, Nat.reduceAdd, Nat.reduceSub, Nat.reduceEqDiff, reduceCtorEq, true_implies, false_implies, implies_true, false_and, and_false, not_true_eq_false, not_false_eq_true, Bool.true_eq_false, eqC_ii, eqC_ss, eqv_ii, eqv_ss, D.isN, isK, D.ty, Bool.not_true, Bool.not_false, decide_eq_true_eq, Bool.false_eq_true, eq_self, Bool.or_false, Bool.false_or, ite_true, ite_false, and_self, decide_true, decide_false, T.ds_fr, T.ds_map, Int.cast_ofNat_Int, blsD, blsD_f, List.all_cons, List.all_nil, List.any_cons, List.any_nil, id_eq, Bool.and_true, sizeLine_eq, List.isEmpty_nil, List.isEmpty_cons, eqv_l0, eqv_t0, Nat.reduceLeDiff, Nat.reduceLT, Int.reduceLE, Int.reduceLT, Int.reduceEq, Nat.reducePow, flatT_fr, Int.zero_add, fzL, zpItems, intsD, intsD_map, dicAt, keyAt, ownDic, putDic,
  kit_NoneType_int, kit_NoneType_bool, kit_NoneType_tuple, kit_NoneType_list, kit_NoneType_str, kit_NoneType_dict, kit_bool_int, kit_bool_bool, kit_bool_tuple, kit_bool_list, kit_bool_str, kit_bool_dict, kit_int_int, kit_int_bool, kit_int_tuple, kit_int_list, kit_int_str, kit_int_dict, kit_str_int, kit_str_bool, kit_str_tuple, kit_str_list, kit_str_str, kit_str_dict, kit_tuple_int, kit_tuple_bool, kit_tuple_tuple, kit_tuple_list, kit_tuple_str, kit_tuple_dict, kit_list_int, kit_list_bool, kit_list_tuple, kit_list_list, kit_list_str, kit_list_dict, kit_dict_int, kit_dict_bool, kit_dict_tuple, kit_dict_list, kit_dict_str, kit_dict_dict])
/-! ### marks, closure -/
def fD (n : Int) (f : Int → Int) : List DL.D := (List.range n.toNat).map fun i => .int (f (i : Nat))
theorem fD_len {n : Int} {f : Int → Int} : (fD n f).length = n.toNat := by simp [fD]
theorem fD_N {n : Int} {f : Int → Int} {u : Int} (h : 0 ≤ u) (h2 : u < n) : ixN ((fD n f).map T.fr).length u = some u.toNat := by
  unfold ixN
  rw [List.length_map, fD_len, if_pos h, if_pos (by omega)]
theorem fD_G {n : Int} {f : Int → Int} {u : Int} (h : 0 ≤ u) (h2 : u < n) : ((fD n f).map T.fr)[u.toNat]? = some (.fr (.int (f u))) := by
  rw [fD, List.getElem?_map, List.getElem?_map, List.getElem?_range (by omega)]
  simp [Int.toNat_of_nonneg h]
def mlt (lo hi : Int) (d : DL.D) : DL.D := match d with
  | .int v => .int (if v = hi then lo else v)
  | _ => .non
theorem fD_melt {n : Int} {f : Int → Int} {p : Int × Int} (h : min (f p.1) (f p.2) < max (f p.1) (f p.2)) : (fD n f).map (fun d => T.fr (mlt (min (f p.1) (f p.2)) (max (f p.1) (f p.2)) d)) = (fD n (melt f p)).map T.fr := by
  simp only [fD, List.map_map, melt, if_pos h]
  rfl
def sp_marks : SpD := fun ts Q _ => ∃ (n : Int) (js : List (Int × Int)) (ns : List Int), ts = [.fr (boardD n js), .fr (tupI ns)] ∧ Brd n js ∧ KeysIn js ns ∧ Q (.lst ((fD n (mk js ns)).map .fr)) ts
theorem ln_marks : ∀ ts Q E, sp_marks ts Q E → ts.length = 2 := by rintro _ Q E ⟨v, n, m, rfl, _⟩; rfl
def g_marks : ST' := (sSq (sUn (.tp [.nm 2, .nm 3]) (tVr 0))
  (sSq (sAs 4 (tLr (tVr 2)))
  (sSq (sFor (tItT (tVr 1)) (.nm 5) (sSq (sUn (.tp [.nm 6, .nm 7]) (tIx false (tVr 3) (tVr 5)))
  (sSq (sPr [8, 9] (tA1 false (tVL RMin2 (tA1 false (tIx false (tVr 4) (tVr 6)) (tA1 false (tIx false (tVr 4) (tVr 7)) tA0))) (tA1 false (tVL RMax2 (tA1 false (tIx false (tVr 4) (tVr 6)) (tA1 false (tIx false (tVr 4) (tVr 7)) tA0))) tA0)))
  (sIf (tTs (tV2 RLt false (tVr 8) (tVr 9))) (sAs 4 (tLcD (tItL (tVr 4)) (.nm 10) [10] tYs (tIf' (tTs (tV2 REq false (tVr 10) (tVr 9))) (tVr 8) (tVr 10)))) sNx))))
  (sRt (tVr 4)))))

theorem vc_marks : ∀ ts QD EXD, sp_marks ts QD EXD → g_marks (fnEnds [0, 1] ts QD) (fnX [0, 1] ts EXD) (startE ["board", "keys", "wires", "joints", "found", "key", "one", "other", "low", "high", "mark"] ts) := by
  rintro _ Q E ⟨n, js, ns, rfl, ⟨h1, h2, _, h3, hJ⟩, k1, q⟩
  unfold g_marks boardD tupI
  unfold boardD tupI at q
  refine go_i ?_
  pv_eval
  refine ⟨⟨by omega, by omega⟩, goF_ind (fun i ε => ∃ (x5 x6 x7 x8 x9 x10 : Option T), ε = [some (.fr (.tup [.int n, .tup (js.map jointD)])), some (.fr (.tup (ns.map .int))), some (.fr (.int n)), some (.fr (.tup (js.map jointD))), some (.lst ((fD n (mk js (ns.take i))).map .fr)), x5, x6, x7, x8, x9, x10]) ?_ ?_ ?_⟩
  · refine ⟨none, none, none, none, none, none, ?_⟩
    simp [fD, rgD, mk, pick, mkF]
  · rintro ε' ⟨x5, x6, x7, x8, x9, x10, rfl⟩
    rw [List.length_map, List.take_length]
    pv_eval
    exact q
  · rintro i d ε' N hd ⟨x5, x6, x7, x8, x9, x10, rfl⟩ hN
    rw [List.getElem?_map, Option.map_eq_some_iff] at hd
    obtain ⟨k, hk, rfl⟩ := hd
    have hkm : k ∈ ns := List.mem_of_getElem? hk
    obtain ⟨q1, q2⟩ := k1 k hkm
    have hj : ∃ a b : Int, js[k.toNat]? = some (a, b) := ⟨_, _, List.getElem?_eq_getElem (by omega)⟩
    obtain ⟨a, b, hj⟩ := hj
    have hab := hJ _ (List.mem_of_getElem? hj)
    simp only at hab
    have e0 : atI (js.map jointD) k = some (.tup [.int a, .int b]) := by
      rw [DL.atI_nat q1 (by rw [List.length_map]; omega), List.getElem?_map, hj]
      rfl
    refine ⟨_, rfl, ?_⟩
    have ha0 : 0 ≤ a := hab.1
    have ha1 : a < n := by omega
    have hb0 : 0 ≤ b := by omega
    have hb1 : b < n := hab.2.2
    have ep : mk js (ns.take (i + 1)) = melt (mk js (ns.take i)) (a, b) := by
      unfold mk
      rw [← mkF_snoc]
      congr 1
      rw [List.take_add_one, hk]
      simp [pick, hj]
    rw [ep] at hN
    generalize mk js (ns.take i) = f at hN ⊢
    pv_eval
    rw [e0]
    pv_eval
    have A1 := fD_N (f := f) ha0 ha1
    have A2 := fD_G (f := f) ha0 ha1
    have B1 := fD_N (f := f) hb0 hb1
    have B2 := fD_G (f := f) hb0 hb1
    refine oM_i A1 (oM_i A2 ?_)
    pv_eval
    refine oM_i B1 (oM_i B2 ?_)
    pv_eval
    refine oM_i A1 (oM_i A2 ?_)
    pv_eval
    refine oM_i B1 (oM_i B2 ?_)
    pv_eval
    have em : (if f b < f a then f b else f a) = min (f a) (f b) := by split <;> omega
    have eM : (if f b > f a then f b else f a) = max (f a) (f b) := by split <;> omega
    rw [em, eM]
    refine iB_i (fun h => ?_) (fun h => ?_)
    · have h := of_decide_eq_true h
      pv_eval
      refine ⟨by rw [fD_len]; omega, ?_⟩
      refine goL_pure (mlt (min (f a) (f b)) (max (f a) (f b))) (fun d hd => ?_) ?_
      · obtain ⟨v, _, rfl⟩ := List.mem_map.mp hd
        refine ⟨_, rfl, rfl, fun Q q => ?_⟩
        pv_eval
        refine iB_i (fun h => ?_) (fun h => ?_) <;> pv_eval <;> simp_all [mlt]
      · pv_eval
        rw [fD_melt (p := (a, b)) h]
        exact hN _ ⟨_, _, _, _, _, _, rfl⟩
    · have h := of_decide_eq_false h
      pv_eval
      have e : melt f (a, b) = f := by unfold melt; rw [if_neg h]
      rw [e] at hN
      exact hN _ ⟨_, _, _, _, _, _, rfl⟩
theorem cl_marks {n : Int} {js : List (Int × Int)} {ns : List Int} (h : Brd n js) (hk : KeysIn js ns) {Q : T → List T → Prop} {E : Ex → List T → Prop} (q : Q (.lst ((fD n (mk js ns)).map .fr)) [.fr (boardD n js), .fr (tupI ns)]) : calls sp_marks [.fr (boardD n js), .fr (tupI ns)] Q E :=
  ⟨n, js, ns, rfl, h, hk, q⟩
/-! ### closure -/
theorem enD_eq (ds : List DL.D) : enD ds = (List.range ds.length).map fun i => .tup [.int (i : Nat), ds.getD i .non] := by
  refine List.ext_getElem? fun i => ?_
  by_cases h : i < ds.length
  · rw [enD_get (List.getElem?_eq_getElem h), List.getElem?_map, List.getElem?_range h]
    simp [h]
  · rw [List.getElem?_eq_none (by rw [enD_len]; omega), List.getElem?_eq_none (by simp; omega)]
def tiedD (f : Int → Int) (d : DL.D) : Bool := match d with
  | .tup [_, .tup [.int a, .int b]] => decide (f a = f b)
  | _ => false
def fstD (d : DL.D) : DL.D := match d with
  | .tup [a, _] => a
  | _ => .non
theorem en_joints {js : List (Int × Int)} {d : DL.D} (h : d ∈ enD (js.map jointD)) : ∃ (i : Nat) (p : Int × Int), js[i]? = some p ∧ d = .tup [.int (i : Nat), .tup [.int p.1, .int p.2]] := by
  rw [enD_eq] at h
  obtain ⟨i, hi, rfl⟩ := List.mem_map.mp h
  rw [List.length_map, List.mem_range] at hi
  refine ⟨i, js[i], by simp [hi], ?_⟩
  simp [List.getD_eq_getElem?_getD, hi, jointD]
theorem en_shown {js : List (Int × Int)} {f : Int → Int} : ((enD (js.map jointD)).filter (tiedD f)).map (fun d => fstD d) = (((List.range js.length).filter fun k => tied f js k).map fun k : Nat => (k : Int)).map DL.D.int := by
  rw [enD_eq, List.length_map, List.filter_map, List.map_map, List.map_map]
  have e : List.filter (tiedD f ∘ fun i : Nat => D.tup [.int (i : Nat), (js.map jointD).getD i .non]) (List.range js.length) = List.filter (fun k => tied f js k) (List.range js.length) := List.filter_congr fun i hi => by
    rw [List.mem_range] at hi
    simp [List.getD_eq_getElem?_getD, hi, jointD, tiedD, tied]
  rw [e]
  rfl
def sp_closure : SpD := fun ts Q _ => ∃ (n : Int) (js : List (Int × Int)) (ns : List Int), ts = [.fr (boardD n js), .fr (tupI ns)] ∧ Brd n js ∧ KeysIn js ns ∧ Q (.fr (tupI (shown js ns))) ts
theorem ln_closure : ∀ ts Q E, sp_closure ts Q E → ts.length = 2 := by rintro _ Q E ⟨v, n, m, rfl, _⟩; rfl
def g_closure : ST' := (sSq (sAs 2 (tCl sp_marks (tA1 false (tVr 0) (tA1 false (tVr 1) tA0))))
  (sRt (tTu (tA1 false (tLcD (tItE (tA1 false (tIx false (tVr 0) (tK (.int 1))) tA0)) (.tp [.nm 3, (.tp [.nm 4, .nm 5])]) [3, 4, 5] (tTs (tV2 REq false (tIx false (tVr 2) (tVr 4)) (tIx false (tVr 2) (tVr 5)))) (tVr 3)) tA0))))

theorem vc_closure : ∀ ts QD EXD, sp_closure ts QD EXD → g_closure (fnEnds [0, 1] ts QD) (fnX [0, 1] ts EXD) (startE ["board", "keys", "found", "key", "one", "other"] ts) := by
  rintro _ Q E ⟨n, js, ns, rfl, hB, hk, q⟩
  unfold g_closure
  refine go_i ?_
  pv_eval
  refine cl_marks hB hk ?_
  unfold boardD tupI
  unfold boardD tupI at q
  pv_eval
  refine ⟨by have := hB.l2; rw [enD_len, List.length_map]; omega, ?_⟩
  refine goL_filt (tiedD (mk js ns)) fstD (fun d hd => ?_) ?_
  · obtain ⟨i, p, hp, rfl⟩ := en_joints hd
    have hj := hB.jo p (List.mem_of_getElem? hp)
    refine ⟨_, rfl, rfl, fun Q q => ?_, fun Q _ q => ?_⟩
    · pv_eval
      refine oM_i (fD_N (by omega) (by omega)) (oM_i (fD_G (by omega) (by omega)) ?_)
      pv_eval
      refine oM_i (fD_N (by omega) (by omega)) (oM_i (fD_G (by omega) (by omega)) ?_)
      pv_eval
      exact q
    · pv_eval
      exact q
  · pv_eval
    rw [en_shown]
    exact q
theorem cl_closure {n : Int} {js : List (Int × Int)} {ns : List Int} (h : Brd n js) (hk : KeysIn js ns) {Q : T → List T → Prop} {E : Ex → List T → Prop} (q : Q (.fr (tupI (shown js ns))) [.fr (boardD n js), .fr (tupI ns)]) : calls sp_closure [.fr (boardD n js), .fr (tupI ns)] Q E :=
  ⟨n, js, ns, rfl, h, hk, q⟩
def sp_seen_by : SpD := fun ts Q _ => ∃ (n : Int) (js : List (Int × Int)) (ns : List Int), ts = [.fr (boardD n js), .fr (tupI ns)] ∧ Brd n js ∧ keySet ns (js.length - 1) ∧ Q (.fr (tupI (shown js ns))) ts
theorem ln_seen_by : ∀ ts Q E, sp_seen_by ts Q E → ts.length = 2 := by rintro _ Q E ⟨v, n, m, rfl, _⟩; rfl
def g_seen_by : ST' := (sSq (sEx (tCl sp_check_board (tA1 false (tVr 0) tA0)))
  (sSq (sEx (tCl sp_check_keys (tA1 false (tVr 0) (tA1 false (tVr 1) tA0))))
  (sRt (tCl sp_closure (tA1 false (tVr 0) (tA1 false (tVr 1) tA0))))))

theorem vc_seen_by : ∀ ts QD EXD, sp_seen_by ts QD EXD → g_seen_by (fnEnds [0, 1] ts QD) (fnX [0, 1] ts EXD) (startE ["board", "pressed"] ts) := by
  rintro _ Q E ⟨n, js, ns, rfl, hB, hk, q⟩
  unfold g_seen_by
  refine go_i ?_
  pv_eval
  refine cl_check_board hB ?_
  pv_eval
  refine cl_check_keys hB hk ?_
  pv_eval
  refine cl_closure hB (keySet_in hk) ?_
  pv_eval
  exact q
theorem cl_seen_by {n : Int} {js : List (Int × Int)} {ns : List Int} (h : Brd n js) (hk : keySet ns (js.length - 1)) {Q : T → List T → Prop} {E : Ex → List T → Prop} (q : Q (.fr (tupI (shown js ns))) [.fr (boardD n js), .fr (tupI ns)]) : calls sp_seen_by [.fr (boardD n js), .fr (tupI ns)] Q E :=
  ⟨n, js, ns, rfl, h, hk, q⟩
end GL

namespace GL
/-! ### lots by spreading, the plain law -/
theorem spread {P : List (Int × Int)} {f : Int → Int} (m : Mk P f) {x : Int} {lot : List Int} (hx : x ∈ lot) (hc : ∀ p ∈ P, p.1 ∈ lot ↔ p.2 ∈ lot) {v : Int} (e : f v = f x) : v ∈ lot := by
  have := m.to (fun w => if w ∈ lot then 1 else 0) (fun p hp => by
    have := hc p hp
    by_cases h : p.1 ∈ lot
    · rw [if_pos h, if_pos (this.mp h)]
    · rw [if_neg h, if_neg fun z => h (this.mpr z)]) v x e
  simp only [hx, if_true] at this
  split at this
  · assumption
  · omega
/-- a lot, half way -/
structure Spr (P : List (Int × Int)) (f : Int → Int) (n : Nat) (x : Int) (lot : List Int) (at' : Nat) : Prop where
  nd : lot.Nodup
  inn : ∀ v ∈ lot, 0 ≤ v ∧ v < n ∧ f v = x
  hx : x ∈ lot
  cl : ∀ (i : Nat) (v : Int), i < at' → lot[i]? = some v → ∀ p ∈ P, (p.1 = v → p.2 ∈ lot) ∧ (p.2 = v → p.1 ∈ lot)
theorem Spr.start {P : List (Int × Int)} {f : Int → Int} {n : Nat} {x : Int} (h0 : 0 ≤ x) (h1 : x < n) (h : f x = x) : Spr P f n x [x] 0 :=
  ⟨by simp, fun v hv => by simp only [List.mem_singleton] at hv; subst hv; exact ⟨h0, h1, h⟩, by simp, fun i v hi => by omega⟩
theorem Spr.add {P : List (Int × Int)} {f : Int → Int} {n : Nat} {x y : Int} {lot : List Int} {at' : Nat} (s : Spr P f n x lot at') (ha : at' ≤ lot.length) (hy : y ∉ lot) (h : 0 ≤ y ∧ y < n ∧ f y = x) : Spr P f n x (lot ++ [y]) at' := by
  refine ⟨?_, fun v hv => ?_, by simp [s.hx], fun i v hi hv p hp => ?_⟩
  · rw [List.nodup_append]
    refine ⟨s.nd, by simp, fun a ha b hb => ?_⟩
    simp only [List.mem_singleton] at hb
    subst hb
    rintro rfl
    exact hy ha
  · rcases List.mem_append.mp hv with h1 | h1
    · exact s.inn v h1
    · simp only [List.mem_singleton] at h1; subst h1; exact h
  · rw [List.getElem?_append_left (by omega)] at hv
    have := s.cl i v hi hv p hp
    exact ⟨fun e => by simp [this.1 e], fun e => by simp [this.2 e]⟩
theorem Spr.next {P : List (Int × Int)} {f : Int → Int} {n : Nat} {x u : Int} {lot : List Int} {at' : Nat} (s : Spr P f n x lot at') (hu : lot[at']? = some u) (h : ∀ p ∈ P, (p.1 = u → p.2 ∈ lot) ∧ (p.2 = u → p.1 ∈ lot)) : Spr P f n x lot (at' + 1) :=
  ⟨s.nd, s.inn, s.hx, fun i v hi hv p hp => by
    by_cases e : i = at'
    · subst e; rw [hu] at hv; cases hv; exact h p hp
    · exact s.cl i v (by omega) hv p hp⟩
theorem Spr.len {P : List (Int × Int)} {f : Int → Int} {n : Nat} {x : Int} {lot : List Int} {at' : Nat} (s : Spr P f n x lot at') : lot.length ≤ n := by
  have := nodup_sub_len (ys := (List.range n).map fun i : Nat => (i : Int)) s.nd fun k hk => by
    have := s.inn k hk
    exact List.mem_map.mpr ⟨k.toNat, List.mem_range.mpr (by omega), by omega⟩
  simpa using this
theorem Spr.done {P : List (Int × Int)} {f : Int → Int} {n : Nat} {x : Int} {lot : List Int} (s : Spr P f n x lot lot.length) (m : Mk P f) {v : Int} : v ∈ lot ↔ v ∈ cls n f x := by
  rw [cls_mem]
  refine ⟨fun h => s.inn v h, fun ⟨h0, h1, h2⟩ => ?_⟩
  have hx := s.inn x s.hx
  refine spread m s.hx (fun p hp => ?_) (h2.trans hx.2.2.symm)
  constructor
  · intro h
    obtain ⟨i, hi, e⟩ := List.getElem_of_mem h
    exact ((s.cl i p.1 hi (by rw [List.getElem?_eq_getElem hi, e])) p hp).1 rfl
  · intro h
    obtain ⟨i, hi, e⟩ := List.getElem_of_mem h
    exact ((s.cl i p.2 hi (by rw [List.getElem?_eq_getElem hi, e])) p hp).2 rfl
theorem Spr.sorted {P : List (Int × Int)} {f : Int → Int} {n : Nat} {x : Int} {lot ms : List Int} (s : Spr P f n x lot lot.length) (m : Mk P f) (hp : ms.Perm lot) (hs : ms.Pairwise (· ≤ ·)) : ms = cls n f x :=
  asc_ext (asc_of hp hs s.nd) cls_pw fun k => by rw [hp.mem_iff, s.done m]
/-- the wires whose marks are m or more -/
def leftF (n : Nat) (f : Int → Int) (m : Int) : List Int := ((List.range n).filter fun i => decide (m ≤ f (i : Nat))).map fun i : Nat => (i : Int)
def rootsLt (n : Nat) (f : Int → Int) (m : Int) : List Int := (roots n f).filter fun r => decide (r < m)
theorem leftF_mem {n : Nat} {f : Int → Int} {m v : Int} : v ∈ leftF n f m ↔ 0 ≤ v ∧ v < n ∧ m ≤ f v := by
  unfold leftF
  simp only [List.mem_map, List.mem_filter, List.mem_range, decide_eq_true_eq]
  constructor
  · rintro ⟨a, ⟨h1, h2⟩, rfl⟩; exact ⟨by omega, by omega, h2⟩
  · rintro ⟨h1, h2, h3⟩; exact ⟨v.toNat, ⟨by omega, by rw [Int.toNat_of_nonneg h1]; exact h3⟩, by omega⟩
theorem leftF_pw {n : Nat} {f : Int → Int} {m : Int} : (leftF n f m).Pairwise (· < ·) := by
  unfold leftF
  rw [List.pairwise_map]
  exact (List.pairwise_lt_range.filter _).imp fun h => by omega
section
variable {n : Nat} {f : Int → Int} {P : List (Int × Int)} {m x : Int} {r : List Int}
theorem left_head (h : Mk P f) (hp : ∀ v, 0 ≤ v → 0 ≤ f v) (e : leftF n f m = x :: r) : 0 ≤ x ∧ x < n ∧ f x = x ∧ m ≤ x ∧ ∀ v : Int, 0 ≤ v → v < n → m ≤ f v → x ≤ f v := by
  have hx : x ∈ leftF n f m := by rw [e]; simp
  obtain ⟨h0, h1, h2⟩ := leftF_mem.mp hx
  have pw := leftF_pw (n := n) (f := f) (m := m)
  rw [e] at pw
  have hmin : ∀ v ∈ leftF n f m, x ≤ v := fun v hv => by
    rw [e] at hv
    rcases List.mem_cons.mp hv with rfl | hv
    · omega
    · have := (List.pairwise_cons.mp pw).1 v hv; omega
  have key : ∀ v : Int, 0 ≤ v → v < n → m ≤ f v → x ≤ f v := fun v v0 v1 v2 => by
    have a := hp v v0
    have b := h.low v
    exact hmin (f v) (leftF_mem.mpr ⟨a, by omega, by rw [h.idem]; exact v2⟩)
  have k := key x h0 h1 h2
  have l := h.low x
  exact ⟨h0, h1, by omega, by omega, key⟩
theorem left_next (h : Mk P f) (hp : ∀ v, 0 ≤ v → 0 ≤ f v) (e : leftF n f m = x :: r) : (leftF n f m).filter (fun w => decide (w ∉ cls n f x)) = leftF n f (x + 1) := by
  obtain ⟨h0, h1, h2, h3, h4⟩ := left_head h hp e
  refine asc_ext (leftF_pw.filter _) leftF_pw fun k => ?_
  rw [List.mem_filter, leftF_mem, leftF_mem, decide_eq_true_eq, cls_mem]
  constructor
  · rintro ⟨⟨a, b, c⟩, d⟩
    have := h4 k a b c
    refine ⟨a, b, ?_⟩
    have : f k ≠ x := fun z => d ⟨a, b, z⟩
    omega
  · rintro ⟨a, b, c⟩
    exact ⟨⟨a, b, by omega⟩, fun z => by omega⟩
theorem left_len (h : Mk P f) (hp : ∀ v, 0 ≤ v → 0 ≤ f v) (e : leftF n f m = x :: r) : (leftF n f (x + 1)).length < (leftF n f m).length := by
  rw [← left_next h hp e]
  obtain ⟨h0, h1, h2, h3, h4⟩ := left_head h hp e
  have := List.length_filter_le (fun w => decide (w ∉ cls n f x)) r
  rw [e]
  rw [List.filter_cons, if_neg (by simp [cls_mem, h0, h1, h2])]
  simp only [List.length_cons]
  omega
theorem rootsLt_next (h : Mk P f) (hp : ∀ v, 0 ≤ v → 0 ≤ f v) (e : leftF n f m = x :: r) : rootsLt n f (x + 1) = rootsLt n f m ++ [x] := by
  obtain ⟨h0, h1, h2, h3, h4⟩ := left_head h hp e
  refine asc_ext (roots_pw.filter _) ?_ fun k => ?_
  · rw [List.pairwise_append]
    refine ⟨roots_pw.filter _, by simp, fun a ha b hb => ?_⟩
    simp only [List.mem_singleton] at hb
    subst hb
    have := of_decide_eq_true (List.mem_filter.mp ha).2
    omega
  · rw [List.mem_append, rootsLt, rootsLt, List.mem_filter, List.mem_filter, roots_mem, decide_eq_true_eq, decide_eq_true_eq, List.mem_singleton]
    constructor
    · rintro ⟨⟨a, b, c⟩, d⟩
      by_cases hk : k < m
      · exact .inl ⟨⟨a, b, c⟩, hk⟩
      · have := h4 k a b (by omega)
        exact .inr (by omega)
    · rintro (⟨⟨a, b, c⟩, d⟩ | rfl)
      · exact ⟨⟨a, b, c⟩, by omega⟩
      · exact ⟨⟨h0, h1, h2⟩, by omega⟩
theorem left_zero (hp : ∀ v, 0 ≤ v → 0 ≤ f v) : leftF n f 0 = (List.range n).map fun i : Nat => (i : Int) := by
  unfold leftF
  congr 1
  exact List.filter_eq_self.mpr fun i _ => decide_eq_true (hp i (by omega))
theorem rootsLt_zero : rootsLt n f 0 = [] := by
  unfold rootsLt
  rw [List.filter_eq_nil_iff]
  intro a ha
  have := roots_mem.mp ha
  simp; omega
theorem rootsLt_all (e : leftF n f m = []) : rootsLt n f m = roots n f := by
  unfold rootsLt
  refine List.filter_eq_self.mpr fun a ha => ?_
  obtain ⟨h0, h1, h2⟩ := roots_mem.mp ha
  refine decide_eq_true ?_
  by_cases h : a < m
  · exact h
  · have : a ∈ leftF n f m := leftF_mem.mpr ⟨h0, h1, by omega⟩
    rw [e] at this
    simp at this
/-- the first wire of a lot is its mark -/
theorem cls_head (h : Mk P f) (h0 : 0 ≤ x) (h1 : x < n) (h2 : f x = x) : ∃ t, cls n f x = x :: t := by
  have hx : x ∈ cls n f x := cls_mem.mpr ⟨h0, h1, h2⟩
  have pw := cls_pw (n := n) (f := f) (r := x)
  cases e : cls n f x with
  | nil => rw [e] at hx; simp at hx
  | cons y t =>
    have hy : y ∈ cls n f x := by rw [e]; simp
    obtain ⟨_, _, k⟩ := cls_mem.mp hy
    have := h.low y
    rw [e] at hx pw
    rcases List.mem_cons.mp hx with rfl | hx
    · exact ⟨t, rfl⟩
    · have := (List.pairwise_cons.mp pw).1 x hx
      omega
/-! the lots one wire after another -/
theorem roots_succ {i : Nat} : roots (i + 1) f = if f (i : Nat) = (i : Nat) then roots i f ++ [(i : Int)] else roots i f := by
  unfold roots
  rw [List.range_succ, List.filter_append, List.map_append]
  by_cases h : f (i : Nat) = (i : Nat)
  · simp [h]
  · simp [h]
theorem cls_succ {i : Nat} {r : Int} : cls (i + 1) f r = if f (i : Nat) = r then cls i f r ++ [(i : Int)] else cls i f r := by
  unfold cls
  rw [List.range_succ, List.filter_append, List.map_append]
  by_cases h : f (i : Nat) = r
  · simp [h]
  · simp [h]
theorem cls_new {i : Nat} (h : Mk P f) : cls i f (i : Nat) = [] := by
  unfold cls
  rw [List.map_eq_nil_iff, List.filter_eq_nil_iff]
  intro a ha
  have := List.mem_range.mp ha
  have := h.low a
  simp; omega
end
end GL

namespace GL
open PySem PySem.Spec L2 DL
/-- a reading is followed as far as it goes -/
local macro_rules | `(tactic| pv_eval) => `(tactic| simp -dsimp only [e_tVr, e_tK, e_tV1, e_tV2, e_tTs, e_tN, e_tAn, e_tOn, e_tAv, e_tOv, e_tNv, e_tIf1, e_tCh, e_tA0, e_tA1, e_tTp, e_tLs, e_tLf, e_tDc0, e_tVL, e_tIsi, e_tLi, e_tTu, e_tAd, e_tMu, e_tSc, e_tO0, e_tO1, e_tIx, e_tCl, e_tClK, e_tClF, e_tClKF, onlyD, e_tRev, rvK_l, rvK_t, e_tLenSet, e_tSoA, e_tIsi2, e_tAS, seqK_t, seqK_l, e_tClS, List.take_succ_cons, List.take_zero, List.drop_succ_cons, List.drop_zero, intsQ_l, intsQ_t, e_tApp, e_tExt, e_tItL, e_tItT, e_tIt1, e_tIt2, e_tYs, goL_nil, goF_nil, go2_nil, e_tLcD, e_tLcD2, e_sNx, e_sSq, e_sNever, e_sEx, e_sRt, e_sRtN, e_sIf, e_sAs, e_sUn, e_sFor, e_sForP, sqK_t, sqK_f, sqK_l, Option.map_some, e_sPr, e_sSt, fe_nx, fe_rt, fe_x, oM_s, oM_n, iB_t, iB_f, oB_b, zB_b, oI_i, oL_1, dL_l, dT_t, sL_l, isAt_a, r2_I, r2_Ic, r2_N, r2_nN, r2_nB, r2_Eq, r2_Ne, r2_InL, r2_InFl, r2_InFt, r1_Neg, rL_lenS, rL_lenL, rL_lenT, rL_lenC, rL_abs, rL_max, rL_min, rL_intI, rL_intB, rL_str, rL_all, rL_any, rL_rep, o2I_i, vr_f, vr_l, vr_d, vr_o, ixE_f, ixE_la, ixE_lo, ixT_t, ixT_l, ixT_c', ixT_s, ixT_o, addK_i, addK_s, addK_l, addK_t, mulK_i, mulK_l, slK_l, slK_t, slK_s, rtK_d, rtK_o, rtK_a, rtK_p, asK_d, asK_o, asK_a, pd_d, pd_o, pd_a, pd_p, at00, at01, at02, ixN_30, ixN_31, ixN_32, ixN_20, ixN_21, ixN_S0, at_S0, e_tItE, e_tItZ, e_tLr, e_tSo, e_tDg2, e_sDp, o2_2, e_tLVals, e_tSSet, sTu_t, dsFr, dsFr_map,
  Rv.vw, Rv.tr, Rv.sq, Rv.fz, T.get, T.kid, T.set, T.setKid, T.d, T.ds, T.rv, T.frO, D.sq, Sq.its, flatT, vws, owns, takeT, giveT, DL.lstAt, DL.putAt, pickL, Pat.bind, Pat.binds, wipeE, unwipe, setAll, startE, parsFrom, at_0, at_S, set_0, set_S, List.map_cons, List.map_nil, List.length_cons, List.length_nil, List.replicate, List.cons_append, List.nil_append, List.append_nil, List.filterMap_cons, List.filterMap_nil, List.getElem?_cons_zero, List.getElem?_cons_succ, Option.map_some, Option.bind_some, Option.isSome_some, and_true, true_and, List.mem_cons, List.mem_singleton, List.not_mem_nil, or_false, false_or, or_true, true_or, if_true, if_false, Nat.zero_add, Nat.add_zero, Nat.reduceAdd, Nat.reduceSub, Nat.reduceEqDiff, reduceCtorEq, true_implies, false_implies, implies_true, false_and, and_false, not_true_eq_false, not_false_eq_true, Bool.true_eq_false, eqC_ii, eqC_ss, eqv_ii, eqv_ss, D.isN, isK, D.ty, Bool.not_true, Bool.not_false, decide_eq_true_eq, Bool.false_eq_true, eq_self, Bool.or_false, Bool.false_or, ite_true, ite_false, and_self, decide_true, decide_false, T.ds_fr, T.ds_map, Int.cast_ofNat_Int, blsD, blsD_f, List.all_cons, List.all_nil, List.any_cons, List.any_nil, id_eq, Bool.and_true, sizeLine_eq, List.isEmpty_nil, List.isEmpty_cons, eqv_l0, eqv_t0, Nat.reduceLeDiff, Nat.reduceLT, Int.reduceLE, Int.reduceLT, Int.reduceEq, Nat.reducePow, flatT_fr, Int.zero_add, fzL, zpItems, intsD, intsD_map, dicAt, keyAt, ownDic, putDic,
  kit_NoneType_int, kit_NoneType_bool, kit_NoneType_tuple, kit_NoneType_list, kit_NoneType_str, kit_NoneType_dict, kit_bool_int, kit_bool_bool, kit_bool_tuple, kit_bool_list, kit_bool_str, kit_bool_dict, kit_int_int, kit_int_bool, kit_int_tuple, kit_int_list, kit_int_str, kit_int_dict, kit_str_int, kit_str_bool, kit_str_tuple, kit_str_list, kit_str_str, kit_str_dict, kit_tuple_int, kit_tuple_bool, kit_tuple_tuple, kit_tuple_list, kit_tuple_str, kit_tuple_dict, kit_list_int, kit_list_bool, kit_list_tuple, kit_list_list, kit_list_str, kit_list_dict, kit_dict_int, kit_dict_bool, kit_dict_tuple, kit_dict_list, kit_dict_str, kit_dict_dict])
/-! ### lots by a dict -/
theorem ixK_ints : ∀ {ms : List Int} {k : Int}, ixK (ms.map D.int) (.inl k) = ms.findIdx? (fun m => decide (m = k))
  | [], _ => rfl
  | m :: ms, k => by
    simp only [List.map_cons, ixK, eqK, List.findIdx?_cons, ixK_ints (ms := ms)]
theorem any_ints {ms : List Int} {k : Int} : (ms.map D.int).any (fun x => eqK x (.inl k)) = decide (k ∈ ms) := by
  rw [List.any_map]
  refine Bool.eq_iff_iff.mpr ?_
  simp [eqK]
theorem inK_ints {g : Int → DL.D} {k : Int} {d : DL.D} : ∀ {ms : List Int}, inK (ms.map D.int) (ms.map fun m => T.fr (g m)) (.inl k) d = ms.map fun m => T.fr (if m = k then d else g m)
  | [] => rfl
  | m :: ms => by
    simp only [List.map_cons, inK, eqK, inK_ints (ms := ms), decide_eq_true_eq]
    by_cases h : m = k <;> simp [h]
theorem head_ints {ms : List Int} : (ms.map D.int).head?.any D.isN = false := by cases ms <;> rfl
theorem put_lots {P : List (Int × Int)} {f : Int → Int} (hm : Mk P f) (hpos : ∀ v, 0 ≤ v → 0 ≤ f v) {i : Nat} : putKs ((roots i f).map D.int) ((roots i f).map fun r => T.fr (tupI (cls i f r))) (.inl (f i)) (tupI ((if f i ∈ roots i f then cls i f (f i) else []) ++ [(i : Int)])) =
    ((roots (i + 1) f).map D.int, (roots (i + 1) f).map fun r => T.fr (tupI (cls (i + 1) f r))) := by
  have lo := hm.low (i : Nat)
  have id := hm.idem (i : Nat)
  have p0 := hpos (i : Nat) (by omega)
  unfold putKs
  rw [any_ints]
  by_cases h : f i = (i : Nat)
  · have hn : (i : Int) ∉ roots i f := fun z => by have := roots_mem.mp z; omega
    rw [h, if_neg (by simpa using hn), if_neg hn, roots_succ, if_pos h]
    refine Prod.ext ?_ ?_
    · simp [keyD]
    · simp only [List.map_append, List.map_singleton, List.nil_append]
      rw [cls_succ, if_pos h, cls_new hm, List.nil_append]
      congr 1
      refine List.map_congr_left fun r hr => ?_
      have := roots_mem.mp hr
      rw [cls_succ, if_neg (by omega)]
  · have hin : f i ∈ roots i f := roots_mem.mpr ⟨p0, by omega, id⟩
    rw [if_pos (by simpa using hin), if_pos hin, inK_ints, roots_succ, if_neg h]
    refine Prod.ext rfl ?_
    refine List.map_congr_left fun r hr => ?_
    rw [cls_succ]
    by_cases e : r = f i
    · subst e; rw [if_pos rfl, if_pos rfl]
    · rw [if_neg e, if_neg (Ne.symm e)]
theorem dgK_some {ks : List DL.D} {ts : List T} {k : Key} {i : Nat} {d : DL.D} {rx : Rv} {ε : DL.Env} {Q : EQ} (e : ixK ks k = some i) (h : ts[i]? = some (.fr d)) (q : Q (.d d) ε) : dgK ks ts k rx ε Q := by
  unfold dgK dgQ
  rw [e]
  exact ⟨d, h, q⟩
theorem dgK_none {ks : List DL.D} {ts : List T} {k : Key} {rx : Rv} {ε : DL.Env} {Q : EQ} (e : ixK ks k = none) (q : Q rx ε) : dgK ks ts k rx ε Q := by
  unfold dgK dgQ
  rw [e]
  exact q
/-- the lots as data -/
def lotsD (n : Nat) (f : Int → Int) : List DL.D := (lotsOf n f).map tupI
def sp_lots : SpD := fun ts Q _ => ∃ (n : Int) (js : List (Int × Int)) (ns : List Int), ts = [.fr (boardD n js), .fr (tupI ns)] ∧ Brd n js ∧ keySet ns (js.length - 1) ∧ Q (.lst ((lotsD n.toNat (mk js ns)).map .fr)) ts
theorem ln_lots : ∀ ts Q E, sp_lots ts Q E → ts.length = 2 := by rintro _ Q E ⟨v, n, m, rfl, _⟩; rfl
def g_lots : ST' := (sSq (sEx (tCl sp_check_board (tA1 false (tVr 0) tA0)))
  (sSq (sEx (tCl sp_check_keys (tA1 false (tVr 0) (tA1 false (tVr 1) tA0))))
  (sSq (sAs 2 tDc0)
  (sSq (sFor (tItE (tA1 false (tCl sp_marks (tA1 false (tVr 0) (tA1 false (tVr 1) tA0))) tA0)) (.tp [.nm 3, .nm 4]) (sDp false (tVr 2) (tVr 4) (tAd false (tDg2 false false (tVr 2) (tVr 4) (tTp tA0)) (tTp (tA1 false (tVr 3) tA0)))))
  (sRt (tLVals (tVr 2)))))))

theorem fzL_own {ds : List DL.D} {ε : DL.Env} : fzL (.own (.lst (ds.map .fr))) ε = some (false, ds, ε) := by
  simp only [fzL, Rv.fz, T.d, T.ds_fr, Option.bind_some]
theorem vc_lots : ∀ ts QD EXD, sp_lots ts QD EXD → g_lots (fnEnds [0, 1] ts QD) (fnX [0, 1] ts EXD) (startE ["board", "pressed", "found", "wire", "mark"] ts) := by
  rintro _ Q E ⟨n, js, ns, rfl, hB, hk, q⟩
  have hm := mk_Mk js ns
  have hpos : ∀ v, 0 ≤ v → 0 ≤ mk js ns v := fun v hv => mk_pos hB.jo hv
  unfold g_lots
  refine go_i ?_
  pv_eval
  refine cl_check_board hB ?_
  pv_eval
  refine cl_check_keys hB hk ?_
  pv_eval
  refine cl_marks hB (keySet_in hk) ?_
  generalize mk js ns = f at hm hpos q ⊢
  pv_eval
  refine goF_ind (fun i ε => i ≤ n.toNat ∧ ∃ x3 x4 : Option T, ε = [some (.fr (boardD n js)), some (.fr (tupI ns)), some (.dic ((roots i f).map D.int) ((roots i f).map fun r => T.fr (tupI (cls i f r)))), x3, x4]) ?_ ?_ ?_
  · exact ⟨by omega, none, none, rfl⟩
  · rintro ε' ⟨hi, x3, x4, rfl⟩
    rw [enD_len, fD_len]
    pv_eval
    rw [head_ints]
    pv_eval
    have e : (List.map (fun r => T.fr (tupI (cls n.toNat f r))) (roots n.toNat f)) = (lotsD n.toNat f).map .fr := by simp [lotsD, lotsOf, Function.comp_def]
    rw [e, dsFr_map]
    pv_eval
    exact q
  · rintro i d ε' N hd ⟨hi, x3, x4, rfl⟩ hN
    have hl : i < n.toNat := by
      have := (List.getElem?_eq_some_iff.mp hd).1
      rwa [enD_len, fD_len] at this
    have e0 : d = .tup [.int (i : Nat), .int (f (i : Nat))] := by
      rw [enD_get (d := .int (f (i : Nat)))] at hd
      · exact (Option.some.inj hd).symm
      · simp [fD, hl]
    subst e0
    refine ⟨_, rfl, ?_⟩
    have key : ∀ (x3 x4 : Option T) (K : DL.D), K = tupI ((if f i ∈ roots i f then cls i f (f i) else []) ++ [(i : Int)]) → N [some (.fr (boardD n js)), some (.fr (tupI ns)), some (T.dic (putKs ((roots i f).map D.int) ((roots i f).map fun r => T.fr (tupI (cls i f r))) (.inl (f i)) K).1 (putKs ((roots i f).map D.int) ((roots i f).map fun r => T.fr (tupI (cls i f r))) (.inl (f i)) K).2), x3, x4] := by
      intro x3 x4 K hK
      subst hK
      rw [put_lots hm hpos]
      exact hN _ ⟨by omega, x3, x4, rfl⟩
    pv_eval
    rw [head_ints]
    pv_eval
    have hr : (roots i f).length ≤ 1000 := by
      have := hB.n2
      have h2 := pw_len (lo := 0) (hi := i) (roots_pw (n := i) (f := f)) fun k hk => by have := roots_mem.mp hk; omega
      omega
    have hc : (cls i f (f i)).length ≤ 1000 := by
      have := hB.n2
      have h2 := pw_len (lo := 0) (hi := i) (cls_pw (n := i) (f := f) (r := f i)) fun k hk => by have := cls_mem.mp hk; omega
      omega
    by_cases h : f i ∈ roots i f
    · obtain ⟨j, hj, ej⟩ := List.getElem_of_mem h
      have ex : ∃ j', (roots i f).findIdx? (fun m => decide (m = f i)) = some j' ∧ (roots i f)[j']? = some (f i) := by
        cases e : (roots i f).findIdx? (fun m => decide (m = f i)) with
        | none =>
          rw [List.findIdx?_eq_none_iff] at e
          have := e _ h
          simp at this
        | some j' =>
          refine ⟨j', rfl, ?_⟩
          have := List.findIdx?_eq_some_iff_getElem.mp e
          obtain ⟨h1, h2, _⟩ := this
          rw [List.getElem?_eq_getElem h1]
          simpa using h2
      obtain ⟨j', e1, e2⟩ := ex
      refine dgK_some (by rw [ixK_ints, e1]) (d := tupI (cls i f (f i))) (by rw [List.getElem?_map, e2]; rfl) ?_
      unfold tupI
      pv_eval
      rw [head_ints]
      pv_eval
      refine ⟨by rw [List.length_map]; omega, by rw [List.length_map]; omega, ?_⟩
      refine key _ _ _ ?_
      rw [if_pos h]
      simp [tupI]
    · have e : (roots i f).findIdx? (fun m => decide (m = f i)) = none := by
        rw [List.findIdx?_eq_none_iff]
        intro x hx
        rw [decide_eq_false_iff_not]
        rintro rfl
        exact h hx
      refine dgK_none (by rw [ixK_ints, e]) ?_
      pv_eval
      rw [head_ints]
      pv_eval
      refine ⟨by rw [List.length_map]; omega, ?_⟩
      refine key _ _ _ ?_
      rw [if_neg h]
      rfl
theorem cl_lots {n : Int} {js : List (Int × Int)} {ns : List Int} (h : Brd n js) (hk : keySet ns (js.length - 1)) {Q : T → List T → Prop} {E : Ex → List T → Prop} (q : Q (.lst ((lotsD n.toNat (mk js ns)).map .fr)) [.fr (boardD n js), .fr (tupI ns)]) : calls sp_lots [.fr (boardD n js), .fr (tupI ns)] Q E :=
  ⟨n, js, ns, rfl, h, hk, q⟩
end GL

namespace GL
open PySem PySem.Spec L2 DL
/-- a reading is followed as far as it goes -/
local macro_rules | `(tactic| pv_eval) => `(tactic| simp -dsimp only [e_tVr, e_tK, e_tV1, e_tV2, e_tTs, e_tN, e_tAn, e_tOn, e_tAv, e_tOv, e_tNv, e_tIf1, e_tCh, e_tA0, e_tA1, e_tTp, e_tLs, e_tLf, e_tDc0, e_tVL, e_tIsi, e_tLi, e_tTu, e_tAd, e_tMu, e_tSc, e_tO0, e_tO1, e_tIx, e_tCl, e_tClK, e_tClF, e_tClKF, onlyD, e_tRev, rvK_l, rvK_t, e_tLenSet, e_tSoA, e_tIsi2, e_tAS, seqK_t, seqK_l, e_tClS, List.take_succ_cons, List.take_zero, List.drop_succ_cons, List.drop_zero, intsQ_l, intsQ_t, e_tApp, e_tExt, e_tItL, e_tItT, e_tIt1, e_tIt2, e_tYs, goL_nil, goF_nil, go2_nil, e_tLcD, e_tLcD2, e_sNx, e_sSq, e_sNever, e_sEx, e_sRt, e_sRtN, e_sIf, e_sAs, e_sUn, e_sFor, e_sForP, sqK_t, sqK_f, sqK_l, Option.map_some, e_sPr, e_sSt, fe_nx, fe_rt, fe_x, oM_s, oM_n, iB_t, iB_f, oB_b, zB_b, oI_i, oL_1, dL_l, dT_t, sL_l, isAt_a, r2_I, r2_Ic, r2_N, r2_nN, r2_nB, r2_Eq, r2_Ne, r2_InL, r2_InFl, r2_InFt, r1_Neg, rL_lenS, rL_lenL, rL_lenT, rL_lenC, rL_abs, rL_max, rL_min, rL_intI, rL_intB, rL_str, rL_all, rL_any, rL_rep, o2I_i, vr_f, vr_l, vr_d, vr_o, ixE_f, ixE_la, ixE_lo, ixT_t, ixT_l, ixT_c', ixT_s, ixT_o, addK_i, addK_s, addK_l, addK_t, mulK_i, mulK_l, slK_l, slK_t, slK_s, rtK_d, rtK_o, rtK_a, rtK_p, asK_d, asK_o, asK_a, pd_d, pd_o, pd_a, pd_p, at00, at01, at02, ixN_30, ixN_31, ixN_32, ixN_20, ixN_21, ixN_S0, at_S0, e_tItE, e_tItZ, e_tLr, e_tSo, e_tDg2, e_sDp, o2_2, e_tLVals, e_tSSet, sTu_t, dsFr, dsFr_map,
  Rv.vw, Rv.tr, Rv.sq, Rv.fz, T.get, T.kid, T.set, T.setKid, T.d, T.ds, T.rv, T.frO, D.sq, Sq.its, flatT, vws, owns, takeT, giveT, DL.lstAt, DL.putAt, pickL, Pat.bind, Pat.binds, wipeE, unwipe, setAll, startE, parsFrom, at_0, at_S, set_0, set_S, List.map_cons, List.map_nil, List.length_cons, List.length_nil, List.replicate, List.cons_append, List.nil_append, List.append_nil, List.filterMap_cons, List.filterMap_nil, List.getElem?_cons_zero, List.getElem?_cons_succ, Option.map_some, Option.bind_some, Option.isSome_some, and_true, true_and, List.mem_cons, List.mem_singleton, List.not_mem_nil, or_false, false_or, or_true, true_or, if_true, if_false, Nat.zero_add, Nat.add_zero, Nat.reduceAdd, Nat.reduceSub, Nat.reduceEqDiff, reduceCtorEq, true_implies, false_implies, implies_true, false_and, and_false, not_true_eq_false, not_false_eq_true, Bool.true_eq_false, eqC_ii, eqC_ss, eqv_ii, eqv_ss, D.isN, isK, D.ty, Bool.not_true, Bool.not_false, decide_eq_true_eq, Bool.false_eq_true, eq_self, Bool.or_false, Bool.false_or, ite_true, ite_false, and_self, decide_true, decide_false, T.ds_fr, T.ds_map, Int.cast_ofNat_Int, blsD, blsD_f, List.all_cons, List.all_nil, List.any_cons, List.any_nil, id_eq, Bool.and_true, sizeLine_eq, List.isEmpty_nil, List.isEmpty_cons, eqv_l0, eqv_t0, Nat.reduceLeDiff, Nat.reduceLT, Int.reduceLE, Int.reduceLT, Int.reduceEq, Nat.reducePow, flatT_fr, Int.zero_add, fzL, zpItems, intsD, intsD_map, dicAt, keyAt, ownDic, putDic,
  kit_NoneType_int, kit_NoneType_bool, kit_NoneType_tuple, kit_NoneType_list, kit_NoneType_str, kit_NoneType_dict, kit_bool_int, kit_bool_bool, kit_bool_tuple, kit_bool_list, kit_bool_str, kit_bool_dict, kit_int_int, kit_int_bool, kit_int_tuple, kit_int_list, kit_int_str, kit_int_dict, kit_str_int, kit_str_bool, kit_str_tuple, kit_str_list, kit_str_str, kit_str_dict, kit_tuple_int, kit_tuple_bool, kit_tuple_tuple, kit_tuple_list, kit_tuple_str, kit_tuple_dict, kit_list_int, kit_list_bool, kit_list_tuple, kit_list_list, kit_list_str, kit_list_dict, kit_dict_int, kit_dict_bool, kit_dict_tuple, kit_dict_list, kit_dict_str, kit_dict_dict])
/-! ### the laws' own lots -/
theorem fD_set {n : Int} {f : Int → Int} {u x : Int} (h : 0 ≤ u) (h2 : u < n) : ((fD n f).map T.fr).set u.toNat (.fr (.int x)) = (fD n (fun v => if v = u then x else f v)).map T.fr := by
  refine List.ext_getElem? fun i => ?_
  rw [List.getElem?_set]
  have hl : ((fD n f).map T.fr).length = n.toNat := by simp [fD]
  by_cases e : u.toNat = i
  · subst e
    rw [if_pos rfl, if_pos (by rw [hl]; omega), fD_G h h2, if_pos rfl]
  · rw [if_neg e]
    simp only [fD, List.getElem?_map]
    by_cases hi : i < n.toNat
    · rw [List.getElem?_range hi]
      simp only [Option.map_some]
      rw [if_neg (by omega)]
    · rw [List.getElem?_eq_none (by simp; omega)]
      rfl
theorem fD_congr {n : Int} {f g : Int → Int} (h : ∀ v, 0 ≤ v → v < n → f v = g v) : fD n f = fD n g := by
  unfold fD
  refine List.map_congr_left fun i hi => ?_
  have := List.mem_range.mp hi
  rw [h i (by omega) (by omega)]
theorem in_ints {ms : List Int} {k : Int} : (ms.map D.int).any (fun d => d.eqv (.int k)) = decide (k ∈ ms) := by
  rw [List.any_map]
  refine Bool.eq_iff_iff.mpr ?_
  simp [eqv_ii]
theorem all_flat {ms : List Int} : (ms.map D.int).all D.flat = true := by
  rw [List.all_map]
  exact List.all_eq_true.mpr fun _ _ => rfl
theorem app_i {lot : List Int} {b : Int} : (lot.map D.int).map T.fr ++ [T.fr (D.int b)] = ((lot ++ [b]).map D.int).map T.fr := by simp
def sp_law_lots : SpD := fun ts Q _ => ∃ (n : Int) (js : List (Int × Int)) (ns : List Int), ts = [.fr (boardD n js), .fr (tupI ns)] ∧ Brd n js ∧ keySet ns (js.length - 1) ∧ Q (.lst ((lotsD n.toNat (mk js ns)).map .fr)) ts
theorem ln_law_lots : ∀ ts Q E, sp_law_lots ts Q E → ts.length = 2 := by rintro _ Q E ⟨v, n, m, rfl, _⟩; rfl
def g_law_lots : ST' := (sSq (sPr [2, 3] (tA1 false (tLs tA0) (tA1 false (tLr (tIx false (tVr 0) (tK (.int 0)))) tA0)))
  (sSq (sWh (tTs (tV2 RNe false (tVr 3) (tLs tA0))) (sSq (sPr [4, 5] (tA1 false (tLs (tA1 false (tIx false (tVr 3) (tK (.int 0))) tA0)) (tA1 false (tK (.int 0)) tA0)))
  (sSq (sWh (tTs (tV2 RLt false (tVr 5) (tVL RLen (tA1 false (tVr 4) tA0)))) (sSq (sFor (tItL (tLcD (tItT (tVr 1)) (.nm 8) [8] tYs (tIx false (tIx false (tVr 0) (tK (.int 1))) (tVr 8)))) (.tp [.nm 6, .nm 7]) (sSq (sAs 9 (tIf' (tTs (tV2 REq false (tVr 6) (tIx false (tVr 4) (tVr 5)))) (tVr 7) (tIf' (tTs (tV2 REq false (tVr 7) (tIx false (tVr 4) (tVr 5)))) (tVr 6) (tIx false (tVr 4) (tVr 5)))))
  (sIf (tTs (tV2 (RInF true) false (tVr 9) (tVr 4))) (sEx (tApp false (tVr 4) (tVr 9))) sNx)))
  (sAs 5 (tAd false (tVr 5) (tK (.int 1))))))
  (sSq (sEx (tApp false (tVr 2) (tTu (tA1 false (tSoA (tA1 false (tVr 4) tA0)) tA0))))
  (sAs 3 (tLcD (tItL (tVr 3)) (.nm 10) [10] (tTs (tV2 (RInF true) false (tVr 10) (tVr 4))) (tVr 10)))))))
  (sRt (tVr 2))))

theorem rg_left {n : Nat} {f : Int → Int} (hp : ∀ v, 0 ≤ v → 0 ≤ f v) : rgD 0 n = (leftF n f 0).map D.int := by
  rw [left_zero hp]
  simp [rgD]
def jAt (js : List (Int × Int)) (d : DL.D) : DL.D := match d with
  | .int k => ((js.map jointD)[k.toNat]?).getD .non
  | _ => .non
theorem jAt_i {js : List (Int × Int)} {k : Int} {p : Int × Int} (h : js[k.toNat]? = some p) : jAt js (.int k) = jointD p := by
  simp [jAt, h]
theorem pairs_of {js : List (Int × Int)} {ns : List Int} (h : KeysIn js ns) : (ns.map D.int).map (fun d => jAt js d) = (pick js ns).map jointD := by
  induction ns with
  | nil => rfl
  | cons k ns ih =>
    have hk := h k (by simp)
    have e : js[k.toNat]? = some js[k.toNat] := List.getElem?_eq_getElem (by omega)
    have ih := ih fun x hx => h x (by simp [hx])
    simp only [List.map_cons, pick, List.filterMap_cons, e]
    simp only [pick] at ih
    rw [ih, jAt_i e]
theorem vc_law_lots : ∀ ts QD EXD, sp_law_lots ts QD EXD → g_law_lots (fnEnds [0, 1] ts QD) (fnX [0, 1] ts EXD) (startE ["_law_frame_here", "_law_down_here", "_law_found", "_law_left", "_law_lot", "_law_at", "_law_one", "_law_other", "_law_one_key", "_law_near", "_law_wire"] ts) := by
  rintro _ Q E ⟨n, js, ns, rfl, hB, hk, q⟩
  have hm := mk_Mk js ns
  have hpos : ∀ v, 0 ≤ v → 0 ≤ mk js ns v := fun v hv => mk_pos hB.jo hv
  have hki := keySet_in hk
  have hJ := pick_joints (ns := ns) hB.jo
  have hpk := pairs_of hki
  have hns : ns.length ≤ 1000 := Nat.le_trans (keySet_len hk) hB.l2
  have hn1 := hB.n1
  have hn2 := hB.n2
  unfold g_law_lots
  refine go_i ?_
  generalize mk js ns = f at hm hpos q ⊢
  unfold boardD tupI at q ⊢
  pv_eval
  refine ⟨⟨by omega, by omega⟩, ?_⟩
  rw [rg_left hpos]
  refine sWh_ind (fun m ε => ∃ (m0 : Int) (x4 x5 x6 x7 x8 x9 x10 : Option T), m = (leftF n.toNat f m0).length ∧ ε = [some (.fr (.tup [.int n, .tup (js.map jointD)])), some (.fr (.tup (ns.map .int))), some (.lst (((rootsLt n.toNat f m0).map fun r => tupI (cls n.toNat f r)).map .fr)), some (.lst (((leftF n.toNat f m0).map .int).map .fr)), x4, x5, x6, x7, x8, x9, x10]) _ ⟨0, none, none, none, none, none, none, none, rfl, ?_⟩ ?_
  · rw [rootsLt_zero]
    rfl
  rintro m ε' N ⟨m0, x4, x5, x6, x7, x8, x9, x10, rfl, rfl⟩ hN
  pv_eval
  cases hl : leftF n.toNat f m0 with
  | nil =>
    pv_eval
    refine ⟨eqC_nc (k := 1) (l := 1) (by rfl) (by rfl) (by rfl) (by rfl), ?_⟩
    rw [rootsLt_all hl]
    have e : (roots n.toNat f).map (fun r => tupI (cls n.toNat f r)) = lotsD n.toNat f := by simp [lotsD, lotsOf, Function.comp_def]
    rw [e]
    exact q
  | cons x r =>
    obtain ⟨h0, h1, h2, h3, h4⟩ := left_head hm hpos hl
    pv_eval
    refine ⟨eqC_nc (k := 1) (l := 1) ?_ ?_ (by rfl) (by rfl), sWh_ind (fun k ε => ∃ (lot : List Int) (at' : Nat) (x6 x7 x8 x9 : Option T), k = n.toNat - at' ∧ ε = [some (.fr (.tup [.int n, .tup (js.map jointD)])), some (.fr (.tup (ns.map .int))), some (.lst (((rootsLt n.toNat f m0).map fun r => tupI (cls n.toNat f r)).map .fr)), some (.lst (((x :: r).map .int).map .fr)),
      some (.lst ((lot.map .int).map .fr)), some (.fr (.int at')), x6, x7, x8, x9, x10] ∧ Spr (pick js ns) f n.toNat x lot at' ∧ at' ≤ lot.length) _ ⟨[x], 0, x6, x7, x8, x9, rfl, rfl, .start h0 h1 h2, by simp⟩ ?_⟩
    · refine nc_tupI (ns := x :: r) fun i hi => p200 ?_
      rw [← hl] at hi
      have := leftF_mem.mp hi
      omega
    · exact nd_tupI (ns := x :: r)
    rintro k ε' N' ⟨lot, at', x6, x7, x8, x9, rfl, rfl, hS, hat⟩ hN'
    have hll := hS.len
    pv_eval
    refine iB_i (fun h => ?_) (fun h => ?_)
    · have h : (at' : Int) < lot.length := by simpa using of_decide_eq_true h
      have hu : ∃ u, lot[at']? = some u := ⟨lot[at'], List.getElem?_eq_getElem (by omega)⟩
      obtain ⟨u, hu⟩ := hu
      have hiu := hS.inn u (List.mem_of_getElem? hu)
      pv_eval
      refine ⟨by rw [List.length_map]; omega, ?_⟩
      refine goL_pure (jAt js) (fun d hd => ?_) ?_
      · obtain ⟨k, hk2, rfl⟩ := List.mem_map.mp hd
        have hkb := hki k hk2
        have e : js[k.toNat]? = some js[k.toNat] := List.getElem?_eq_getElem (by omega)
        refine ⟨_, rfl, rfl, fun Q q => ?_⟩
        pv_eval
        refine oM_i (a := jointD js[k.toNat]) ?_ ?_
        · rw [DL.atI_nat hkb.1 (by rw [List.length_map]; omega), List.getElem?_map, e]
          rfl
        · rw [jAt_i e] at q
          exact q
      pv_eval
      rw [hpk]
      refine goF_ind (fun i ε => ∃ (lot : List Int) (x6 x7 x8 x9 : Option T), ε = [some (.fr (.tup [.int n, .tup (js.map jointD)])), some (.fr (.tup (ns.map .int))), some (.lst (((rootsLt n.toNat f m0).map fun r => tupI (cls n.toNat f r)).map .fr)), some (.lst (((x :: r).map .int).map .fr)),
        some (.lst ((lot.map .int).map .fr)), some (.fr (.int at')), x6, x7, x8, x9, x10] ∧ Spr (pick js ns) f n.toNat x lot at' ∧ at' < lot.length ∧ lot[at']? = some u ∧ ∀ p ∈ (pick js ns).take i, (p.1 = u → p.2 ∈ lot) ∧ (p.2 = u → p.1 ∈ lot)) ?_ ?_ ?_
      · exact ⟨lot, _, _, _, _, rfl, hS, by omega, hu, by simp⟩
      · rintro ε' ⟨lot, x6, x7, x8, x9, rfl, hS, hat, hu, hp⟩
        rw [List.length_map, List.take_length] at hp
        have hll := hS.len
        pv_eval
        refine hN' (n.toNat - (at' + 1)) _ (by omega) ⟨lot, at' + 1, x6, x7, x8, x9, rfl, ?_, hS.next hu hp, by omega⟩
        rfl
      · rintro i d ε' N hi ⟨lot, x6, x7, x8, x9, rfl, hS, hat, hu, hp⟩ hN
        have hll := hS.len
        have hpi := hi
        rw [List.getElem?_map, Option.map_eq_some_iff] at hpi
        obtain ⟨⟨a, b⟩, hab, rfl⟩ := hpi
        have hmem := List.mem_of_getElem? hab
        have hj := hJ _ hmem
        have hon : f a = f b := hm.on _ hmem
        have hiu := hS.inn u (List.mem_of_getElem? hu)
        simp only at hj
        have ix : ixN ((lot.map DL.D.int).map T.fr).length (at' : Int) = some at' := by
          unfold ixN
          rw [List.length_map, List.length_map, if_pos (by omega), if_pos (by omega)]
          rfl
        have gt : ((lot.map DL.D.int).map T.fr)[at']? = some (.fr (.int u)) := by simp [hu]
        have fin : ∀ (y : Int) (x6 x7 x8 x9 : Option T), (y ∉ lot → f y = x ∧ 0 ≤ y ∧ y < n) → ((a = u → b = y) ∧ (b = u → a = y)) → (y ∉ lot → N [some (.fr (.tup [.int n, .tup (js.map jointD)])), some (.fr (.tup (ns.map .int))), some (.lst (((rootsLt n.toNat f m0).map fun r => tupI (cls n.toNat f r)).map .fr)), some (.lst (((x :: r).map .int).map .fr)),
              some (.lst (((lot ++ [y]).map .int).map .fr)), some (.fr (.int at')), x6, x7, x8, x9, x10]) ∧ (y ∈ lot → N [some (.fr (.tup [.int n, .tup (js.map jointD)])), some (.fr (.tup (ns.map .int))), some (.lst (((rootsLt n.toNat f m0).map fun r => tupI (cls n.toNat f r)).map .fr)), some (.lst (((x :: r).map .int).map .fr)),
              some (.lst ((lot.map .int).map .fr)), some (.fr (.int at')), x6, x7, x8, x9, x10]) := by
          intro y x6 x7 x8 x9 hy1 hy2
          have tk : (pick js ns).take (i + 1) = (pick js ns).take i ++ [(a, b)] := by rw [List.take_add_one, hab]; rfl
          refine ⟨fun hy => hN _ ⟨lot ++ [y], x6, x7, x8, x9, rfl, hS.add (by omega) hy ?_, ?_, ?_, ?_⟩, fun hy => hN _ ⟨lot, x6, x7, x8, x9, rfl, hS, hat, hu, ?_⟩⟩
          · have := hy1 hy; omega
          · simp; omega
          · rw [List.getElem?_append_left hat, hu]
          · intro p hpp
            rw [tk, List.mem_append, List.mem_singleton] at hpp
            rcases hpp with hpp | rfl
            · have := hp p hpp
              exact ⟨fun e => by simp [this.1 e], fun e => by simp [this.2 e]⟩
            · exact ⟨fun e => by simp [hy2.1 e], fun e => by simp [hy2.2 e]⟩
          · intro p hpp
            rw [tk, List.mem_append, List.mem_singleton] at hpp
            rcases hpp with hpp | rfl
            · exact hp p hpp
            · exact ⟨fun e => by rw [hy2.1 e]; exact hy, fun e => by rw [hy2.2 e]; exact hy⟩
        refine ⟨_, rfl, ?_⟩
        pv_eval
        refine oM_i ix (oM_i gt ?_)
        pv_eval
        refine iB_i (fun e => ?_) (fun e => ?_)
        · have e : a = u := of_decide_eq_true e
          pv_eval
          rw [in_ints, all_flat]
          obtain ⟨f1, f2⟩ := fin b (some (.fr (.int a))) (some (.fr (.int b))) x8 (some (.fr (.int b))) (fun _ => ⟨by rw [← hon, e]; exact hiu.2.2, by omega, by omega⟩) ⟨fun _ => rfl, fun z => by omega⟩
          refine ⟨⟨rfl, rfl⟩, iB_i (fun z => ?_) (fun z => ?_)⟩
          · have z : b ∉ lot := by simpa using z
            pv_eval
            refine ⟨by simp only [List.length_map]; omega, ?_⟩
            rw [app_i]
            exact f1 z
          · have z : b ∈ lot := by simpa using z
            pv_eval
            exact f2 z
        · have e : a ≠ u := of_decide_eq_false e
          pv_eval
          refine oM_i ix (oM_i gt ?_)
          pv_eval
          refine iB_i (fun e2 => ?_) (fun e2 => ?_)
          · have e2 : b = u := of_decide_eq_true e2
            pv_eval
            rw [in_ints, all_flat]
            obtain ⟨f1, f2⟩ := fin a (some (.fr (.int a))) (some (.fr (.int b))) x8 (some (.fr (.int a))) (fun _ => ⟨by rw [hon, e2]; exact hiu.2.2, by omega, by omega⟩) ⟨fun z => absurd z e, fun _ => rfl⟩
            refine ⟨⟨rfl, rfl⟩, iB_i (fun z => ?_) (fun z => ?_)⟩
            · have z : a ∉ lot := by simpa using z
              pv_eval
              refine ⟨by simp only [List.length_map]; omega, ?_⟩
              rw [app_i]
              exact f1 z
            · have z : a ∈ lot := by simpa using z
              pv_eval
              exact f2 z
          · have e2 : b ≠ u := of_decide_eq_false e2
            pv_eval
            refine oM_i ix (oM_i gt ?_)
            pv_eval
            rw [in_ints, all_flat]
            obtain ⟨f1, f2⟩ := fin u (some (.fr (.int a))) (some (.fr (.int b))) x8 (some (.fr (.int u))) (fun z => absurd (List.mem_of_getElem? hu) z) ⟨fun z => absurd z e, fun z => absurd z e2⟩
            refine ⟨⟨rfl, rfl⟩, iB_i (fun z => ?_) (fun z => ?_)⟩
            · have z : u ∉ lot := by simpa using z
              exact absurd (List.mem_of_getElem? hu) z
            · pv_eval
              exact f2 (List.mem_of_getElem? hu)
    · have h : ¬ (at' : Int) < lot.length := by simpa using of_decide_eq_false h
      have e : at' = lot.length := by omega
      subst e
      pv_eval
      intro ms hp hs
      rw [hS.sorted hm hp hs]
      have hr1 : (rootsLt n.toNat f m0).length ≤ 1000 := by
        have h2 := pw_len (lo := 0) (hi := n) (roots_pw.filter _) (ns := rootsLt n.toNat f m0) fun k hk => by have := roots_mem.mp (List.mem_filter.mp hk).1; omega
        omega
      have hr2 : (leftF n.toNat f m0).length ≤ 1000 := by
        have h2 := pw_len (lo := 0) (hi := n) (leftF_pw (n := n.toNat) (f := f) (m := m0)) fun k hk => by have := leftF_mem.mp hk; omega
        omega
      have hr3 : r.length + 1 ≤ 1000 := by rw [hl] at hr2; simpa using hr2
      refine ⟨by rw [List.length_map, List.length_map]; omega, by rw [List.length_map]; omega, ?_⟩
      rw [← List.map_cons (f := D.int)]
      refine goL_filt (fun d => !(lot.map D.int).any fun e => e.eqv d) id (fun d hd => ?_) ?_
      · obtain ⟨w, hw, rfl⟩ := List.mem_map.mp hd
        refine ⟨_, rfl, rfl, fun Q q => ?_, fun Q _ q => ?_⟩
        · pv_eval
          rw [all_flat]
          exact ⟨⟨rfl, rfl⟩, q⟩
        · pv_eval
          exact q
      · pv_eval
        have e : (D.int x :: r.map D.int).filter (fun d => !(lot.map D.int).any fun e => e.eqv d) = (leftF n.toNat f (x + 1)).map D.int := by
          rw [← List.map_cons (f := D.int), ← left_next hm hpos hl, hl, List.filter_map]
          congr 1
          refine List.filter_congr fun w hw => ?_
          simp only [Function.comp_def, in_ints]
          have := hS.done hm (v := w)
          simp [this]
        rw [e]
        have e2 : List.map T.fr (List.map (fun r => tupI (cls n.toNat f r)) (rootsLt n.toNat f m0)) ++ [T.fr (D.tup (List.map D.int (cls n.toNat f x)))] = ((rootsLt n.toNat f (x + 1)).map fun r => tupI (cls n.toNat f r)).map .fr := by
          rw [rootsLt_next hm hpos hl]
          simp [tupI]
        rw [e2]
        exact hN _ _ (left_len hm hpos hl) ⟨x + 1, _, _, _, _, _, _, _, rfl, rfl⟩
theorem cl_law_lots {n : Int} {js : List (Int × Int)} {ns : List Int} (h : Brd n js) (hk : keySet ns (js.length - 1)) {Q : T → List T → Prop} {E : Ex → List T → Prop} (q : Q (.lst ((lotsD n.toNat (mk js ns)).map .fr)) [.fr (boardD n js), .fr (tupI ns)]) : calls sp_law_lots [.fr (boardD n js), .fr (tupI ns)] Q E :=
  ⟨n, js, ns, rfl, h, hk, q⟩
def sp_law_seen : SpD := fun ts Q _ => ∃ (n : Int) (js : List (Int × Int)) (ns : List Int), ts = [.fr (boardD n js), .fr (tupI ns)] ∧ Brd n js ∧ keySet ns (js.length - 1) ∧ Q (.fr (tupI (shown js ns))) ts
theorem ln_law_seen : ∀ ts Q E, sp_law_seen ts Q E → ts.length = 2 := by rintro _ Q E ⟨v, n, m, rfl, _⟩; rfl
def g_law_seen : ST' := (sSq (sAs 2 (tMu false (tLs (tA1 false (tK (.int 0)) tA0)) (tIx false (tVr 0) (tK (.int 0)))))
  (sSq (sFor (tItL (tCl sp_law_lots (tA1 false (tVr 0) (tA1 false (tVr 1) tA0)))) (.nm 3) (sFor (tItT (tVr 3)) (.nm 4) (sSt false (tVr 2) (tVr 4) (tIx false (tVr 3) (tK (.int 0))))))
  (sRt (tTu (tA1 false (tLcD (tItE (tA1 false (tIx false (tVr 0) (tK (.int 1))) tA0)) (.tp [.nm 5, .nm 6]) [5, 6] (tTs (tV2 REq false (tIx false (tVr 2) (tIx false (tVr 6) (tK (.int 0)))) (tIx false (tVr 2) (tIx false (tVr 6) (tK (.int 1)))))) (tVr 5)) tA0)))))

def zeroTo (g f : Int → Int) (xs : List Int) : Int → Int := fun v => if f v ∈ xs then f v else g v
theorem zeros {n : Int} : (List.replicate n.toNat [DL.D.int 0]).flatten.map T.fr = (fD n fun _ => 0).map T.fr := by
  congr 1
  refine List.ext_getElem? fun i => ?_
  unfold fD
  have : (List.replicate n.toNat [DL.D.int 0]).flatten = List.replicate n.toNat (DL.D.int 0) := by
    induction n.toNat with
    | zero => rfl
    | succ k ih => rw [List.replicate_succ, List.flatten_cons, ih]; rfl
  rw [this, List.getElem?_replicate, List.getElem?_map]
  by_cases h : i < n.toNat
  · rw [if_pos h, List.getElem?_range h]; rfl
  · rw [if_neg h, List.getElem?_eq_none (by simp; omega)]; rfl
theorem vc_law_seen : ∀ ts QD EXD, sp_law_seen ts QD EXD → g_law_seen (fnEnds [0, 1] ts QD) (fnX [0, 1] ts EXD) (startE ["_law_frame_here", "_law_down_here", "_law_mark_of", "_law_lot", "_law_wire", "_law_one_key", "_law_joint"] ts) := by
  rintro _ Q E ⟨n, js, ns, rfl, hB, hk, q⟩
  have hm := mk_Mk js ns
  have hpos : ∀ v, 0 ≤ v → 0 ≤ mk js ns v := fun v hv => mk_pos hB.jo hv
  have hn1 := hB.n1
  have hn2 := hB.n2
  unfold g_law_seen
  refine go_i ?_
  conv => enter [5]; unfold boardD
  unfold boardD
  pv_eval
  refine ⟨by omega, by omega, by simp; omega, ?_⟩
  rw [zeros]
  refine cl_law_lots hB hk ?_
  unfold shown at q
  generalize mk js ns = f at hm hpos q ⊢
  pv_eval
  have hlots : lotsD n.toNat f = (roots n.toNat f).map fun r => tupI (cls n.toNat f r) := by simp [lotsD, lotsOf, Function.comp_def]
  rw [hlots]
  refine goF_ind (fun i ε => ∃ (g : Int → Int) (x3 x4 x5 x6 : Option T), ε = [some (.fr (.tup [.int n, .tup (js.map jointD)])), some (.fr (tupI ns)), some (.lst ((fD n g).map .fr)), x3, x4, x5, x6] ∧ ∀ v, 0 ≤ v → v < n → f v ∈ (roots n.toNat f).take i → g v = f v) ?_ ?_ ?_
  · exact ⟨fun _ => 0, none, none, none, none, rfl, fun v _ _ h => by simp at h⟩
  · rintro ε' ⟨g, x3, x4, x5, x6, rfl, hg⟩
    rw [List.length_map, List.take_length] at hg
    have e : fD n g = fD n f := fD_congr fun v h0 h1 => hg v h0 h1 (roots_mem.mpr ⟨hpos v h0, by have := hm.low v; omega, hm.idem v⟩)
    rw [e]
    pv_eval
    refine ⟨by have := hB.l2; rw [enD_len, List.length_map]; omega, ?_⟩
    refine goL_filt (tiedD f) fstD (fun d hd => ?_) ?_
    · obtain ⟨i, p, hp, rfl⟩ := en_joints hd
      have hj := hB.jo p (List.mem_of_getElem? hp)
      refine ⟨_, rfl, rfl, fun Q q => ?_, fun Q _ q => ?_⟩
      · pv_eval
        refine oM_i (fD_N (by omega) (by omega)) (oM_i (fD_G (by omega) (by omega)) ?_)
        pv_eval
        refine oM_i (fD_N (by omega) (by omega)) (oM_i (fD_G (by omega) (by omega)) ?_)
        pv_eval
        exact q
      · pv_eval
        exact q
    · pv_eval
      rw [en_shown]
      exact q
  · rintro i d ε' N hd ⟨g, x3, x4, x5, x6, rfl, hg⟩ hN
    rw [List.getElem?_map, Option.map_eq_some_iff] at hd
    obtain ⟨r, hr, rfl⟩ := hd
    have hrr := roots_mem.mp (List.mem_of_getElem? hr)
    refine ⟨_, rfl, ?_⟩
    unfold tupI
    pv_eval
    obtain ⟨t, ht⟩ := cls_head hm hrr.1 hrr.2.1 hrr.2.2
    refine goF_ind (fun j ε => ∃ (g2 : Int → Int) (x4 x5 x6 : Option T), ε = [some (.fr (.tup [.int n, .tup (js.map jointD)])), some (.fr (.tup (ns.map .int))), some (.lst ((fD n g2).map .fr)), some (.fr (.tup ((cls n.toNat f r).map .int))), x4, x5, x6] ∧ ∀ v, 0 ≤ v → v < n → f v ∈ (roots n.toNat f).take i ∨ v ∈ (cls n.toNat f r).take j → g2 v = f v) ?_ ?_ ?_
    · exact ⟨g, _, _, _, rfl, fun v h0 h1 h => by
        rcases h with h | h
        · exact hg v h0 h1 h
        · simp at h⟩
    · rintro ε' ⟨g2, x4, x5, x6, rfl, hg2⟩
      rw [List.length_map, List.take_length] at hg2
      refine hN _ ⟨g2, _, _, _, _, rfl, fun v h0 h1 h => hg2 v h0 h1 ?_⟩
      rw [List.take_add_one, hr] at h
      rcases List.mem_append.mp h with h | h
      · exact .inl h
      · have e : f v = r := by simpa using h
        exact .inr (cls_mem.mpr ⟨h0, by omega, e⟩)
    · rintro j d ε' N2 hd ⟨g2, x4, x5, x6, rfl, hg2⟩ hN2
      rw [List.getElem?_map, Option.map_eq_some_iff] at hd
      obtain ⟨u, hu, rfl⟩ := hd
      have hc := cls_mem.mp (List.mem_of_getElem? hu)
      refine ⟨_, rfl, ?_⟩
      have e0 : atI ((cls n.toNat f r).map DL.D.int) 0 = some (.int r) := by rw [ht]; exact at_S0
      pv_eval
      rw [e0]
      pv_eval
      refine oM_i (fD_N (by omega) (by omega)) ?_
      pv_eval
      rw [fD_set (by omega) (by omega)]
      refine hN2 _ ⟨_, _, _, _, rfl, fun v h0 h1 h => ?_⟩
      by_cases e : v = u
      · subst e
        simp only [if_true]
        omega
      · simp only [e, if_false]
        refine hg2 v h0 h1 ?_
        rcases h with h | h
        · exact .inl h
        · rw [List.take_add_one, hu] at h
          rcases List.mem_append.mp h with h | h
          · exact .inr h
          · exact absurd (by simpa using h) e
theorem cl_law_seen {n : Int} {js : List (Int × Int)} {ns : List Int} (h : Brd n js) (hk : keySet ns (js.length - 1)) {Q : T → List T → Prop} {E : Ex → List T → Prop} (q : Q (.fr (tupI (shown js ns))) [.fr (boardD n js), .fr (tupI ns)]) : calls sp_law_seen [.fr (boardD n js), .fr (tupI ns)] Q E :=
  ⟨n, js, ns, rfl, h, hk, q⟩
end GL

namespace GL
open PySem PySem.Spec L2 DL
/-- a reading is followed as far as it goes -/
local macro_rules | `(tactic| pv_eval) => `(tactic| simp -dsimp only [e_tVr, e_tK, e_tV1, e_tV2, e_tTs, e_tN, e_tAn, e_tOn, e_tAv, e_tOv, e_tNv, e_tIf1, e_tCh, e_tA0, e_tA1, e_tTp, e_tLs, e_tLf, e_tDc0, e_tVL, e_tIsi, e_tLi, e_tTu, e_tAd, e_tMu, e_tSc, e_tO0, e_tO1, e_tIx, e_tCl, e_tClK, e_tClF, e_tClKF, onlyD, e_tRev, rvK_l, rvK_t, e_tLenSet, e_tSoA, e_tIsi2, e_tAS, seqK_t, seqK_l, e_tClS, List.take_succ_cons, List.take_zero, List.drop_succ_cons, List.drop_zero, intsQ_l, intsQ_t, e_tApp, e_tExt, e_tItL, e_tItT, e_tIt1, e_tIt2, e_tYs, goL_nil, goF_nil, go2_nil, e_tLcD, e_tLcD2, e_sNx, e_sSq, e_sNever, e_sEx, e_sRt, e_sRtN, e_sIf, e_sAs, e_sUn, e_sFor, e_sForP, sqK_t, sqK_f, sqK_l, Option.map_some, e_sPr, e_sSt, fe_nx, fe_rt, fe_x, oM_s, oM_n, iB_t, iB_f, oB_b, zB_b, oI_i, oL_1, dL_l, dT_t, sL_l, isAt_a, r2_I, r2_Ic, r2_N, r2_nN, r2_nB, r2_Eq, r2_Ne, r2_InL, r2_InFl, r2_InFt, r1_Neg, rL_lenS, rL_lenL, rL_lenT, rL_lenC, rL_abs, rL_max, rL_min, rL_intI, rL_intB, rL_str, rL_all, rL_any, rL_rep, o2I_i, vr_f, vr_l, vr_d, vr_o, ixE_f, ixE_la, ixE_lo, ixT_t, ixT_l, ixT_c', ixT_s, ixT_o, addK_i, addK_s, addK_l, addK_t, mulK_i, mulK_l, slK_l, slK_t, slK_s, rtK_d, rtK_o, rtK_a, rtK_p, asK_d, asK_o, asK_a, pd_d, pd_o, pd_a, pd_p, at00, at01, at02, ixN_30, ixN_31, ixN_32, ixN_20, ixN_21, ixN_S0, at_S0, e_tItE, e_tItZ, e_tLr, e_tSo, e_tDg2, e_sDp, o2_2, e_tLVals, e_tSSet, sTu_t, dsFr, dsFr_map,
  Rv.vw, Rv.tr, Rv.sq, Rv.fz, T.get, T.kid, T.set, T.setKid, T.d, T.ds, T.rv, T.frO, D.sq, Sq.its, flatT, vws, owns, takeT, giveT, DL.lstAt, DL.putAt, pickL, Pat.bind, Pat.binds, wipeE, unwipe, setAll, startE, parsFrom, at_0, at_S, set_0, set_S, List.map_cons, List.map_nil, List.length_cons, List.length_nil, List.replicate, List.cons_append, List.nil_append, List.append_nil, List.filterMap_cons, List.filterMap_nil, List.getElem?_cons_zero, List.getElem?_cons_succ, Option.map_some, Option.bind_some, Option.isSome_some, and_true, true_and, List.mem_cons, List.mem_singleton, List.not_mem_nil, or_false, false_or, or_true, true_or, if_true, if_false, Nat.zero_add, Nat.add_zero, Nat.reduceAdd, Nat.reduceSub, Nat.reduceEqDiff, reduceCtorEq, true_implies, false_implies, implies_true, false_and, and_false, not_true_eq_false, not_false_eq_true, Bool.true_eq_false, eqC_ii, eqC_ss, eqv_ii, eqv_ss, D.isN, isK, D.ty, Bool.not_true, Bool.not_false, decide_eq_true_eq, Bool.false_eq_true, eq_self, Bool.or_false, Bool.false_or, ite_true, ite_false, and_self, decide_true, decide_false, T.ds_fr, T.ds_map, Int.cast_ofNat_Int, blsD, blsD_f, List.all_cons, List.all_nil, List.any_cons, List.any_nil, id_eq, Bool.and_true, sizeLine_eq, List.isEmpty_nil, List.isEmpty_cons, eqv_l0, eqv_t0, Nat.reduceLeDiff, Nat.reduceLT, Int.reduceLE, Int.reduceLT, Int.reduceEq, Nat.reducePow, flatT_fr, Int.zero_add, fzL, zpItems, intsD, intsD_map, dicAt, keyAt, ownDic, putDic,
  kit_NoneType_int, kit_NoneType_bool, kit_NoneType_tuple, kit_NoneType_list, kit_NoneType_str, kit_NoneType_dict, kit_bool_int, kit_bool_bool, kit_bool_tuple, kit_bool_list, kit_bool_str, kit_bool_dict, kit_int_int, kit_int_bool, kit_int_tuple, kit_int_list, kit_int_str, kit_int_dict, kit_str_int, kit_str_bool, kit_str_tuple, kit_str_list, kit_str_str, kit_str_dict, kit_tuple_int, kit_tuple_bool, kit_tuple_tuple, kit_tuple_list, kit_tuple_str, kit_tuple_dict, kit_list_int, kit_list_bool, kit_list_tuple, kit_list_list, kit_list_str, kit_list_dict, kit_dict_int, kit_dict_bool, kit_dict_tuple, kit_dict_list, kit_dict_str, kit_dict_dict])
/-! ### drawn sets of keys -/
theorem pick_i {ts : List T} {n : Nat} {r : Int} {P : DL.D → Prop} {F : Nat → T → Prop} (hn : n = ts.length) (h0 : 0 ≤ r) (h1 : r < n) (all : ∀ t ∈ ts, ∃ d, t = .fr d ∧ P d) (q : ∀ i d, P d → F i (.fr d)) : oM (ixN n r) fun i => oM ts[i]? fun t => F i t := by
  have hl : r.toNat < ts.length := by omega
  refine ⟨r.toNat, by unfold ixN; rw [if_pos h0, if_pos h1], ts[r.toNat], List.getElem?_eq_getElem hl, ?_⟩
  obtain ⟨d, e, hd⟩ := all _ (List.getElem_mem hl)
  rw [e]
  exact q _ d hd
def sp_law_down : SpD := fun ts Q _ => ∃ m c j, ts = [j, .fr (.int c)] ∧ Jug m j ∧ m < 500000000 ∧ 0 ≤ c ∧ c ≤ 1000000 ∧ ∀ ns j', keySet ns (c - 1) → Jug (m + 1 + c) j' → Q (.fr (tupI ns)) [j', .fr (.int c)]
theorem ln_law_down : ∀ ts Q E, sp_law_down ts Q E → ts.length = 2 := by rintro _ Q E ⟨_, _, _, rfl, _⟩; rfl
def g_law_down : ST' := (sSq (sAs 2 (tIx true (tLs (tA1 false (tK (.int 2)) (tA1 false (tK (.int 4)) (tA1 false (tK (.int 1)) (tA1 false (tK (.int 9)) tA0))))) (tCl sp_law_pour (tA1 false (tVr 0) (tA1 false (tK (.int 4)) tA0)))))
  (sRt (tTu (tA1 false (tLcD (tIt1 (tA1 false (tVr 1) tA0)) (.nm 3) [3] (tTs (tV2 REq false (tCl sp_law_pour (tA1 false (tVr 0) (tA1 false (tVr 2) tA0))) (tK (.int 0)))) (tVr 3)) tA0))))

theorem vc_law_down : ∀ ts QD EXD, sp_law_down ts QD EXD → g_law_down (fnEnds [0, 1] ts QD) (fnX [0, 1] ts EXD) (startE ["_law_jug_here", "_law_count", "_law_often", "_law_one_key"] ts) := by
  rintro _ Q E ⟨m, c, j, rfl, hj, hm, c0, c1, q⟩
  unfold g_law_down
  refine go_i ?_
  obtain ⟨a, b, c', rfl, _⟩ := id hj
  pv_eval
  refine cl_law_pour hj (by omega) (by omega) (by omega) fun r1 j1 r0 r1' hj1 => ?_
  obtain ⟨a, b, c', rfl, _⟩ := id hj1
  pv_eval
  refine pick_i (P := fun d => ∃ k : Int, d = .int k ∧ 1 ≤ k ∧ k ≤ 9) rfl r0 r1' ?_ ?_
  · intro t ht
    simp only [List.mem_cons, List.not_mem_nil, or_false] at ht
    rcases ht with rfl | rfl | rfl | rfl <;> exact ⟨_, rfl, _, rfl, by decide, by decide⟩
  rintro i _ ⟨k, rfl, k1, k2⟩
  pv_eval
  refine ⟨by omega, by omega, by rw [rgD_len]; omega, ?_⟩
  refine goL_ind (fun i acc ε => ∃ (ns : List Int) (jj : T), acc = (ns.map D.int).map .fr ∧ ε = [some jj, some (.fr (.int c)), some (.fr (.int k)), none] ∧ Jug (m + 1 + i) jj ∧ (∀ x ∈ ns, 0 ≤ x ∧ x < i) ∧ ns.Pairwise (· < ·)) ?_ ?_ ?_
  · exact ⟨[], _, rfl, rfl, hj1.mono (by omega), by simp, .nil⟩
  · rintro acc ε' ⟨ns, jj, rfl, rfl, hjj, h1, h2⟩
    rw [rgD_len] at hjj h1
    obtain ⟨a, b, c', rfl, _⟩ := id hjj
    pv_eval
    refine q ns _ ⟨fun x hx => ?_, h2⟩ (hjj.mono (by omega))
    have := h1 x hx
    omega
  · rintro i d acc ε' N hd ⟨ns, jj, rfl, rfl, hjj, h1, h2⟩ hN
    obtain ⟨rfl, hi⟩ := rgD_get hd
    obtain ⟨a, b, c', rfl, _⟩ := id hjj
    refine ⟨_, rfl, ?_⟩
    pv_eval
    refine cl_law_pour hjj (by omega) (by omega) (by omega) fun r2 j2 r20 r21 hj2 => ?_
    obtain ⟨a, b, c', rfl, _⟩ := id hj2
    pv_eval
    refine iB_i (fun h => ?_) (fun h => ?_)
    · pv_eval
      rw [app_i]
      refine hN _ _ ⟨_, _, rfl, rfl, hj2.mono (by omega), fun x hx => ?_, ?_⟩
      · rcases List.mem_append.mp hx with h | h
        · have := h1 x h; omega
        · simp only [List.mem_singleton] at h; omega
      · rw [List.pairwise_append]
        refine ⟨h2, by simp, fun a ha b hb => ?_⟩
        simp only [List.mem_singleton] at hb
        have := h1 a ha
        omega
    · pv_eval
      refine hN _ _ ⟨_, _, rfl, rfl, hj2.mono (by omega), fun x hx => ?_, h2⟩
      have := h1 x hx
      omega
theorem cl_law_down {m c : Int} {j : T} {Q : T → List T → Prop} {E : Ex → List T → Prop} (hj : Jug m j) (hm : m < 500000000) (c0 : 0 ≤ c) (c1 : c ≤ 1000000) (q : ∀ ns j', keySet ns (c - 1) → Jug (m + 1 + c) j' → Q (.fr (tupI ns)) [j', .fr (.int c)]) : calls sp_law_down [j, .fr (.int c)] Q E :=
  ⟨m, c, j, rfl, hj, hm, c0, c1, q⟩
/-! ### what may be shown -/
theorem wts_small {ns : List Int} (h : ∀ k ∈ ns, k.natAbs < 10 ^ 45) : (tupI ns).wt ≤ ns.length * 312 + 3 := by
  have := D.wts_le (m := 310) (ds := ns.map D.int) fun d hd => by
    obtain ⟨i, hi, rfl⟩ := List.mem_map.mp hd
    have := wt_num (p200 (h i hi))
    omega
  rw [List.length_map] at this
  show D.wts (ns.map D.int) + 3 ≤ _
  omega
theorem wt_joint {p : Int × Int} {n : Int} (h : 0 ≤ p.1 ∧ p.1 < p.2 ∧ p.2 < n) (hn : n ≤ 1000) : (jointD p).wt ≤ 620 := by
  have h1 := wt_num (i := p.1) (p200 (by omega))
  have h2 := wt_num (i := p.2) (p200 (by omega))
  show (D.int p.1).wt + 2 + ((D.int p.2).wt + 2 + 0) + 3 ≤ _
  omega
theorem wt_board {n : Int} {js : List (Int × Int)} (h : Brd n js) : (boardD n js).wt ≤ 700000 := by
  have := D.wts_le (m := 620) (ds := js.map jointD) fun d hd => by
    obtain ⟨p, hp, rfl⟩ := List.mem_map.mp hd
    exact wt_joint (h.jo p hp) h.n2
  rw [List.length_map] at this
  have h1 := wt_num (i := n) (p200 (by have := h.n1; have := h.n2; omega))
  have h2 := h.l2
  show (D.int n).wt + 2 + ((D.wts (js.map jointD) + 3) + 2 + 0) + 3 ≤ _
  have : js.length * 622 ≤ 1000 * 622 := Nat.mul_le_mul_right _ h2
  omega
theorem nc_board {n : Int} {js : List (Int × Int)} (h : Brd n js) {k : Nat} : (boardD n js).nc (k + 3) = true := by
  show (D.nc (k + 2) (.int n) && (D.nc (k + 2) (.tup (js.map jointD)) && true)) = true
  rw [nc_num (p200 (by have := h.n1; have := h.n2; omega)), nc_joints h.jo h.n2]
  rfl
/-- a thing that may be shown -/
def Shw (d : DL.D) : Prop := d.nc 30 = true ∧ d.wt ≤ 2000000
theorem shw_tupI {ns : List Int} {js : List (Int × Int)} (h : keySet ns (js.length - 1)) (hl : js.length ≤ 1000) : Shw (tupI ns) := by
  have h45 := keysIn_45 (keySet_in h) (by omega)
  refine ⟨nc_tupI fun i hi => p200 (h45 i hi), ?_⟩
  have := wts_small h45
  have := keySet_len h
  omega
theorem shw_board {n : Int} {js : List (Int × Int)} (h : Brd n js) : Shw (boardD n js) := ⟨nc_board h, by have := wt_board h; omega⟩
theorem rep_lst {ds : List DL.D} (h : ∀ d ∈ ds, Shw d) (hl : ds.length ≤ 6) : RRep [.lst ds] (.str (D.lst ds).pd.shown) := by
  refine rrep_ok (k := 31) (D.ncs_mem.mpr fun d hd => (h d hd).1) ?_
  have := D.wts_le (m := 2000000) (ds := ds) fun d hd => (h d hd).2
  have : ds.length * 2000002 ≤ 6 * 2000002 := Nat.mul_le_mul_right _ hl
  show D.wts ds + 2 ≤ _
  omega
theorem lots_in {n : Nat} {f : Int → Int} {xs : List Int} (h : xs ∈ lotsOf n f) : ∀ k ∈ xs, 0 ≤ k ∧ k < n := fun k hk => by
  obtain ⟨r, hr, rfl⟩ := List.mem_map.mp h
  have := cls_mem.mp hk
  omega
theorem lots_len {n : Nat} {f : Int → Int} {xs : List Int} (h : xs ∈ lotsOf n f) : xs.length ≤ n := by
  obtain ⟨r, hr, rfl⟩ := List.mem_map.mp h
  have := pw_len (lo := 0) (hi := n) (cls_pw (n := n) (f := f) (r := r)) fun k hk => by have := cls_mem.mp hk; omega
  omega
theorem roots_len {n : Nat} {f : Int → Int} : (roots n f).length ≤ n := by
  have := pw_len (lo := 0) (hi := n) (roots_pw (n := n) (f := f)) fun k hk => by have := roots_mem.mp hk; omega
  omega
theorem shw_lots {n : Nat} {f : Int → Int} (hn : n ≤ 60) : Shw (.lst (lotsD n f)) := by
  have hx : ∀ d ∈ lotsD n f, d.nc 29 = true ∧ d.wt ≤ 60 * 312 + 3 := fun d hd => by
    obtain ⟨xs, hxs, rfl⟩ := List.mem_map.mp hd
    have h45 : ∀ k ∈ xs, k.natAbs < 10 ^ 45 := fun k hk => by have := lots_in hxs k hk; omega
    refine ⟨nc_tupI fun i hi => p200 (h45 i hi), ?_⟩
    have := wts_small h45
    have := lots_len hxs
    omega
  refine ⟨D.ncs_mem.mpr fun d hd => (hx d hd).1, ?_⟩
  have := D.wts_le (m := 60 * 312 + 3) (ds := lotsD n f) fun d hd => (hx d hd).2
  have hl : (lotsD n f).length ≤ 60 := by
    have := roots_len (n := n) (f := f)
    simp only [lotsD, lotsOf, List.length_map]
    omega
  have : (lotsD n f).length * (60 * 312 + 5) ≤ 60 * (60 * 312 + 5) := Nat.mul_le_mul_right _ hl
  show D.wts (lotsD n f) + 2 ≤ _
  omega
theorem lotsD_len {n : Nat} {f : Int → Int} : (lotsD n f).length ≤ n := by
  have := roots_len (n := n) (f := f)
  simp only [lotsD, lotsOf, List.length_map]
  omega
def rgI (n : Nat) : List Int := (List.range n).map fun i : Nat => (i : Int)
theorem rgI_len {n : Nat} : (rgI n).length = n := by simp [rgI]
theorem rgI_mem {n : Nat} {k : Int} : k ∈ rgI n ↔ 0 ≤ k ∧ k < n := by
  unfold rgI
  rw [List.mem_map]
  constructor
  · rintro ⟨a, ha, rfl⟩; have := List.mem_range.mp ha; omega
  · rintro ⟨h0, h1⟩; exact ⟨k.toNat, List.mem_range.mpr (by omega), by omega⟩
theorem eqv_tI {ns ms : List Int} : (D.tup (ns.map D.int)).eqv (D.tup (ms.map D.int)) = decide (ns = ms) := eqv_tupI
theorem eqC_tI {ns ms : List Int} (h : ∀ i ∈ ns, i.natAbs < 10 ^ 45) (h' : ∀ i ∈ ms, i.natAbs < 10 ^ 45) : EqC (D.tup (ns.map D.int)) (D.tup (ms.map D.int)) := eqC_tupI h h'
theorem eqC_l0 : EqC (D.lst []) (D.lst []) := eqC_nc (k := 1) (l := 1) rfl rfl rfl rfl
theorem none_left {ns ms : List Int} (h : ∀ k ∈ ns, k ∈ ms) : (ns.map D.int).filter (fun d => !(ms.map D.int).any fun e => e.eqv d) = [] := by
  rw [List.filter_eq_nil_iff]
  intro d hd
  obtain ⟨k, hk, rfl⟩ := List.mem_map.mp hd
  rw [in_ints]
  simp [h k hk]
theorem bl_eq {Q : T → List T → Prop} {b : Bool} {ts : List T} (h : b = true) (q : Q (.fr (.bl true)) ts) : Q (.fr (.bl b)) ts := h ▸ q
def sq : List (Int × Int) := [(0, 2), (0, 3), (1, 2), (1, 3)]
theorem sq_brd : Brd 4 sq := ⟨by decide, by decide, by decide, by decide, by unfold Joints sq; decide⟩
end GL

namespace GL
/-! ### the number of lots -/
theorem melt_same {f : Int → Int} {p : Int × Int} (h : f p.1 = f p.2) : melt f p = f := by
  unfold melt
  rw [if_neg (by omega)]
theorem melt_root {js : List (Int × Int)} {f : Int → Int} {p : Int × Int} (m : Mk js f) (h : f p.1 ≠ f p.2) {v : Int} : melt f p v = v ↔ f v = v ∧ v ≠ max (f p.1) (f p.2) := by
  have h1 := m.idem p.1
  have h2 := m.idem p.2
  have h3 := m.idem v
  have h4 := m.low v
  unfold melt
  rw [if_pos (by omega)]
  rcases Int.le_total (f p.1) (f p.2) with hl | hl
  · rw [Int.max_eq_right hl, Int.min_eq_left hl]
    split
    · rename_i e
      constructor
      · intro h; rw [← h, h1] at e; omega
      · rintro ⟨h, h'⟩; omega
    · rename_i e
      constructor
      · intro h; exact ⟨h, fun z => e (by rw [h, z])⟩
      · intro h; exact h.1
  · rw [Int.max_eq_left hl, Int.min_eq_right hl]
    split
    · rename_i e
      constructor
      · intro h; rw [← h, h2] at e; omega
      · rintro ⟨h, h'⟩; omega
    · rename_i e
      constructor
      · intro h; exact ⟨h, fun z => e (by rw [h, z])⟩
      · intro h; exact h.1
theorem nodup_filter_ne : ∀ {xs : List Int} {a : Int}, xs.Nodup → a ∈ xs → (xs.filter fun x => decide (x ≠ a)).length + 1 = xs.length
  | [], a, _, h => by simp at h
  | x :: xs, a, hn, h => by
    obtain ⟨h1, h2⟩ := List.nodup_cons.mp hn
    by_cases e : x = a
    · subst e
      have : (xs.filter fun y => decide (y ≠ x)) = xs := List.filter_eq_self.mpr fun y hy => decide_eq_true fun z => h1 (z ▸ hy)
      rw [List.filter_cons, if_neg (by simp), this]
      rfl
    · rw [List.filter_cons, if_pos (by simpa using e)]
      have := nodup_filter_ne h2 (by simpa [Ne.symm e] using h)
      simp only [List.length_cons]
      omega
theorem pw_nodup {xs : List Int} (h : xs.Pairwise (· < ·)) : xs.Nodup := h.imp fun h => by omega
theorem roots_melt {js : List (Int × Int)} {f : Int → Int} {p : Int × Int} {n : Nat} (m : Mk js f) (hp : ∀ v, 0 ≤ v → 0 ≤ f v) (h1 : 0 ≤ p.1 ∧ p.1 < n) (h2 : 0 ≤ p.2 ∧ p.2 < n) (h : f p.1 ≠ f p.2) : (roots n (melt f p)).length + 1 = (roots n f).length := by
  have e : roots n (melt f p) = (roots n f).filter fun x => decide (x ≠ max (f p.1) (f p.2)) := by
    refine asc_ext roots_pw (roots_pw.filter _) fun k => ?_
    rw [List.mem_filter, roots_mem, roots_mem, melt_root m h, decide_eq_true_iff]
    constructor
    · rintro ⟨a, b, c, d⟩; exact ⟨⟨a, b, c⟩, d⟩
    · rintro ⟨⟨a, b, c⟩, d⟩; exact ⟨a, b, c, d⟩
  rw [e]
  refine nodup_filter_ne (pw_nodup roots_pw) (roots_mem.mpr ?_)
  have a1 := hp p.1 h1.1
  have a2 := hp p.2 h2.1
  have b1 := m.low p.1
  have b2 := m.low p.2
  have c1 := m.idem p.1
  have c2 := m.idem p.2
  rcases Int.le_total (f p.1) (f p.2) with hl | hl
  · rw [Int.max_eq_right hl]; exact ⟨a2, by omega, c2⟩
  · rw [Int.max_eq_left hl]; exact ⟨a1, by omega, c1⟩
/-- one more key -/
theorem mk_snoc {js : List (Int × Int)} {ns : List Int} {k : Int} {p : Int × Int} (h : js[k.toNat]? = some p) : mk js (ns ++ [k]) = melt (mk js ns) p := by
  unfold mk
  rw [pick_app, ← mkF_snoc]
  congr 1
  simp [pick, h]
theorem shown_key {js : List (Int × Int)} {ns : List Int} {k : Int} {p : Int × Int} (h0 : 0 ≤ k) (h : js[k.toNat]? = some p) : k ∈ shown js ns ↔ mk js ns p.1 = mk js ns p.2 := by
  rw [shown_mem]
  constructor
  · rintro ⟨_, q, e, r⟩
    rw [h] at e; cases e
    exact r
  · intro r; exact ⟨h0, p, h, r⟩
/-- the number of keys that join two lots of the keys before them -/
def fresh (js : List (Int × Int)) (ns : List Int) : Nat := ((List.range ns.length).filter fun i => decide (ns.getD i 0 ∉ shown js (ns.take i))).length
def isFree (js : List (Int × Int)) (ns : List Int) : Bool := (List.range ns.length).all fun i => decide (ns.getD i 0 ∉ shown js (ns.take i))
theorem fresh_snoc {js : List (Int × Int)} {ns : List Int} {k : Int} : fresh js (ns ++ [k]) = fresh js ns + if k ∈ shown js ns then 0 else 1 := by
  unfold fresh
  rw [List.length_append, List.length_singleton, List.range_succ, List.filter_append, List.length_append]
  congr 1
  · congr 1
    refine List.filter_congr fun i hi => ?_
    have := List.mem_range.mp hi
    rw [List.take_append_of_le_length (by omega)]
    simp only [List.getD_eq_getElem?_getD, List.getElem?_append_left this]
  · simp only [List.filter_cons, List.filter_nil, List.take_left', List.getD_eq_getElem?_getD]
    simp
    split <;> simp
theorem isFree_snoc {js : List (Int × Int)} {ns : List Int} {k : Int} : isFree js (ns ++ [k]) = (isFree js ns && decide (k ∉ shown js ns)) := by
  unfold isFree
  rw [List.length_append, List.length_singleton, List.range_succ, List.all_append]
  congr 1
  · refine Bool.eq_iff_iff.mpr ?_
    rw [List.all_eq_true, List.all_eq_true]
    refine forall_congr' fun i => ?_
    refine imp_congr_right fun hi => ?_
    have := List.mem_range.mp hi
    rw [List.take_append_of_le_length (by omega)]
    simp only [List.getD_eq_getElem?_getD, List.getElem?_append_left this]
  · simp
theorem roots_fresh {n : Nat} {js : List (Int × Int)} (hJ : Joints n js) : ∀ {ns : List Int}, KeysIn js ns → (roots n (mk js ns)).length + fresh js ns = n ∧ fresh js ns ≤ ns.length ∧ (isFree js ns = true ↔ fresh js ns = ns.length) := by
  intro ns
  induction hl : ns.length generalizing ns with
  | zero =>
    have := List.length_eq_zero_iff.mp hl
    subst this
    intro _
    refine ⟨?_, by simp [fresh], by simp [isFree, fresh]⟩
    have : roots n (mk js []) = (List.range n).map fun i : Nat => (i : Int) := by
      unfold roots
      congr 1
      exact List.filter_eq_self.mpr fun i _ => decide_eq_true rfl
    rw [this]
    simp [fresh]
  | succ l ih =>
    intro hk
    obtain ⟨ms, k, rfl⟩ : ∃ ms k, ns = ms ++ [k] := ⟨ns.dropLast, ns.getLast (by rintro rfl; simp at hl), (List.dropLast_concat_getLast _).symm⟩
    have hml : ms.length = l := by simpa using hl
    obtain ⟨h1, h2, h3⟩ := ih hml fun x hx => hk x (by simp [hx])
    have hkk := hk k (by simp)
    have e : js[k.toNat]? = some js[k.toNat] := List.getElem?_eq_getElem (by omega)
    have hj := hJ _ (List.mem_of_getElem? e)
    have m := mk_Mk js ms
    rw [mk_snoc e, fresh_snoc, isFree_snoc]
    have hs := shown_key (ns := ms) hkk.1 e
    by_cases hq : mk js ms js[k.toNat].1 = mk js ms js[k.toNat].2
    · rw [melt_same hq, if_pos (hs.mpr hq)]
      have : decide (k ∉ shown js ms) = false := decide_eq_false fun z => z (hs.mpr hq)
      rw [this, Bool.and_false]
      refine ⟨by omega, by omega, ?_⟩
      simp
      omega
    · have hn : k ∉ shown js ms := fun z => hq (hs.mp z)
      rw [if_neg hn]
      have := roots_melt (n := n) m (fun v hv => mk_pos hJ hv) ⟨hj.1, by omega⟩ ⟨by omega, hj.2.2⟩ hq
      have e2 : decide (k ∉ shown js ms) = true := decide_eq_true hn
      rw [e2, Bool.and_true, h3]
      refine ⟨by omega, by omega, by omega⟩
end GL

namespace GL
open PySem PySem.Spec L2 DL
/-- a reading is followed as far as it goes -/
local macro_rules | `(tactic| pv_eval) => `(tactic| simp -dsimp only [e_tVr, e_tK, e_tV1, e_tV2, e_tTs, e_tN, e_tAn, e_tOn, e_tAv, e_tOv, e_tNv, e_tIf1, e_tCh, e_tA0, e_tA1, e_tTp, e_tLs, e_tLf, e_tDc0, e_tVL, e_tIsi, e_tLi, e_tTu, e_tAd, e_tMu, e_tSc, e_tO0, e_tO1, e_tIx, e_tCl, e_tClK, e_tClF, e_tClKF, onlyD, e_tRev, rvK_l, rvK_t, e_tLenSet, e_tSoA, e_tIsi2, e_tAS, seqK_t, seqK_l, e_tClS, List.take_succ_cons, List.take_zero, List.drop_succ_cons, List.drop_zero, intsQ_l, intsQ_t, e_tApp, e_tExt, e_tItL, e_tItT, e_tIt1, e_tIt2, e_tYs, goL_nil, goF_nil, go2_nil, e_tLcD, e_tLcD2, e_sNx, e_sSq, e_sNever, e_sEx, e_sRt, e_sRtN, e_sIf, e_sAs, e_sUn, e_sFor, e_sForP, sqK_t, sqK_f, sqK_l, Option.map_some, e_sPr, e_sSt, fe_nx, fe_rt, fe_x, oM_s, oM_n, iB_t, iB_f, oB_b, zB_b, oI_i, oL_1, dL_l, dT_t, sL_l, isAt_a, r2_I, r2_Ic, r2_N, r2_nN, r2_nB, r2_Eq, r2_Ne, r2_InL, r2_InFl, r2_InFt, r1_Neg, rL_lenS, rL_lenL, rL_lenT, rL_lenC, rL_abs, rL_max, rL_min, rL_intI, rL_intB, rL_str, rL_all, rL_any, rL_rep, o2I_i, vr_f, vr_l, vr_d, vr_o, ixE_f, ixE_la, ixE_lo, ixT_t, ixT_l, ixT_c', ixT_s, ixT_o, addK_i, addK_s, addK_l, addK_t, mulK_i, mulK_l, slK_l, slK_t, slK_s, rtK_d, rtK_o, rtK_a, rtK_p, asK_d, asK_o, asK_a, pd_d, pd_o, pd_a, pd_p, at00, at01, at02, ixN_30, ixN_31, ixN_32, ixN_20, ixN_21, ixN_S0, at_S0, e_tItE, e_tItZ, e_tLr, e_tSo, e_tDg2, e_sDp, o2_2, e_tLVals, e_tSSet, sTu_t, dsFr, dsFr_map,
  Rv.vw, Rv.tr, Rv.sq, Rv.fz, T.get, T.kid, T.set, T.setKid, T.d, T.ds, T.rv, T.frO, D.sq, Sq.its, flatT, vws, owns, takeT, giveT, DL.lstAt, DL.putAt, pickL, Pat.bind, Pat.binds, wipeE, unwipe, setAll, startE, parsFrom, at_0, at_S, set_0, set_S, List.map_cons, List.map_nil, List.length_cons, List.length_nil, List.replicate, List.cons_append, List.nil_append, List.append_nil, List.filterMap_cons, List.filterMap_nil, List.getElem?_cons_zero, List.getElem?_cons_succ, Option.map_some, Option.bind_some, Option.isSome_some, and_true, true_and, List.mem_cons, List.mem_singleton, List.not_mem_nil, or_false, false_or, or_true, true_or, if_true, if_false, Nat.zero_add, Nat.add_zero, Nat.reduceAdd, Nat.reduceSub, Nat.reduceEqDiff, reduceCtorEq, true_implies, false_implies, implies_true, false_and, and_false, not_true_eq_false, not_false_eq_true, Bool.true_eq_false, eqC_ii, eqC_ss, eqv_ii, eqv_ss, D.isN, isK, D.ty, Bool.not_true, Bool.not_false, decide_eq_true_eq, Bool.false_eq_true, eq_self, Bool.or_false, Bool.false_or, ite_true, ite_false, and_self, decide_true, decide_false, T.ds_fr, T.ds_map, Int.cast_ofNat_Int, blsD, blsD_f, List.all_cons, List.all_nil, List.any_cons, List.any_nil, id_eq, Bool.and_true, sizeLine_eq, List.isEmpty_nil, List.isEmpty_cons, eqv_l0, eqv_t0, Nat.reduceLeDiff, Nat.reduceLT, Int.reduceLE, Int.reduceLT, Int.reduceEq, Nat.reducePow, flatT_fr, Int.zero_add, fzL, zpItems, intsD, intsD_map, dicAt, keyAt, ownDic, putDic,
  kit_NoneType_int, kit_NoneType_bool, kit_NoneType_tuple, kit_NoneType_list, kit_NoneType_str, kit_NoneType_dict, kit_bool_int, kit_bool_bool, kit_bool_tuple, kit_bool_list, kit_bool_str, kit_bool_dict, kit_int_int, kit_int_bool, kit_int_tuple, kit_int_list, kit_int_str, kit_int_dict, kit_str_int, kit_str_bool, kit_str_tuple, kit_str_list, kit_str_str, kit_str_dict, kit_tuple_int, kit_tuple_bool, kit_tuple_tuple, kit_tuple_list, kit_tuple_str, kit_tuple_dict, kit_list_int, kit_list_bool, kit_list_tuple, kit_list_list, kit_list_str, kit_list_dict, kit_dict_int, kit_dict_bool, kit_dict_tuple, kit_dict_list, kit_dict_str, kit_dict_dict])
/-! ### seen sets, pressed sets -/
def sp_is_closed : SpD := fun ts Q _ => ∃ (n : Int) (js : List (Int × Int)) (ns : List Int), ts = [.fr (boardD n js), .fr (tupI ns)] ∧ Brd n js ∧ KeysIn js ns ∧ Q (.fr (.bl (decide (shown js ns = ns)))) ts
theorem ln_is_closed : ∀ ts Q E, sp_is_closed ts Q E → ts.length = 2 := by rintro _ Q E ⟨v, n, m, rfl, _⟩; rfl
def g_is_closed : ST' := (sRt (tV2 REq false (tCl sp_closure (tA1 false (tVr 0) (tA1 false (tVr 1) tA0))) (tVr 1)))

theorem vc_is_closed : ∀ ts QD EXD, sp_is_closed ts QD EXD → g_is_closed (fnEnds [0, 1] ts QD) (fnX [0, 1] ts EXD) (startE ["board", "keys"] ts) := by
  rintro _ Q E ⟨n, js, ns, rfl, hB, hk, q⟩
  have h45 := keysIn_45 hk (by have := hB.l2; omega)
  have s45 := keysIn_45 (shown_in (js := js) (ns := ns)) (by have := hB.l2; omega)
  unfold g_is_closed
  refine go_i ?_
  pv_eval
  refine cl_closure hB hk ?_
  pv_eval
  rw [eqv_tupI]
  exact ⟨eqC_tupI s45 h45, q⟩
theorem cl_is_closed {n : Int} {js : List (Int × Int)} {ns : List Int} (h : Brd n js) (hk : KeysIn js ns) {Q : T → List T → Prop} {E : Ex → List T → Prop} (q : Q (.fr (.bl (decide (shown js ns = ns)))) [.fr (boardD n js), .fr (tupI ns)]) : calls sp_is_closed [.fr (boardD n js), .fr (tupI ns)] Q E :=
  ⟨n, js, ns, rfl, h, hk, q⟩
def sp_lot_count : SpD := fun ts Q _ => ∃ (n : Int) (js : List (Int × Int)) (ns : List Int), ts = [.fr (boardD n js), .fr (tupI ns)] ∧ Brd n js ∧ KeysIn js ns ∧ Q (.fr (.int (roots n.toNat (mk js ns)).length)) ts
theorem ln_lot_count : ∀ ts Q E, sp_lot_count ts Q E → ts.length = 2 := by rintro _ Q E ⟨v, n, m, rfl, _⟩; rfl
def g_lot_count : ST' := (sRt (tLenSet (tCl sp_marks (tA1 false (tVr 0) (tA1 false (tVr 1) tA0)))))

def marksI (n : Nat) (f : Int → Int) : List Int := (List.range n).map fun i : Nat => f i
theorem fD_I {n : Int} {f : Int → Int} : fD n f = (marksI n.toNat f).map D.int := by simp [fD, marksI]
theorem marks_roots {js : List (Int × Int)} {n : Nat} {f : Int → Int} (m : Mk js f) (hp : ∀ v, 0 ≤ v → 0 ≤ f v) (k : Int) : k ∈ roots n f ↔ k ∈ marksI n f := by
  rw [roots_mem]
  unfold marksI
  rw [List.mem_map]
  constructor
  · rintro ⟨a, b, c⟩; exact ⟨k.toNat, List.mem_range.mpr (by omega), by rw [Int.toNat_of_nonneg a]; exact c⟩
  · rintro ⟨i, hi, rfl⟩
    have := List.mem_range.mp hi
    have := m.low (i : Nat)
    exact ⟨hp _ (by omega), by omega, m.idem _⟩
theorem vc_lot_count : ∀ ts QD EXD, sp_lot_count ts QD EXD → g_lot_count (fnEnds [0, 1] ts QD) (fnX [0, 1] ts EXD) (startE ["board", "keys"] ts) := by
  rintro _ Q E ⟨n, js, ns, rfl, hB, hk, q⟩
  have := hB.n2
  unfold g_lot_count
  refine go_i ?_
  pv_eval
  refine cl_marks hB hk ?_
  rw [fD_I]
  pv_eval
  refine ⟨by simp [marksI]; omega, roots n.toNat (mk js ns), ⟨pw_nodup roots_pw, fun k => marks_roots (mk_Mk js ns) (fun v hv => mk_pos hB.jo hv) k⟩, q⟩
theorem cl_lot_count {n : Int} {js : List (Int × Int)} {ns : List Int} (h : Brd n js) (hk : KeysIn js ns) {Q : T → List T → Prop} {E : Ex → List T → Prop} (q : Q (.fr (.int (roots n.toNat (mk js ns)).length)) [.fr (boardD n js), .fr (tupI ns)]) : calls sp_lot_count [.fr (boardD n js), .fr (tupI ns)] Q E :=
  ⟨n, js, ns, rfl, h, hk, q⟩
def sp_has_ring : SpD := fun ts Q _ => ∃ (n : Int) (js : List (Int × Int)) (ns : List Int), ts = [.fr (boardD n js), .fr (tupI ns)] ∧ Brd n js ∧ KeysIn js ns ∧ Q (.fr (.bl (!isFree js ns))) ts
theorem ln_has_ring : ∀ ts Q E, sp_has_ring ts Q E → ts.length = 2 := by rintro _ Q E ⟨v, n, m, rfl, _⟩; rfl
def g_has_ring : ST' := (sRt (tV2 RLt false (tV2 RSub true (tIx false (tVr 0) (tK (.int 0))) (tCl sp_lot_count (tA1 false (tVr 0) (tA1 false (tVr 1) tA0)))) (tVL RLen (tA1 false (tVr 1) tA0))))

theorem vc_has_ring : ∀ ts QD EXD, sp_has_ring ts QD EXD → g_has_ring (fnEnds [0, 1] ts QD) (fnX [0, 1] ts EXD) (startE ["board", "keys"] ts) := by
  rintro _ Q E ⟨n, js, ns, rfl, hB, hk, q⟩
  have h1 := hB.n1
  obtain ⟨r1, r2, r3⟩ := roots_fresh (n := n.toNat) (js := js) (by rw [Int.toNat_of_nonneg (by omega)]; exact hB.jo) hk
  unfold g_has_ring
  refine go_i ?_
  unfold boardD
  pv_eval
  refine cl_lot_count hB hk ?_
  unfold boardD tupI at q ⊢
  pv_eval
  have e : decide (n - ((roots n.toNat (mk js ns)).length : Int) < ((ns.map D.int).length : Int)) = !isFree js ns := by
    rw [List.length_map]
    cases hf : isFree js ns with
    | true => have := r3.mp hf; simp; omega
    | false =>
      have : fresh js ns ≠ ns.length := fun z => by rw [r3.mpr z] at hf; cases hf
      simp; omega
  rw [e]
  exact q
theorem cl_has_ring {n : Int} {js : List (Int × Int)} {ns : List Int} (h : Brd n js) (hk : KeysIn js ns) {Q : T → List T → Prop} {E : Ex → List T → Prop} (q : Q (.fr (.bl (!isFree js ns))) [.fr (boardD n js), .fr (tupI ns)]) : calls sp_has_ring [.fr (boardD n js), .fr (tupI ns)] Q E :=
  ⟨n, js, ns, rfl, h, hk, q⟩
def intsOf (v : DL.D) : List Int := match v with
  | .tup ds => (intsD ds).getD []
  | _ => []
theorem intsOf_tupI {ns : List Int} : intsOf (tupI ns) = ns := by
  show (intsD (ns.map D.int)).getD [] = ns
  rw [intsD_map]
  rfl
def seenSet (js : List (Int × Int)) (v : DL.D) : Bool := isSet v (some (js.length - 1)) && decide (shown js (intsOf v) = intsOf v)
def pressedSet (js : List (Int × Int)) (v : DL.D) : Bool := isSet v (some (js.length - 1)) && isFree js (intsOf v)
def sp_is_seen_set : SpD := fun ts Q _ => ∃ (n : Int) (js : List (Int × Int)) (v : DL.D), ts = [.fr (boardD n js), .fr v] ∧ Brd n js ∧ v.py = true ∧ shortD v ∧ Q (.fr (.bl (seenSet js v))) ts
theorem ln_is_seen_set : ∀ ts Q E, sp_is_seen_set ts Q E → ts.length = 2 := by rintro _ Q E ⟨v, n, m, rfl, _⟩; rfl
def g_is_seen_set : ST' := (sSq (sEx (tCl sp_check_board (tA1 false (tVr 0) tA0)))
  (sRt (tAv (tCl sp_is_keys (tA1 false (tVr 0) (tA1 false (tVr 1) tA0))) (tCl sp_is_closed (tA1 false (tVr 0) (tA1 false (tVr 1) tA0))))))

theorem cl_is_keys {n : Int} {js : List (Int × Int)} {v : DL.D} (hv : v.py = true) (hs : shortD v) {Q : T → List T → Prop} {E : Ex → List T → Prop} (q : Q (.fr (.bl (isSet v (some (js.length - 1))))) [.fr (boardD n js), .fr v]) : calls sp_is_keys [.fr (boardD n js), .fr v] Q E :=
  ⟨n, js, v, rfl, hv, hs, q⟩
theorem vc_is_seen_set : ∀ ts QD EXD, sp_is_seen_set ts QD EXD → g_is_seen_set (fnEnds [0, 1] ts QD) (fnX [0, 1] ts EXD) (startE ["board", "value"] ts) := by
  rintro _ Q E ⟨n, js, v, rfl, hB, hv, hs, q⟩
  unfold g_is_seen_set
  refine go_i ?_
  pv_eval
  refine cl_check_board hB ?_
  pv_eval
  refine cl_is_keys hv hs ?_
  pv_eval
  refine iB_i (fun h => ?_) (fun h => ?_)
  · obtain ⟨ns, rfl⟩ := isSet_tup h
    have hk := isSet_iff.mp h
    pv_eval
    refine cl_is_closed hB (keySet_in hk) ?_
    simp only [seenSet, h, Bool.true_and, intsOf_tupI] at q
    pv_eval
    exact q
  · pv_eval
    simp only [seenSet, h, Bool.false_and] at q
    exact q
theorem cl_is_seen_set {n : Int} {js : List (Int × Int)} {v : DL.D} (h : Brd n js) (hv : v.py = true) (hs : shortD v) {Q : T → List T → Prop} {E : Ex → List T → Prop} (q : Q (.fr (.bl (seenSet js v))) [.fr (boardD n js), .fr v]) : calls sp_is_seen_set [.fr (boardD n js), .fr v] Q E :=
  ⟨n, js, v, rfl, h, hv, hs, q⟩
def sp_is_pressed_set : SpD := fun ts Q _ => ∃ (n : Int) (js : List (Int × Int)) (v : DL.D), ts = [.fr (boardD n js), .fr v] ∧ Brd n js ∧ v.py = true ∧ shortD v ∧ Q (.fr (.bl (pressedSet js v))) ts
theorem ln_is_pressed_set : ∀ ts Q E, sp_is_pressed_set ts Q E → ts.length = 2 := by rintro _ Q E ⟨v, n, m, rfl, _⟩; rfl
def g_is_pressed_set : ST' := (sSq (sEx (tCl sp_check_board (tA1 false (tVr 0) tA0)))
  (sRt (tAv (tCl sp_is_keys (tA1 false (tVr 0) (tA1 false (tVr 1) tA0))) (tNv (tCl sp_has_ring (tA1 false (tVr 0) (tA1 false (tVr 1) tA0)))))))

theorem vc_is_pressed_set : ∀ ts QD EXD, sp_is_pressed_set ts QD EXD → g_is_pressed_set (fnEnds [0, 1] ts QD) (fnX [0, 1] ts EXD) (startE ["board", "value"] ts) := by
  rintro _ Q E ⟨n, js, v, rfl, hB, hv, hs, q⟩
  unfold g_is_pressed_set
  refine go_i ?_
  pv_eval
  refine cl_check_board hB ?_
  pv_eval
  refine cl_is_keys hv hs ?_
  pv_eval
  refine iB_i (fun h => ?_) (fun h => ?_)
  · obtain ⟨ns, rfl⟩ := isSet_tup h
    have hk := isSet_iff.mp h
    pv_eval
    refine cl_has_ring hB (keySet_in hk) ?_
    simp only [pressedSet, h, Bool.true_and, intsOf_tupI] at q
    pv_eval
    simp only [Bool.not_not]
    exact q
  · pv_eval
    simp only [pressedSet, h, Bool.false_and] at q
    exact q
theorem cl_is_pressed_set {n : Int} {js : List (Int × Int)} {v : DL.D} (h : Brd n js) (hv : v.py = true) (hs : shortD v) {Q : T → List T → Prop} {E : Ex → List T → Prop} (q : Q (.fr (.bl (pressedSet js v))) [.fr (boardD n js), .fr v]) : calls sp_is_pressed_set [.fr (boardD n js), .fr v] Q E :=
  ⟨n, js, v, rfl, h, hv, hs, q⟩
end GL

namespace GL
open PySem PySem.Spec L2 DL
/-- a reading is followed as far as it goes -/
local macro_rules | `(tactic| pv_eval) => `(tactic| simp -dsimp only [e_tVr, e_tK, e_tV1, e_tV2, e_tTs, e_tN, e_tAn, e_tOn, e_tAv, e_tOv, e_tNv, e_tIf1, e_tCh, e_tA0, e_tA1, e_tTp, e_tLs, e_tLf, e_tDc0, e_tVL, e_tIsi, e_tLi, e_tTu, e_tAd, e_tMu, e_tSc, e_tO0, e_tO1, e_tIx, e_tCl, e_tClK, e_tClF, e_tClKF, onlyD, e_tRev, rvK_l, rvK_t, e_tLenSet, e_tSoA, e_tIsi2, e_tAS, seqK_t, seqK_l, e_tClS, List.take_succ_cons, List.take_zero, List.drop_succ_cons, List.drop_zero, intsQ_l, intsQ_t, e_tApp, e_tExt, e_tItL, e_tItT, e_tIt1, e_tIt2, e_tYs, goL_nil, goF_nil, go2_nil, e_tLcD, e_tLcD2, e_sNx, e_sSq, e_sNever, e_sEx, e_sRt, e_sRtN, e_sIf, e_sAs, e_sUn, e_sFor, e_sForP, sqK_t, sqK_f, sqK_l, Option.map_some, e_sPr, e_sSt, fe_nx, fe_rt, fe_x, oM_s, oM_n, iB_t, iB_f, oB_b, zB_b, oI_i, oL_1, dL_l, dT_t, sL_l, isAt_a, r2_I, r2_Ic, r2_N, r2_nN, r2_nB, r2_Eq, r2_Ne, r2_InL, r2_InFl, r2_InFt, r1_Neg, rL_lenS, rL_lenL, rL_lenT, rL_lenC, rL_abs, rL_max, rL_min, rL_intI, rL_intB, rL_str, rL_all, rL_any, rL_rep, o2I_i, vr_f, vr_l, vr_d, vr_o, ixE_f, ixE_la, ixE_lo, ixT_t, ixT_l, ixT_c', ixT_s, ixT_o, addK_i, addK_s, addK_l, addK_t, mulK_i, mulK_l, slK_l, slK_t, slK_s, rtK_d, rtK_o, rtK_a, rtK_p, asK_d, asK_o, asK_a, pd_d, pd_o, pd_a, pd_p, at00, at01, at02, ixN_30, ixN_31, ixN_32, ixN_20, ixN_21, ixN_S0, at_S0, e_tItE, e_tItZ, e_tLr, e_tSo, e_tDg2, e_sDp, o2_2, e_tLVals, e_tSSet, sTu_t, dsFr, dsFr_map,
  Rv.vw, Rv.tr, Rv.sq, Rv.fz, T.get, T.kid, T.set, T.setKid, T.d, T.ds, T.rv, T.frO, D.sq, Sq.its, flatT, vws, owns, takeT, giveT, DL.lstAt, DL.putAt, pickL, Pat.bind, Pat.binds, wipeE, unwipe, setAll, startE, parsFrom, at_0, at_S, set_0, set_S, List.map_cons, List.map_nil, List.length_cons, List.length_nil, List.replicate, List.cons_append, List.nil_append, List.append_nil, List.filterMap_cons, List.filterMap_nil, List.getElem?_cons_zero, List.getElem?_cons_succ, Option.map_some, Option.bind_some, Option.isSome_some, and_true, true_and, List.mem_cons, List.mem_singleton, List.not_mem_nil, or_false, false_or, or_true, true_or, if_true, if_false, Nat.zero_add, Nat.add_zero, Nat.reduceAdd, Nat.reduceSub, Nat.reduceEqDiff, reduceCtorEq, true_implies, false_implies, implies_true, false_and, and_false, not_true_eq_false, not_false_eq_true, Bool.true_eq_false, eqC_ii, eqC_ss, eqv_ii, eqv_ss, D.isN, isK, D.ty, Bool.not_true, Bool.not_false, decide_eq_true_eq, Bool.false_eq_true, eq_self, Bool.or_false, Bool.false_or, ite_true, ite_false, and_self, decide_true, decide_false, T.ds_fr, T.ds_map, Int.cast_ofNat_Int, blsD, blsD_f, List.all_cons, List.all_nil, List.any_cons, List.any_nil, id_eq, Bool.and_true, sizeLine_eq, List.isEmpty_nil, List.isEmpty_cons, eqv_l0, eqv_t0, Nat.reduceLeDiff, Nat.reduceLT, Int.reduceLE, Int.reduceLT, Int.reduceEq, Nat.reducePow, flatT_fr, Int.zero_add, fzL, zpItems, intsD, intsD_map, dicAt, keyAt, ownDic, putDic,
  kit_NoneType_int, kit_NoneType_bool, kit_NoneType_tuple, kit_NoneType_list, kit_NoneType_str, kit_NoneType_dict, kit_bool_int, kit_bool_bool, kit_bool_tuple, kit_bool_list, kit_bool_str, kit_bool_dict, kit_int_int, kit_int_bool, kit_int_tuple, kit_int_list, kit_int_str, kit_int_dict, kit_str_int, kit_str_bool, kit_str_tuple, kit_str_list, kit_str_str, kit_str_dict, kit_tuple_int, kit_tuple_bool, kit_tuple_tuple, kit_tuple_list, kit_tuple_str, kit_tuple_dict, kit_list_int, kit_list_bool, kit_list_tuple, kit_list_list, kit_list_str, kit_list_dict, kit_dict_int, kit_dict_bool, kit_dict_tuple, kit_dict_list, kit_dict_str, kit_dict_dict])
/-! ### law k03 -/
theorem keySet_take {ns : List Int} {m : Int} (h : keySet ns m) (i : Nat) : keySet (ns.take i) m := ⟨fun k hk => h.1 k (List.mem_of_mem_take hk), h.2.sublist (List.take_sublist _ _)⟩
theorem cutTo (xs : List DL.D) (i : Nat) : cutL xs none (some (i : Int)) = xs.take i := by
  unfold cutL
  rw [HT.sIx_none]
  have e : HT.sIx xs.length xs.length (some (i : Int)) = min i xs.length := HT.sIx_nat xs.length xs.length i
  rw [e]
  simp
theorem cutFrom (xs : List DL.D) (i : Nat) : cutL xs (some (i : Int)) none = xs.drop i := by
  unfold cutL
  rw [HT.sIx_none]
  have e : HT.sIx xs.length 0 (some (i : Int)) = min i xs.length := HT.sIx_nat xs.length 0 i
  rw [e]
  by_cases h : i ≤ xs.length
  · rw [Nat.min_eq_left h, List.take_of_length_le (by simp)]
  · rw [Nat.min_eq_right (by omega), List.drop_length, List.drop_eq_nil_of_le (by omega)]
    simp
def sp_law_is_free : SpD := fun ts Q _ => ∃ (n : Int) (js : List (Int × Int)) (ns : List Int), ts = [.fr (boardD n js), .fr (tupI ns)] ∧ Brd n js ∧ keySet ns (js.length - 1) ∧ Q (.fr (.bl (isFree js ns))) ts
theorem ln_law_is_free : ∀ ts Q E, sp_law_is_free ts Q E → ts.length = 2 := by rintro _ Q E ⟨v, n, m, rfl, _⟩; rfl
def g_law_is_free : ST' := (sRt (tV2 REq false (tLcD (tItE (tA1 false (tVr 1) tA0)) (.tp [.nm 2, .nm 3]) [2, 3] (tTs (tV2 (RInF false) false (tVr 3) (tClF sp_law_seen (tA1 false (tVr 0) (tA1 false (tSc false false (tVr 1) tO0 (tO1 (tVr 2))) tA0))))) (tVr 2)) (tLs tA0)))

def seenAt (js : List (Int × Int)) (ns : List Int) (d : DL.D) : Bool := match d with
  | .tup [.int i, .int k] => decide (k ∈ shown js (ns.take i.toNat))
  | _ => false
theorem en_ints {ns : List Int} {d : DL.D} (h : d ∈ enD (ns.map D.int)) : ∃ (i : Nat) (k : Int), ns[i]? = some k ∧ d = .tup [.int (i : Nat), .int k] := by
  rw [enD_eq] at h
  obtain ⟨i, hi, rfl⟩ := List.mem_map.mp h
  rw [List.length_map, List.mem_range] at hi
  refine ⟨i, ns[i], by simp [hi], ?_⟩
  simp [List.getD_eq_getElem?_getD, hi]
theorem free_empty {js : List (Int × Int)} {ns : List Int} : (((enD (ns.map D.int)).filter (seenAt js ns)).map fstD).isEmpty = isFree js ns := by
  unfold isFree
  rw [List.isEmpty_map]
  refine Bool.eq_iff_iff.mpr ?_
  rw [List.isEmpty_iff, List.filter_eq_nil_iff, List.all_eq_true, enD_eq, List.length_map]
  constructor
  · intro h i hi
    have := h _ (List.mem_map.mpr ⟨i, hi, rfl⟩)
    have hl := List.mem_range.mp hi
    simpa [seenAt, List.getD_eq_getElem?_getD, hl] using this
  · intro h d hd
    obtain ⟨i, hi, rfl⟩ := List.mem_map.mp hd
    have := h i hi
    have hl := List.mem_range.mp hi
    simpa [seenAt, List.getD_eq_getElem?_getD, hl] using this
theorem vc_law_is_free : ∀ ts QD EXD, sp_law_is_free ts QD EXD → g_law_is_free (fnEnds [0, 1] ts QD) (fnX [0, 1] ts EXD) (startE ["_law_frame_here", "_law_down_here", "_law_at", "_law_one_key"] ts) := by
  rintro _ Q E ⟨n, js, ns, rfl, hB, hk, q⟩
  have hns : ns.length ≤ 1000 := by have := keySet_len hk; have := hB.l2; omega
  have h45 := keysIn_45 (keySet_in hk) (by have := hB.l2; omega)
  unfold g_law_is_free
  refine go_i ?_
  unfold tupI at q ⊢
  pv_eval
  refine ⟨by rw [enD_len, List.length_map]; omega, ?_⟩
  refine goL_filt (seenAt js ns) fstD (fun d hd => ?_) ?_
  · obtain ⟨i, k, hik, rfl⟩ := en_ints hd
    refine ⟨_, rfl, rfl, fun Q q => ?_, fun Q _ q => ?_⟩
    · pv_eval
      rw [cutTo, ← List.map_take]
      refine cl_law_seen hB (keySet_take hk i) ?_
      unfold tupI
      pv_eval
      rw [all_flat, in_ints]
      exact ⟨⟨rfl, rfl⟩, q⟩
    · pv_eval
      exact q
  · pv_eval
    rw [free_empty]
    refine ⟨eqC_nc (k := 1) (l := 1) (D.ncs_mem.mpr fun d hd => ?_) (D.nds_mem.mpr fun d hd => ?_) rfl rfl, q⟩
    · obtain ⟨e, he, rfl⟩ := List.mem_map.mp hd
      obtain ⟨i, k, hik, rfl⟩ := en_ints (List.mem_filter.mp he).1
      have := (List.getElem?_eq_some_iff.mp hik).1
      exact nc_num (p200 (by omega))
    · obtain ⟨e, he, rfl⟩ := List.mem_map.mp hd
      obtain ⟨i, k, hik, rfl⟩ := en_ints (List.mem_filter.mp he).1
      rfl
theorem cl_law_is_free {n : Int} {js : List (Int × Int)} {ns : List Int} (h : Brd n js) (hk : keySet ns (js.length - 1)) {Q : T → List T → Prop} {E : Ex → List T → Prop} (q : Q (.fr (.bl (isFree js ns))) [.fr (boardD n js), .fr (tupI ns)]) : calls sp_law_is_free [.fr (boardD n js), .fr (tupI ns)] Q E :=
  ⟨n, js, ns, rfl, h, hk, q⟩
def sp_law_right : SpD := fun ts Q _ => ∃ (n : Int) (js : List (Int × Int)) (v : DL.D), ts = [.fr (boardD n js), .fr v, .lst [.fr (.bl (seenSet js v)), .fr (.bl (pressedSet js v))]] ∧ Brd n js ∧ Shw v ∧ shortD v ∧ Q (.fr (.bl true)) ts
theorem ln_law_right : ∀ ts Q E, sp_law_right ts Q E → ts.length = 3 := by rintro _ Q E ⟨v, n, m, rfl, _⟩; rfl
def g_law_right : ST' := (sSq (sAs 3 (tVL RRep (tA1 false (tLs (tA1 false (tVr 0) (tA1 false (tVr 1) tA0))) tA0)))
  (sSq (sAs 4 (tLs (tA1 false (tClF sp_is_seen_set (tA1 false (tVr 0) (tA1 false (tVr 1) tA0))) (tA1 false (tClF sp_is_pressed_set (tA1 false (tVr 0) (tA1 false (tVr 1) tA0))) tA0))))
  (sSq (sAs 4 (tAd false (tVr 4) (tLs (tA1 false (tClKF sp_is_seen_set [1, 0] (tA1 false (tVr 1) (tA1 false (tVr 0) tA0))) (tA1 false (tClKF sp_is_pressed_set [1, 0] (tA1 false (tVr 1) (tA1 false (tVr 0) tA0))) tA0)))))
  (sRt (tAv (tV2 REq false (tVL RRep (tA1 false (tVr 4) tA0)) (tVL RRep (tA1 false (tMu false (tVr 2) (tK (.int 2))) tA0))) (tV2 REq false (tVL RRep (tA1 false (tLs (tA1 false (tVr 0) (tA1 false (tVr 1) tA0))) tA0)) (tVr 3)))))))

theorem shw_bl {b : Bool} : Shw (.bl b) := by cases b <;> exact ⟨by decide +kernel, by decide +kernel⟩
theorem vc_law_right : ∀ ts QD EXD, sp_law_right ts QD EXD → g_law_right (fnEnds [0, 1, 2] ts QD) (fnX [0, 1, 2] ts EXD) (startE ["_law_frame_here", "_law_given", "_law_dues", "_law_old_here", "_law_told"] ts) := by
  rintro _ Q E ⟨n, js, v, rfl, hB, hv, hs, q⟩
  have hp := D.nc_py _ _ hv.1
  have SB := shw_board hB
  unfold g_law_right
  refine go_i ?_
  pv_eval
  refine ⟨rep_lst (by simp [SB, hv]) (by simp), cl_is_seen_set hB hp hs ?_⟩
  pv_eval
  refine cl_is_pressed_set hB hp hs ?_
  pv_eval
  refine cl_is_seen_set hB hp hs ?_
  pv_eval
  refine cl_is_pressed_set hB hp hs ?_
  pv_eval
  have e2 : (List.replicate (Int.toNat 2) [D.bl (seenSet js v), D.bl (pressedSet js v)]).flatten = [D.bl (seenSet js v), D.bl (pressedSet js v), D.bl (seenSet js v), D.bl (pressedSet js v)] := rfl
  have hd : ∀ d ∈ [D.bl (seenSet js v), D.bl (pressedSet js v), D.bl (seenSet js v), D.bl (pressedSet js v)], Shw d := fun d hd => by
    simp only [List.mem_cons, List.not_mem_nil, or_false] at hd
    rcases hd with rfl | rfl | rfl | rfl <;> exact shw_bl
  rw [e2]
  refine ⟨rep_lst hd (by simp), by decide, by decide, rep_lst hd (by simp), ?_⟩
  pv_eval
  exact ⟨rep_lst (by simp [SB, hv]) (by simp), q⟩
theorem cl_law_right {n : Int} {js : List (Int × Int)} {v : DL.D} {b1 b2 : Bool} (h : Brd n js) (hv : Shw v) (hs : shortD v) (e1 : b1 = seenSet js v) (e2 : b2 = pressedSet js v) {Q : T → List T → Prop} {E : Ex → List T → Prop} (q : Q (.fr (.bl true)) [.fr (boardD n js), .fr v, .lst [.fr (.bl b1), .fr (.bl b2)]]) : calls sp_law_right [.fr (boardD n js), .fr v, .lst [.fr (.bl b1), .fr (.bl b2)]] Q E := by
  subst e1 e2
  exact ⟨n, js, v, rfl, h, hv, hs, q⟩
def sp_law_set_right : SpD := fun ts Q _ => ∃ (n : Int) (js : List (Int × Int)) (ns : List Int), ts = [.fr (boardD n js), .fr (tupI ns)] ∧ Brd n js ∧ keySet ns (js.length - 1) ∧ Q (.fr (.bl true)) ts
theorem ln_law_set_right : ∀ ts Q E, sp_law_set_right ts Q E → ts.length = 2 := by rintro _ Q E ⟨v, n, m, rfl, _⟩; rfl
def g_law_set_right : ST' := (sRt (tCl sp_law_right (tA1 true (tVr 0) (tA1 true (tVr 1) (tA1 false (tLs (tA1 true (tV2 REq false (tCl sp_law_seen (tA1 false (tVr 0) (tA1 false (tVr 1) tA0))) (tVr 1)) (tA1 false (tCl sp_law_is_free (tA1 false (tVr 0) (tA1 false (tVr 1) tA0))) tA0))) tA0)))))

theorem vc_law_set_right : ∀ ts QD EXD, sp_law_set_right ts QD EXD → g_law_set_right (fnEnds [0, 1] ts QD) (fnX [0, 1] ts EXD) (startE ["_law_frame_here", "_law_down_here"] ts) := by
  rintro _ Q E ⟨n, js, ns, rfl, hB, hk, q⟩
  have h45 := keysIn_45 (keySet_in hk) (by have := hB.l2; omega)
  have s45 := keysIn_45 (shown_in (js := js) (ns := ns)) (by have := hB.l2; omega)
  have hi := isSet_iff.mpr hk
  unfold g_law_set_right
  refine go_i ?_
  pv_eval
  refine cl_law_seen hB hk ?_
  pv_eval
  rw [eqv_tupI]
  refine ⟨eqC_tupI s45 h45, cl_law_is_free hB hk ?_⟩
  pv_eval
  refine cl_law_right hB (shw_tupI hk hB.l2) (short_tupI hk hB.l2) ?_ ?_ ?_
  · simp only [seenSet, hi, Bool.true_and, intsOf_tupI]
  · simp only [pressedSet, hi, Bool.true_and, intsOf_tupI]
  pv_eval
  exact q
theorem cl_law_set_right {n : Int} {js : List (Int × Int)} {ns : List Int} (h : Brd n js) (hk : keySet ns (js.length - 1)) {Q : T → List T → Prop} {E : Ex → List T → Prop} (q : Q (.fr (.bl true)) [.fr (boardD n js), .fr (tupI ns)]) : calls sp_law_set_right [.fr (boardD n js), .fr (tupI ns)] Q E :=
  ⟨n, js, ns, rfl, h, hk, q⟩
def sp_law_subsets : SpD := fun ts Q _ => ∃ c : Int, ts = [.fr (.int c)] ∧ 0 ≤ c ∧ c ≤ 7 ∧ ∀ xs : List (List Int), (∀ ns ∈ xs, keySet ns (c - 1)) → xs.length ≤ 128 → Q (.lst ((xs.map tupI).map .fr)) ts
theorem ln_law_subsets : ∀ ts Q E, sp_law_subsets ts Q E → ts.length = 1 := by rintro _ Q E ⟨v, rfl, _⟩; rfl
def g_law_subsets : ST' := (sSq (sAs 1 (tLs (tA1 false (tTp tA0) tA0)))
  (sSq (sFor (tIt1 (tA1 false (tVr 0) tA0)) (.nm 2) (sAs 1 (tAd false (tVr 1) (tLcD (tItL (tVr 1)) (.nm 3) [3] tYs (tAd false (tVr 3) (tTp (tA1 false (tVr 2) tA0)))))))
  (sRt (tVr 1))))

theorem keySet_snoc {ns : List Int} {i : Int} (h : keySet ns (i - 1)) (h0 : 0 ≤ i) : keySet (ns ++ [i]) i := by
  refine ⟨fun k hk => ?_, ?_⟩
  · rcases List.mem_append.mp hk with hk | hk
    · have := h.1 k hk; omega
    · simp only [List.mem_singleton] at hk; omega
  · rw [List.pairwise_append]
    refine ⟨h.2, by simp, fun a ha b hb => ?_⟩
    simp only [List.mem_singleton] at hb
    have := h.1 a ha
    omega
theorem keySet_mono {ns : List Int} {i j : Int} (h : keySet ns i) (hij : i ≤ j) : keySet ns j := ⟨fun k hk => by have := h.1 k hk; omega, h.2⟩
def plusI (i : Int) (d : DL.D) : DL.D := match d with
  | .tup ds => .tup (ds ++ [.int i])
  | _ => .non
theorem vc_law_subsets : ∀ ts QD EXD, sp_law_subsets ts QD EXD → g_law_subsets (fnEnds [0] ts QD) (fnX [0] ts EXD) (startE ["_law_count", "_law_found", "_law_one_key", "_law_down_here"] ts) := by
  rintro _ Q E ⟨c, rfl, c0, c1, q⟩
  unfold g_law_subsets
  refine go_i ?_
  pv_eval
  refine ⟨by omega, by omega, goF_ind (fun i ε => ∃ (xs : List (List Int)) (x2 x3 : Option T), ε = [some (.fr (.int c)), some (.lst ((xs.map tupI).map .fr)), x2, x3] ∧ (∀ ns ∈ xs, keySet ns ((i : Int) - 1) ∧ ns.length ≤ i) ∧ xs.length = 2 ^ i) ?_ ?_ ?_⟩
  · exact ⟨[[]], none, none, rfl, by simp [keySet], rfl⟩
  · rintro ε' ⟨xs, x2, x3, rfl, hx, hl⟩
    rw [rgD_len] at hx hl
    pv_eval
    refine q xs (fun ns hns => keySet_mono (hx ns hns).1 (by omega)) ?_
    rw [hl]
    exact Nat.pow_le_pow_right (by decide) (show c.toNat ≤ 7 by omega)
  · rintro i d ε' N hd ⟨xs, x2, x3, rfl, hx, hl⟩ hN
    obtain ⟨rfl, hi⟩ := rgD_get hd
    have h7 : i ≤ 6 := by omega
    have hp : xs.length ≤ 64 := by rw [hl]; exact Nat.pow_le_pow_right (by decide) h7
    refine ⟨_, rfl, ?_⟩
    pv_eval
    refine ⟨by rw [List.length_map]; omega, ?_⟩
    refine goL_pure (plusI i) (fun d hd => ?_) ?_
    · obtain ⟨ns, hns, rfl⟩ := List.mem_map.mp hd
      have := (hx ns hns).2
      refine ⟨_, rfl, rfl, fun Q q => ?_⟩
      unfold tupI
      pv_eval
      exact ⟨by rw [List.length_map]; omega, q⟩
    · pv_eval
      have e : (xs.map tupI).map (plusI i) = (xs.map fun ns => ns ++ [(i : Int)]).map tupI := by simp [plusI, tupI, Function.comp_def]
      rw [e, ← List.map_append]
      refine ⟨by simp only [List.length_map]; omega, hN _ ⟨xs ++ xs.map fun ns => ns ++ [(i : Int)], _, _, rfl, fun ns hns => ?_, ?_⟩⟩
      · rcases List.mem_append.mp hns with h | h
        · obtain ⟨h1, h2⟩ := hx ns h
          exact ⟨keySet_mono h1 (by omega), by omega⟩
        · obtain ⟨ms, hm, rfl⟩ := List.mem_map.mp h
          obtain ⟨h1, h2⟩ := hx ms hm
          refine ⟨?_, by simp; omega⟩
          have := keySet_snoc h1 (by omega)
          rw [show (((i + 1 : Nat) : Int) - 1) = (i : Int) by omega]
          exact this
      · rw [List.length_append, List.length_map, hl, Nat.pow_succ]
        omega
theorem cl_law_subsets {c : Int} (c0 : 0 ≤ c) (c1 : c ≤ 7) {Q : T → List T → Prop} {E : Ex → List T → Prop} (q : ∀ xs : List (List Int), (∀ ns ∈ xs, keySet ns (c - 1)) → xs.length ≤ 128 → Q (.lst ((xs.map tupI).map .fr)) [.fr (.int c)]) : calls sp_law_subsets [.fr (.int c)] Q E :=
  ⟨c, rfl, c0, c1, q⟩
end GL

namespace GL
open PySem PySem.Spec L2 DL
/-- a reading is followed as far as it goes -/
local macro_rules | `(tactic| pv_eval) => `(tactic| simp -dsimp only [e_tVr, e_tK, e_tV1, e_tV2, e_tTs, e_tN, e_tAn, e_tOn, e_tAv, e_tOv, e_tNv, e_tIf1, e_tCh, e_tA0, e_tA1, e_tTp, e_tLs, e_tLf, e_tDc0, e_tVL, e_tIsi, e_tLi, e_tTu, e_tAd, e_tMu, e_tSc, e_tO0, e_tO1, e_tIx, e_tCl, e_tClK, e_tClF, e_tClKF, onlyD, e_tRev, rvK_l, rvK_t, e_tLenSet, e_tSoA, e_tIsi2, e_tAS, seqK_t, seqK_l, e_tClS, List.take_succ_cons, List.take_zero, List.drop_succ_cons, List.drop_zero, intsQ_l, intsQ_t, e_tApp, e_tExt, e_tItL, e_tItT, e_tIt1, e_tIt2, e_tYs, goL_nil, goF_nil, go2_nil, e_tLcD, e_tLcD2, e_sNx, e_sSq, e_sNever, e_sEx, e_sRt, e_sRtN, e_sIf, e_sAs, e_sUn, e_sFor, e_sForP, sqK_t, sqK_f, sqK_l, Option.map_some, e_sPr, e_sSt, fe_nx, fe_rt, fe_x, oM_s, oM_n, iB_t, iB_f, oB_b, zB_b, oI_i, oL_1, dL_l, dT_t, sL_l, isAt_a, r2_I, r2_Ic, r2_N, r2_nN, r2_nB, r2_Eq, r2_Ne, r2_InL, r2_InFl, r2_InFt, r1_Neg, rL_lenS, rL_lenL, rL_lenT, rL_lenC, rL_abs, rL_max, rL_min, rL_intI, rL_intB, rL_str, rL_all, rL_any, rL_rep, o2I_i, vr_f, vr_l, vr_d, vr_o, ixE_f, ixE_la, ixE_lo, ixT_t, ixT_l, ixT_c', ixT_s, ixT_o, addK_i, addK_s, addK_l, addK_t, mulK_i, mulK_l, slK_l, slK_t, slK_s, rtK_d, rtK_o, rtK_a, rtK_p, asK_d, asK_o, asK_a, pd_d, pd_o, pd_a, pd_p, at00, at01, at02, ixN_30, ixN_31, ixN_32, ixN_20, ixN_21, ixN_S0, at_S0, e_tItE, e_tItZ, e_tLr, e_tSo, e_tDg2, e_sDp, o2_2, e_tLVals, e_tSSet, sTu_t, dsFr, dsFr_map,
  Rv.vw, Rv.tr, Rv.sq, Rv.fz, T.get, T.kid, T.set, T.setKid, T.d, T.ds, T.rv, T.frO, D.sq, Sq.its, flatT, vws, owns, takeT, giveT, DL.lstAt, DL.putAt, pickL, Pat.bind, Pat.binds, wipeE, unwipe, setAll, startE, parsFrom, at_0, at_S, set_0, set_S, List.map_cons, List.map_nil, List.length_cons, List.length_nil, List.replicate, List.cons_append, List.nil_append, List.append_nil, List.filterMap_cons, List.filterMap_nil, List.getElem?_cons_zero, List.getElem?_cons_succ, Option.map_some, Option.bind_some, Option.isSome_some, and_true, true_and, List.mem_cons, List.mem_singleton, List.not_mem_nil, or_false, false_or, or_true, true_or, if_true, if_false, Nat.zero_add, Nat.add_zero, Nat.reduceAdd, Nat.reduceSub, Nat.reduceEqDiff, reduceCtorEq, true_implies, false_implies, implies_true, false_and, and_false, not_true_eq_false, not_false_eq_true, Bool.true_eq_false, eqC_ii, eqC_ss, eqv_ii, eqv_ss, D.isN, isK, D.ty, Bool.not_true, Bool.not_false, decide_eq_true_eq, Bool.false_eq_true, eq_self, Bool.or_false, Bool.false_or, ite_true, ite_false, and_self, decide_true, decide_false, T.ds_fr, T.ds_map, Int.cast_ofNat_Int, blsD, blsD_f, List.all_cons, List.all_nil, List.any_cons, List.any_nil, id_eq, Bool.and_true, sizeLine_eq, List.isEmpty_nil, List.isEmpty_cons, eqv_l0, eqv_t0, Nat.reduceLeDiff, Nat.reduceLT, Int.reduceLE, Int.reduceLT, Int.reduceEq, Nat.reducePow, flatT_fr, Int.zero_add, fzL, zpItems, intsD, intsD_map, dicAt, keyAt, ownDic, putDic,
  kit_NoneType_int, kit_NoneType_bool, kit_NoneType_tuple, kit_NoneType_list, kit_NoneType_str, kit_NoneType_dict, kit_bool_int, kit_bool_bool, kit_bool_tuple, kit_bool_list, kit_bool_str, kit_bool_dict, kit_int_int, kit_int_bool, kit_int_tuple, kit_int_list, kit_int_str, kit_int_dict, kit_str_int, kit_str_bool, kit_str_tuple, kit_str_list, kit_str_str, kit_str_dict, kit_tuple_int, kit_tuple_bool, kit_tuple_tuple, kit_tuple_list, kit_tuple_str, kit_tuple_dict, kit_list_int, kit_list_bool, kit_list_tuple, kit_list_list, kit_list_str, kit_list_dict, kit_dict_int, kit_dict_bool, kit_dict_tuple, kit_dict_list, kit_dict_str, kit_dict_dict])
def sp_law_grown : SpD := fun ts Q _ => ∃ (m : Int) (j : T) (n : Int) (js : List (Int × Int)) (most : Int), ts = [j, .fr (boardD n js), .fr (.int most)] ∧ Jug m j ∧ m < 300000000 ∧ Brd n js ∧ 0 ≤ most ∧ most ≤ 1000 ∧
  ∀ ns j', keySet ns (js.length - 1) → Jug (m + most) j' → Q (.fr (tupI ns)) [j', .fr (boardD n js), .fr (.int most)]
theorem ln_law_grown : ∀ ts Q E, sp_law_grown ts Q E → ts.length = 3 := by rintro _ Q E ⟨v, n, m, _, _, rfl, _⟩; rfl
def g_law_grown : ST' := (sSq (sAs 3 (tTp tA0))
  (sSq (sFor (tIt1 (tA1 false (tVr 2) tA0)) (.nm 4) (sSq (sAs 5 (tCl sp_law_seen (tA1 false (tVr 1) (tA1 false (tVr 3) tA0))))
  (sSq (sAs 6 (tLcD (tIt1 (tA1 false (tVL RLen (tA1 false (tIx false (tVr 1) (tK (.int 1))) tA0)) tA0)) (.nm 7) [7] (tTs (tV2 (RInF true) false (tVr 7) (tVr 5))) (tVr 7)))
  (sIf (tTs (tV2 RNe false (tVr 6) (tLs tA0))) (sAs 3 (tTu (tA1 false (tSoA (tA1 false (tAd true (tVr 3) (tTp (tA1 false (tIx true (tVr 6) (tCl sp_law_pour (tA1 false (tVr 0) (tA1 false (tVL RLen (tA1 false (tVr 6) tA0)) tA0)))) tA0))) tA0)) tA0))) sNx))))
  (sRt (tVr 3))))

theorem rgD_I {n : Nat} : rgD 0 n = (rgI n).map D.int := by simp [rgD, rgI]
theorem filt_ints {ms : List Int} {t : Int → Bool} {u : DL.D → Bool} (h : ∀ k, u (.int k) = t k) : (ms.map D.int).filter u = (ms.filter t).map D.int := by
  rw [List.filter_map]
  congr 1
  exact List.filter_congr fun k _ => h k
theorem vc_law_grown : ∀ ts QD EXD, sp_law_grown ts QD EXD → g_law_grown (fnEnds [0, 1, 2] ts QD) (fnX [0, 1, 2] ts EXD) (startE ["_law_jug_here", "_law_frame_here", "_law_most", "_law_down_here", "_law_turn", "_law_hidden", "_law_left", "_law_one_key"] ts) := by
  rintro _ Q E ⟨m, j, n, js, most, rfl, hj, hm, hB, m0, m1, q⟩
  unfold g_law_grown
  refine go_i ?_
  obtain ⟨a, b, c, rfl, _⟩ := id hj
  pv_eval
  refine ⟨by omega, by omega, goF_ind (fun i ε => ∃ (ns : List Int) (jj : T) (x4 x5 x6 x7 : Option T), ε = [some jj, some (.fr (boardD n js)), some (.fr (.int most)), some (.fr (tupI ns)), x4, x5, x6, x7] ∧ keySet ns (js.length - 1) ∧ Jug (m + i) jj) ?_ ?_ ?_⟩
  · exact ⟨[], _, none, none, none, none, rfl, ⟨by simp, .nil⟩, hj.mono (by omega)⟩
  · rintro ε' ⟨ns, jj, x4, x5, x6, x7, rfl, hk, hjj⟩
    rw [rgD_len] at hjj
    obtain ⟨a, b, c, rfl, _⟩ := id hjj
    pv_eval
    exact q ns _ hk (hjj.mono (by omega))
  · rintro i d ε' N hd ⟨ns, jj, x4, x5, x6, x7, rfl, hk, hjj⟩ hN
    obtain ⟨rfl, hi⟩ := rgD_get hd
    obtain ⟨a, b, c, rfl, _⟩ := id hjj
    refine ⟨_, rfl, ?_⟩
    pv_eval
    refine cl_law_seen hB hk ?_
    have hl := hB.l2
    unfold boardD tupI
    pv_eval
    rw [rgD_I]
    refine ⟨by simp <;> omega, by simp <;> omega, by rw [List.length_map, rgI_len]; simp <;> omega, ?_⟩
    refine goL_filt (fun d => !((shown js ns).map D.int).any fun e => e.eqv d) id (fun d hd => ?_) ?_
    · obtain ⟨w, hw, rfl⟩ := List.mem_map.mp hd
      refine ⟨_, rfl, rfl, fun Q q => ?_, fun Q _ q => ?_⟩
      · pv_eval
        rw [all_flat]
        exact ⟨⟨rfl, rfl⟩, q⟩
      · pv_eval
        exact q
    rw [filt_ints (t := fun k => !decide (k ∈ shown js ns)) fun k => by rw [in_ints]]
    have hL : ∀ k ∈ (rgI ((js.map jointD).length : Int).toNat).filter (fun k => !decide (k ∈ shown js ns)), 0 ≤ k ∧ k < js.length ∧ k ∉ shown js ns := fun k hk => by
      obtain ⟨h1, h2⟩ := List.mem_filter.mp hk
      have := rgI_mem.mp h1
      simp only [List.length_map] at this
      exact ⟨this.1, by omega, by simpa using h2⟩
    have hLl : ((rgI ((js.map jointD).length : Int).toNat).filter (fun k => !decide (k ∈ shown js ns))).length ≤ 1000 := by
      refine Nat.le_trans (List.length_filter_le _ _) ?_
      rw [rgI_len]
      simp; omega
    generalize (rgI ((js.map jointD).length : Int).toNat).filter (fun k => !decide (k ∈ shown js ns)) = ls at hL hLl ⊢
    have hns : ns.length ≤ 1000 := by have := keySet_len hk; omega
    pv_eval
    refine ⟨eqC_nc (k := 1) (l := 1) (D.ncs_mem.mpr fun d hd => ?_) (D.nds_mem.mpr fun d hd => ?_) rfl rfl, ?_⟩
    · obtain ⟨k, hk, rfl⟩ := List.mem_map.mp hd
      have := hL k hk
      exact nc_num (p200 (by omega))
    · obtain ⟨k, hk, rfl⟩ := List.mem_map.mp hd
      rfl
    refine iB_i (fun h => ?_) (fun h => ?_)
    · have hne : ls ≠ [] := by rintro rfl; simp at h
      have hpos : 0 < ls.length := List.length_pos_iff.mpr hne
      pv_eval
      refine cl_law_pour hjj (by omega) (by simp; omega) (by simp; omega) fun r j2 r0 r1 hj2 => ?_
      obtain ⟨a, b, c, rfl, _⟩ := id hj2
      pv_eval
      refine pick_i (P := fun d => ∃ k : Int, d = .int k ∧ k ∈ ls) rfl r0 (by simpa using r1) ?_ ?_
      · intro t ht
        obtain ⟨d, hd, rfl⟩ := List.mem_map.mp ht
        obtain ⟨k, hk, rfl⟩ := List.mem_map.mp hd
        exact ⟨_, rfl, k, rfl, hk⟩
      rintro i2 _ ⟨k, rfl, hkl⟩
      have hkk := hL k hkl
      pv_eval
      refine ⟨by rw [List.length_map]; omega, ?_⟩
      rw [show ns.map D.int ++ [D.int k] = (ns ++ [k]).map D.int by simp, intsD_map]
      pv_eval
      intro ms hp hs
      have hnd : (ns ++ [k]).Nodup := by
        rw [List.nodup_append]
        refine ⟨pw_nodup hk.2, by simp, fun a ha b hb => ?_⟩
        simp only [List.mem_singleton] at hb
        subst hb
        rintro rfl
        exact hkk.2.2 (sub_shown (keySet_in hk) ha)
      refine hN _ ⟨ms, _, _, _, _, _, rfl, ⟨fun x hx => ?_, asc_of hp hs hnd⟩, hj2.mono (by omega)⟩
      rcases List.mem_append.mp (hp.mem_iff.mp hx) with hx | hx
      · exact hk.1 x hx
      · simp only [List.mem_singleton] at hx; omega
    · pv_eval
      exact hN _ ⟨ns, _, _, _, _, _, rfl, hk, hjj.mono (by omega)⟩
theorem cl_law_grown {m : Int} {j : T} {n : Int} {js : List (Int × Int)} {most : Int} (hj : Jug m j) (hm : m < 300000000) (hB : Brd n js) (m0 : 0 ≤ most) (m1 : most ≤ 1000) {Q : T → List T → Prop} {E : Ex → List T → Prop}
    (q : ∀ ns j', keySet ns (js.length - 1) → Jug (m + most) j' → Q (.fr (tupI ns)) [j', .fr (boardD n js), .fr (.int most)]) : calls sp_law_grown [j, .fr (boardD n js), .fr (.int most)] Q E := ⟨m, j, n, js, most, rfl, hj, hm, hB, m0, m1, q⟩
/-- a value that is no set of keys -/
structure Odd (m : Int) (v : DL.D) : Prop where
  no : isSet v (some m) = false
  sh : Shw v
  sm : shortD v
def ItemW (d : DL.D) : Prop := d.nc 28 = true ∧ d.wt ≤ 1500
theorem shw_tupW {ds : List DL.D} (h : ∀ d ∈ ds, ItemW d) (hl : ds.length ≤ 1200) : Shw (.tup ds) := by
  refine ⟨D.ncs_mem.mpr fun d hd => D.nc_up _ _ (h d hd).1, ?_⟩
  have := D.wts_le (m := 1500) (ds := ds) fun d hd => (h d hd).2
  have : ds.length * 1502 ≤ 1200 * 1502 := Nat.mul_le_mul_right _ hl
  show D.wts ds + 3 ≤ _
  omega
theorem shw_lstW {ds : List DL.D} (h : ∀ d ∈ ds, ItemW d) (hl : ds.length ≤ 1200) : Shw (.lst ds) := by
  refine ⟨D.ncs_mem.mpr fun d hd => D.nc_up _ _ (h d hd).1, ?_⟩
  have := D.wts_le (m := 1500) (ds := ds) fun d hd => (h d hd).2
  have : ds.length * 1502 ≤ 1200 * 1502 := Nat.mul_le_mul_right _ hl
  show D.wts ds + 2 ≤ _
  omega
theorem itemW_int {i : Int} (h : i.natAbs < 10 ^ 45) : ItemW (.int i) := ⟨nc_num (p200 h), by have := wt_num (p200 h); omega⟩
theorem odd_item {m : Int} {ds : List DL.D} {d : DL.D} (hd : d ∈ ds) (h : isInt d 0 (some m) = false) : isSet (.tup ds) (some m) = false := by
  show (ds.all (fun d => isInt d 0 (some m)) && _) = false
  have : ds.all (fun d => isInt d 0 (some m)) = false := by
    rw [List.all_eq_false]
    exact ⟨d, hd, by simp [h]⟩
  rw [this, Bool.false_and]
theorem odd_twice {m : Int} {ns : List Int} : isSet (tupI (ns ++ [0, 0])) (some m) = false := by
  cases e : isSet (tupI (ns ++ [0, 0])) (some m) with
  | false => rfl
  | true =>
    have := (isSet_iff.mp e).2
    rw [List.pairwise_append] at this
    have := this.2.1
    simp at this
def sp_law_others : SpD := fun ts Q _ => ∃ (m : Int) (j : T) (n : Int) (js : List (Int × Int)) (ns : List Int), ts = [j, .fr (boardD n js), .fr (tupI ns)] ∧ Jug m j ∧ m < 300000000 ∧ Brd n js ∧ js.length ≤ 100 ∧ keySet ns (js.length - 1) ∧
  ∀ (gs : List DL.D) (j' : T), (∀ g ∈ gs, Odd (js.length - 1) g) → Jug (m + 2) j' → Q (.lst (gs.map .fr)) [j', .fr (boardD n js), .fr (tupI ns)]
theorem ln_law_others : ∀ ts Q E, sp_law_others ts Q E → ts.length = 3 := by rintro _ Q E ⟨v, n, m, _, _, rfl, _⟩; rfl
def g_law_others : ST' := (sSq (sPr [3, 4] (tA1 true (tVL RLen (tA1 false (tIx false (tVr 1) (tK (.int 1))) tA0)) (tA1 false (tCl sp_law_pour (tA1 false (tVr 0) (tA1 false (tAd false (tVL RLen (tA1 false (tVr 2) tA0)) (tK (.int 1))) tA0))) tA0)))
  (sSq (sAs 5 (tIx true (tLf (tA1 false (tV1 RNeg (tK (.int 1))) (tA1 false (tVr 3) (tA1 false (tAd false (tVr 3) (tK (.int 5))) (tA1 false (tK .non) (tA1 false (tK (.bl true)) (tA1 false (tK (.str "0")) (tA1 false (tTp (tA1 false (tK (.int 0)) tA0)) (tA1 false (tLs tA0) (tA1 false (tV2 RPow false (tK (.int 10)) (tK (.int 39))) tA0)))))))))) (tCl sp_law_pour (tA1 false (tVr 0) (tA1 false (tK (.int 9)) tA0)))))
  (sSq (sAs 6 (tLf (tA1 false (tAd false (tAd false (tSc false false (tVr 2) tO0 (tO1 (tVr 4))) (tTp (tA1 false (tVr 5) tA0))) (tSc false false (tVr 2) (tO1 (tVr 4)) tO0)) (tA1 false (tLi (tA1 false (tVr 2) tA0)) (tA1 false (tK .non) (tA1 false (tK (.int 0)) (tA1 false (tK (.str "")) (tA1 false tDc0 (tA1 false (tTp (tA1 false (tVr 2) tA0)) (tA1 false (tAd false (tVr 2) (tTp (tA1 false (tK (.int 0)) (tA1 false (tK (.int 0)) tA0)))) (tA1 false (tTp (tA1 false (tK (.int 1)) (tA1 false (tK (.int 0)) tA0))) (tA1 false (tVr 1) tA0))))))))))))
  (sRt (tAd false (tVr 6) (tLf (tA1 false (tAd false (tRev (tVr 2)) (tTp (tA1 false (tK (.int 0)) (tA1 false (tK (.int 0)) tA0)))) (tA1 false (tK (.bl true)) (tA1 false (tTp (tA1 false (tTp tA0) tA0)) (tA1 false (tLf (tA1 false (tLs tA0) tA0)) tA0))))))))))

theorem vc_law_others : ∀ ts QD EXD, sp_law_others ts QD EXD → g_law_others (fnEnds [0, 1, 2] ts QD) (fnX [0, 1, 2] ts EXD) (startE ["_law_jug_here", "_law_frame_here", "_law_down_here", "_law_count", "_law_at", "_law_odd", "_law_found"] ts) := by
  rintro _ Q E ⟨m, j, n, js, ns, rfl, hj, hm, hB, hl1, hk, q⟩
  have hl := hB.l2
  have hns : ns.length ≤ 100 := by have := keySet_len hk; omega
  unfold g_law_others
  refine go_i ?_
  obtain ⟨a, b, c, rfl, _⟩ := id hj
  unfold boardD tupI at q ⊢
  pv_eval
  refine cl_law_pour hj (by omega) (by simp <;> omega) (by simp <;> omega) fun at' j1 a0 a1 hj1 => ?_
  obtain ⟨a, b, c, rfl, _⟩ := id hj1
  pv_eval
  refine ⟨powW 4 (by decide) (by decide) (by decide), ?_⟩
  refine cl_law_pour hj1 (by omega) (by decide) (by decide) fun r j2 r0 r1 hj2 => ?_
  obtain ⟨a, b, c, rfl, _⟩ := id hj2
  pv_eval
  have h45 := keysIn_45 (keySet_in hk) (by omega)
  have hnW : ∀ d ∈ ns.map D.int, ItemW d := fun d hd => by
    obtain ⟨k, hk, rfl⟩ := List.mem_map.mp hd
    exact itemW_int (h45 k hk)
  refine pick_i (P := fun d => ItemW d ∧ isInt d 0 (some (js.length - 1)) = false) rfl r0 r1 ?_ ?_
  · intro t ht
    have hlm : ((js.map jointD).length : Int) = js.length := by rw [List.length_map]
    rw [hlm] at ht
    simp only [List.mem_cons, List.not_mem_nil, or_false] at ht
    rcases ht with rfl | rfl | rfl | rfl | rfl | rfl | rfl | rfl | rfl
    · exact ⟨_, rfl, itemW_int (by decide), by simp [isInt]⟩
    · exact ⟨_, rfl, itemW_int (by omega), by simp [isInt]; omega⟩
    · exact ⟨_, rfl, itemW_int (by omega), by simp [isInt]; omega⟩
    · exact ⟨_, rfl, ⟨by decide +kernel, by decide +kernel⟩, rfl⟩
    · exact ⟨_, rfl, ⟨by decide +kernel, by decide +kernel⟩, rfl⟩
    · exact ⟨_, rfl, ⟨by decide +kernel, by decide +kernel⟩, rfl⟩
    · exact ⟨_, rfl, ⟨by decide +kernel, by decide +kernel⟩, rfl⟩
    · exact ⟨_, rfl, ⟨by decide +kernel, by decide +kernel⟩, rfl⟩
    · refine ⟨_, rfl, itemW_int (by decide), ?_⟩
      have : (10 : Int) ^ Int.toNat 39 = 1000000000000000000000000000000000000000 := by decide
      rw [this]
      simp [isInt]
      omega
  rintro i2 odd ⟨ho, hio⟩
  pv_eval
  have c1 : (cutL (ns.map D.int) none (some at')).length ≤ 100 := Nat.le_trans cutL_len (by rw [List.length_map]; exact hns)
  have c2 : (cutL (ns.map D.int) (some at') none).length ≤ 100 := Nat.le_trans cutL_len (by rw [List.length_map]; exact hns)
  refine ⟨by omega, by rw [List.length_append, List.length_singleton]; omega, by rw [List.length_map]; omega, ?_⟩
  have e0 : (ns.map D.int).reverse ++ [D.int 0, D.int 0] = (ns.reverse ++ [0, 0]).map D.int := by simp
  have e1 : ns.map D.int ++ [D.int 0, D.int 0] = (ns ++ [0, 0]).map D.int := by simp
  have W0 : ∀ d ∈ [D.int 0, D.int 0], ItemW d := fun d hd => by
    simp only [List.mem_cons, List.not_mem_nil, or_false] at hd
    rcases hd with rfl | rfl <;> exact itemW_int (by decide)
  refine ⟨by rw [List.length_reverse, List.length_map]; omega, q [_, _, _, _, _, _, _, _, _, _, _, _, _, _] _ (fun g hg => ?_) (hj2.mono (by omega))⟩
  simp only [List.mem_cons, List.not_mem_nil, or_false] at hg
  rcases hg with rfl | rfl | rfl | rfl | rfl | rfl | rfl | rfl | rfl | rfl | rfl | rfl | rfl | rfl
  · refine ⟨odd_item (d := odd) (by simp) hio, shw_tupW (fun d hd => ?_) (by simp only [List.length_append, List.length_singleton]; omega), ?_⟩
    · simp only [List.mem_append, List.mem_singleton] at hd
      rcases hd with (hd | rfl) | hd
      · exact hnW d (cutL_mem hd)
      · exact ho
      · exact hnW d (cutL_mem hd)
    · show (_ : List DL.D).length ≤ 1000000
      simp only [List.length_append, List.length_singleton]
      omega
  · exact ⟨rfl, shw_lstW hnW (by rw [List.length_map]; omega), trivial⟩
  · exact ⟨rfl, ⟨by decide +kernel, by decide +kernel⟩, trivial⟩
  · exact ⟨rfl, ⟨by decide +kernel, by decide +kernel⟩, trivial⟩
  · exact ⟨rfl, ⟨by decide +kernel, by decide +kernel⟩, trivial⟩
  · exact ⟨rfl, ⟨by decide +kernel, by decide +kernel⟩, trivial⟩
  · have hs := shw_tupI hk hl
    refine ⟨odd_item (d := .tup (ns.map D.int)) (by simp) rfl, ⟨?_, ?_⟩, show (1 : Nat) ≤ _ by decide⟩
    · show (D.nc 29 (.tup (ns.map D.int)) && true) = true
      rw [show D.nc 29 (.tup (ns.map D.int)) = true from nc_tupI fun i hi => p200 (h45 i hi)]
      rfl
    · have := wts_small h45
      have : ns.length * 312 ≤ 100 * 312 := Nat.mul_le_mul_right _ hns
      show (D.tup (ns.map D.int)).wt + 2 + 0 + 3 ≤ _
      have e : (D.tup (ns.map D.int)).wt = (tupI ns).wt := rfl
      omega
  · refine ⟨by rw [e1]; exact odd_twice, shw_tupW (fun d hd => ?_) (by simp; omega), ?_⟩
    · rcases List.mem_append.mp hd with hd | hd
      · exact hnW d hd
      · exact W0 d hd
    · show (_ : List DL.D).length ≤ 1000000
      simp
      omega
  · refine ⟨?_, ⟨by decide +kernel, by decide +kernel⟩, show (2 : Nat) ≤ _ by decide⟩
    cases e : isSet (.tup [.int 1, .int 0]) (some (js.length - 1)) with
    | false => rfl
    | true =>
      have := (isSet_iff (ns := [1, 0]).mp e).2
      simp at this
  · exact ⟨odd_item (d := .tup (js.map jointD)) (by simp) rfl, shw_board hB, show (2 : Nat) ≤ _ by decide⟩
  · refine ⟨by rw [e0]; exact odd_twice, shw_tupW (fun d hd => ?_) (by simp; omega), ?_⟩
    · rcases List.mem_append.mp hd with hd | hd
      · exact hnW d (List.mem_reverse.mp hd)
      · exact W0 d hd
    · show (_ : List DL.D).length ≤ 1000000
      simp
      omega
  · exact ⟨rfl, ⟨by decide +kernel, by decide +kernel⟩, trivial⟩
  · exact ⟨odd_item (d := .tup []) (by simp) rfl, ⟨by decide +kernel, by decide +kernel⟩, show (1 : Nat) ≤ _ by decide⟩
  · exact ⟨rfl, ⟨by decide +kernel, by decide +kernel⟩, trivial⟩
theorem cl_law_others {m : Int} {j : T} {n : Int} {js : List (Int × Int)} {ns : List Int} (hj : Jug m j) (hm : m < 300000000) (hB : Brd n js) (hl : js.length ≤ 100) (hk : keySet ns (js.length - 1)) {Q : T → List T → Prop} {E : Ex → List T → Prop}
    (q : ∀ (gs : List DL.D) (j' : T), (∀ g ∈ gs, Odd (js.length - 1) g) → Jug (m + 2) j' → Q (.lst (gs.map .fr)) [j', .fr (boardD n js), .fr (tupI ns)]) : calls sp_law_others [j, .fr (boardD n js), .fr (tupI ns)] Q E :=
  ⟨m, j, n, js, ns, rfl, hj, hm, hB, hl, hk, q⟩
end GL

namespace GL
open PySem PySem.Spec L2 DL
/-- a reading is followed as far as it goes -/
local macro_rules | `(tactic| pv_eval) => `(tactic| simp -dsimp only [e_tVr, e_tK, e_tV1, e_tV2, e_tTs, e_tN, e_tAn, e_tOn, e_tAv, e_tOv, e_tNv, e_tIf1, e_tCh, e_tA0, e_tA1, e_tTp, e_tLs, e_tLf, e_tDc0, e_tVL, e_tIsi, e_tLi, e_tTu, e_tAd, e_tMu, e_tSc, e_tO0, e_tO1, e_tIx, e_tCl, e_tClK, e_tClF, e_tClKF, onlyD, e_tRev, rvK_l, rvK_t, e_tLenSet, e_tSoA, e_tIsi2, e_tAS, seqK_t, seqK_l, e_tClS, List.take_succ_cons, List.take_zero, List.drop_succ_cons, List.drop_zero, intsQ_l, intsQ_t, e_tApp, e_tExt, e_tItL, e_tItT, e_tIt1, e_tIt2, e_tYs, goL_nil, goF_nil, go2_nil, e_tLcD, e_tLcD2, e_sNx, e_sSq, e_sNever, e_sEx, e_sRt, e_sRtN, e_sIf, e_sAs, e_sUn, e_sFor, e_sForP, sqK_t, sqK_f, sqK_l, Option.map_some, e_sPr, e_sSt, fe_nx, fe_rt, fe_x, oM_s, oM_n, iB_t, iB_f, oB_b, zB_b, oI_i, oL_1, dL_l, dT_t, sL_l, isAt_a, r2_I, r2_Ic, r2_N, r2_nN, r2_nB, r2_Eq, r2_Ne, r2_InL, r2_InFl, r2_InFt, r1_Neg, rL_lenS, rL_lenL, rL_lenT, rL_lenC, rL_abs, rL_max, rL_min, rL_intI, rL_intB, rL_str, rL_all, rL_any, rL_rep, o2I_i, vr_f, vr_l, vr_d, vr_o, ixE_f, ixE_la, ixE_lo, ixT_t, ixT_l, ixT_c', ixT_s, ixT_o, addK_i, addK_s, addK_l, addK_t, mulK_i, mulK_l, slK_l, slK_t, slK_s, rtK_d, rtK_o, rtK_a, rtK_p, asK_d, asK_o, asK_a, pd_d, pd_o, pd_a, pd_p, at00, at01, at02, ixN_30, ixN_31, ixN_32, ixN_20, ixN_21, ixN_S0, at_S0, e_tItE, e_tItZ, e_tLr, e_tSo, e_tDg2, e_sDp, o2_2, e_tLVals, e_tSSet, sTu_t, dsFr, dsFr_map,
  Rv.vw, Rv.tr, Rv.sq, Rv.fz, T.get, T.kid, T.set, T.setKid, T.d, T.ds, T.rv, T.frO, D.sq, Sq.its, flatT, vws, owns, takeT, giveT, DL.lstAt, DL.putAt, pickL, Pat.bind, Pat.binds, wipeE, unwipe, setAll, startE, parsFrom, at_0, at_S, set_0, set_S, List.map_cons, List.map_nil, List.length_cons, List.length_nil, List.replicate, List.cons_append, List.nil_append, List.append_nil, List.filterMap_cons, List.filterMap_nil, List.getElem?_cons_zero, List.getElem?_cons_succ, Option.map_some, Option.bind_some, Option.isSome_some, and_true, true_and, List.mem_cons, List.mem_singleton, List.not_mem_nil, or_false, false_or, or_true, true_or, if_true, if_false, Nat.zero_add, Nat.add_zero, Nat.reduceAdd, Nat.reduceSub, Nat.reduceEqDiff, reduceCtorEq, true_implies, false_implies, implies_true, false_and, and_false, not_true_eq_false, not_false_eq_true, Bool.true_eq_false, eqC_ii, eqC_ss, eqv_ii, eqv_ss, D.isN, isK, D.ty, Bool.not_true, Bool.not_false, decide_eq_true_eq, Bool.false_eq_true, eq_self, Bool.or_false, Bool.false_or, ite_true, ite_false, and_self, decide_true, decide_false, T.ds_fr, T.ds_map, Int.cast_ofNat_Int, blsD, blsD_f, List.all_cons, List.all_nil, List.any_cons, List.any_nil, id_eq, Bool.and_true, sizeLine_eq, List.isEmpty_nil, List.isEmpty_cons, eqv_l0, eqv_t0, Nat.reduceLeDiff, Nat.reduceLT, Int.reduceLE, Int.reduceLT, Int.reduceEq, Nat.reducePow, flatT_fr, Int.zero_add, fzL, zpItems, intsD, intsD_map, dicAt, keyAt, ownDic, putDic,
  kit_NoneType_int, kit_NoneType_bool, kit_NoneType_tuple, kit_NoneType_list, kit_NoneType_str, kit_NoneType_dict, kit_bool_int, kit_bool_bool, kit_bool_tuple, kit_bool_list, kit_bool_str, kit_bool_dict, kit_int_int, kit_int_bool, kit_int_tuple, kit_int_list, kit_int_str, kit_int_dict, kit_str_int, kit_str_bool, kit_str_tuple, kit_str_list, kit_str_str, kit_str_dict, kit_tuple_int, kit_tuple_bool, kit_tuple_tuple, kit_tuple_list, kit_tuple_str, kit_tuple_dict, kit_list_int, kit_list_bool, kit_list_tuple, kit_list_list, kit_list_str, kit_list_dict, kit_dict_int, kit_dict_bool, kit_dict_tuple, kit_dict_list, kit_dict_str, kit_dict_dict])
def sp_law : SpD := fun ts Q _ => ∃ ns : List Int, ts = [.fr (.scr ns)] ∧ ns.length ≤ 63 ∧ Q (.fr (.bl true)) ts
theorem ln_law : ∀ ts Q E, sp_law ts Q E → ts.length = 1 := by rintro _ Q E ⟨_, rfl, _⟩; rfl
def g_law : ST' := (sSq (sFor (tIt1 (tA1 false (tVL RMax2 (tA1 false (tK (.int 1)) (tA1 false (tVL RMin2 (tA1 false (tK (.int 3)) (tA1 false (tVL RLen (tA1 false (tVr 0) tA0)) tA0))) tA0))) tA0)) (.nm 1) (sSq (sAs 2 (tCl sp_law_jug (tA1 false (tVr 0) (tA1 false (tVr 1) tA0))))
  (sSq (sAs 3 (tCl sp_law_frame (tA1 false (tVr 2) (tA1 false (tK (.int 5)) (tA1 false (tK (.int 7)) tA0)))))
  (sSq (sFor (tItL (tCl sp_law_subsets (tA1 false (tVL RLen (tA1 false (tIx false (tVr 3) (tK (.int 1))) tA0)) tA0))) (.nm 4) (sIf (tN (tTs (tCl sp_law_set_right (tA1 false (tVr 3) (tA1 false (tVr 4) tA0))))) (sRt (tK (.bl false))) sNx))
  (sSq (sAs 3 (tCl sp_law_frame (tA1 false (tVr 2) (tA1 false (tK (.int 24)) (tA1 false (tK (.int 60)) tA0)))))
  (sSq (sAs 5 (tCl sp_law_grown (tA1 true (tVr 2) (tA1 true (tVr 3) (tA1 false (tAd true (tK (.int 1)) (tCl sp_law_pour (tA1 false (tVr 2) (tA1 false (tK (.int 23)) tA0)))) tA0)))))
  (sSq (sAs 6 (tLs (tA1 true (tVr 5) (tA1 true (tCl sp_law_down (tA1 false (tVr 2) (tA1 false (tVL RLen (tA1 false (tIx false (tVr 3) (tK (.int 1))) tA0)) tA0))) (tA1 false (tCl sp_law_seen (tA1 false (tVr 3) (tA1 false (tVr 5) tA0))) (tA1 false (tTp tA0) tA0))))))
  (sSq (sAs 7 (tCl sp_law_pour (tA1 false (tVr 2) (tA1 false (tVL RLen (tA1 false (tIx false (tVr 3) (tK (.int 1))) tA0)) tA0))))
  (sSq (sAs 6 (tAd false (tVr 6) (tLcD (tItL (tVr 6)) (.nm 8) [8] tYs (tTu (tA1 false (tSSet (tAd false (tVr 8) (tTp (tA1 false (tVr 7) tA0)))) tA0)))))
  (sSq (sAs 6 (tAd false (tVr 6) (tLcD (tItL (tSc false false (tVr 6) tO0 (tO1 (tK (.int 3))))) (.nm 8) [8] tYs (tTu (tA1 false (tLcD (tItT (tVr 8)) (.nm 9) [9] (tTs (tV2 RNe false (tVr 9) (tVr 7))) (tVr 9)) tA0)))))
  (sSq (sFor (tItL (tVr 6)) (.nm 4) (sIf (tN (tTs (tCl sp_law_set_right (tA1 false (tVr 3) (tA1 false (tVr 4) tA0))))) (sRt (tK (.bl false))) sNx))
  (sFor (tItL (tCl sp_law_others (tA1 false (tVr 2) (tA1 false (tVr 3) (tA1 false (tVr 5) tA0))))) (.nm 10) (sIf (tN (tTs (tCl sp_law_right (tA1 false (tVr 3) (tA1 false (tVr 10) (tA1 false (tLs (tA1 false (tK (.bl false)) (tA1 false (tK (.bl false)) tA0))) tA0)))))) (sRt (tK (.bl false))) sNx)))))))))))))
  (sSq (sAs 3 (tTp (tA1 false (tK (.int 4)) (tA1 false (tTp (tA1 false (tTp (tA1 false (tK (.int 0)) (tA1 false (tK (.int 2)) tA0))) (tA1 false (tTp (tA1 false (tK (.int 0)) (tA1 false (tK (.int 3)) tA0))) (tA1 false (tTp (tA1 false (tK (.int 1)) (tA1 false (tK (.int 2)) tA0))) (tA1 false (tTp (tA1 false (tK (.int 1)) (tA1 false (tK (.int 3)) tA0))) tA0))))) tA0))))
  (sSq (sAs 11 (tLs (tA1 true (tCl sp_is_seen_set (tA1 false (tVr 3) (tA1 false (tTp (tA1 false (tK (.int 0)) (tA1 false (tK (.int 1)) (tA1 false (tK (.int 2)) tA0)))) tA0))) (tA1 true (tCl sp_is_pressed_set (tA1 false (tVr 3) (tA1 false (tTp (tA1 false (tK (.int 0)) (tA1 false (tK (.int 1)) (tA1 false (tK (.int 2)) tA0)))) tA0))) (tA1 false (tCl sp_is_pressed_set (tA1 false (tVr 3) (tA1 false (tTp (tA1 false (tK (.int 0)) (tA1 false (tK (.int 1)) (tA1 false (tK (.int 2)) (tA1 false (tK (.int 3)) tA0))))) tA0))) tA0)))))
  (sRt (tAv (tV2 REq false (tVr 11) (tLs (tA1 false (tK (.bl false)) (tA1 false (tK (.bl true)) (tA1 false (tK (.bl false)) tA0))))) (tAv (tCl sp_is_seen_set (tA1 false (tVr 3) (tA1 false (tTp tA0) tA0))) (tCl sp_is_pressed_set (tA1 false (tVr 3) (tA1 false (tTp tA0) tA0)))))))))

theorem keySet_filter {ns : List Int} {m : Int} (h : keySet ns m) (t : Int → Bool) : keySet (ns.filter t) m := ⟨fun k hk => h.1 k (List.mem_filter.mp hk).1, h.2.filter _⟩
/-- a set with one key more, without one -/
def insK (l : Nat) (sp : Int) (ns : List Int) : List Int := (rgI l).filter fun k => decide (k ∈ ns ∨ k = sp)
def delK (sp : Int) (ns : List Int) : List Int := ns.filter fun k => !decide (k = sp)
theorem rgI_pw {n : Nat} : (rgI n).Pairwise (· < ·) := by
  unfold rgI
  rw [List.pairwise_map]
  exact List.pairwise_lt_range.imp fun h => by omega
theorem insK_set {l : Nat} {sp : Int} {ns : List Int} : keySet (insK l sp ns) (l - 1) := ⟨fun k hk => by
  have := rgI_mem.mp (List.mem_filter.mp hk).1
  omega, rgI_pw.filter _⟩
theorem insK_eq {l : Nat} {sp : Int} {ns ms : List Int} (hk : ∀ k ∈ ns, 0 ≤ k ∧ k < l) (h0 : 0 ≤ sp) (h1 : sp < l) (hp : ms.Pairwise (· < ·)) (h : ∀ k, k ∈ ms ↔ k ∈ ns ++ [sp]) : ms = insK l sp ns :=
  asc_ext hp (rgI_pw.filter _) fun k => by
    unfold insK
    rw [h, List.mem_append, List.mem_singleton, List.mem_filter, rgI_mem, decide_eq_true_iff]
    constructor
    · rintro (a | rfl)
      · exact ⟨hk k a, .inl a⟩
      · exact ⟨⟨h0, h1⟩, .inr rfl⟩
    · rintro ⟨_, a⟩; exact a
theorem vc_law : ∀ ts QD EXD, sp_law ts QD EXD → g_law (fnEnds [0] ts QD) (fnX [0] ts EXD) (startE ["_law_script", "_law_at", "_law_jug_here", "_law_frame_here", "_law_down_here", "_law_free", "_law_some", "_law_spot", "_law_one", "_law_one_key", "_law_given", "_law_told"] ts) := by
  rintro _ Q E ⟨sc, rfl, hl, q⟩
  unfold g_law
  refine go_i ?_
  pv_eval
  generalize hM : (if (if (sc.length : Int) < 3 then (sc.length : Int) else 3) > 1 then (if (sc.length : Int) < 3 then (sc.length : Int) else 3) else 1) = M
  have hM1 : 1 ≤ M ∧ M ≤ 3 := by rw [← hM]; split <;> split <;> omega
  refine ⟨by omega, by omega, goF_ind (fun i ε => ∃ x1 x2 x3 x4 x5 x6 x7 x8 x9 x10 x11, ε = [some (.fr (.scr sc)), x1, x2, x3, x4, x5, x6, x7, x8, x9, x10, x11]) ?_ ?_ ?_⟩
  · exact ⟨none, none, none, none, none, none, none, none, none, none, none, rfl⟩
  · rintro ε' ⟨x1, x2, x3, x4, x5, x6, x7, x8, x9, x10, x11, rfl⟩
    pv_eval
    have hc : ∀ ns : List Int, (tupI ns).py = true := fun ns => py_tupI
    have hs3 : ∀ ns : List Int, ns.length ≤ 10 → shortD (tupI ns) := fun ns h => by
      show (ns.map D.int).length ≤ 1000000
      rw [List.length_map]
      omega
    have e1 : seenSet sq (tupI [0, 1, 2]) = false := by decide +kernel
    have e2 : pressedSet sq (tupI [0, 1, 2]) = true := by decide +kernel
    have e3 : pressedSet sq (tupI [0, 1, 2, 3]) = false := by decide +kernel
    have e4 : seenSet sq (tupI []) = true := by decide +kernel
    have e5 : pressedSet sq (tupI []) = true := by decide +kernel
    refine cl_is_seen_set (n := 4) (js := sq) (v := tupI [0, 1, 2]) sq_brd (hc _) (hs3 _ (by decide)) ?_
    rw [e1]
    unfold boardD sq jointD tupI
    pv_eval
    refine cl_is_pressed_set (n := 4) (js := sq) (v := tupI [0, 1, 2]) sq_brd (hc _) (hs3 _ (by decide)) ?_
    rw [e2]
    unfold boardD sq jointD tupI
    pv_eval
    refine cl_is_pressed_set (n := 4) (js := sq) (v := tupI [0, 1, 2, 3]) sq_brd (hc _) (hs3 _ (by decide)) ?_
    rw [e3]
    unfold boardD sq jointD tupI
    pv_eval
    have e6 : (D.lst [D.bl false, D.bl true, D.bl false]).eqv (D.lst [D.bl false, D.bl true, D.bl false]) = true := by decide +kernel
    rw [e6]
    refine ⟨eqC_nc (k := 9) (l := 9) (by decide +kernel) (by decide +kernel) (by decide +kernel) (by decide +kernel), ?_⟩
    pv_eval
    refine cl_is_seen_set (n := 4) (js := sq) (v := tupI []) sq_brd (hc _) (hs3 _ (by decide)) ?_
    rw [e4]
    unfold boardD sq jointD tupI
    pv_eval
    refine cl_is_pressed_set (n := 4) (js := sq) (v := tupI []) sq_brd (hc _) (hs3 _ (by decide)) ?_
    rw [e5]
    unfold boardD sq jointD tupI
    pv_eval
    exact q
  · rintro i d ε' N hd ⟨x1, x2, x3, x4, x5, x6, x7, x8, x9, x10, x11, rfl⟩ hN
    obtain ⟨rfl, hi⟩ := rgD_get hd
    refine ⟨_, rfl, ?_⟩
    pv_eval
    refine cl_law_jug (by omega) (by omega) fun t ht => ?_
    obtain ⟨a, b, c, rfl, _⟩ := id ht
    pv_eval
    refine cl_law_frame ht (by omega) (by omega) (by omega) (by omega) (by omega) fun n js j1 n2 n24 hne hjl hJ hj1 => ?_
    have hB : Brd n js := ⟨by omega, by omega, hne, by omega, hJ⟩
    obtain ⟨a, b, c, rfl, _⟩ := id hj1
    unfold boardD
    pv_eval
    refine cl_law_subsets (by simp) (by simp <;> omega) fun xs hxs hxl => ?_
    rw [List.length_map] at hxs
    pv_eval
    refine goF_ind (fun i2 ε => ∃ x4, ε = [some (.fr (.scr sc)), some (.fr (.int i)), some (.lst [.fr (.int a), .fr (.int b), .fr (.int c)]), some (.fr (boardD n js)), x4, x5, x6, x7, x8, x9, x10, x11]) ?_ ?_ ?_
    · exact ⟨x4, rfl⟩
    · rintro ε' ⟨x4, rfl⟩
      pv_eval
      refine cl_law_frame hj1 (by omega) (by omega) (by omega) (by omega) (by omega) fun n js j2 n2 n24 hne hjl hJ hj2 => ?_
      have hB : Brd n js := ⟨by omega, by omega, hne, by omega, hJ⟩
      obtain ⟨a, b, c, rfl, _⟩ := id hj2
      pv_eval
      refine cl_law_pour hj2 (by omega) (by omega) (by omega) fun r1 j3 r10 r11 hj3 => ?_
      obtain ⟨a, b, c, rfl, _⟩ := id hj3
      pv_eval
      refine cl_law_grown hj3 (by omega) hB (by omega) (by omega) fun ns j4 hk hj4 => ?_
      obtain ⟨a, b, c, rfl, _⟩ := id hj4
      unfold boardD
      pv_eval
      refine cl_law_down hj4 (by omega) (by simp) (by simp <;> omega) fun ns2 j5 hk2 hj5 => ?_
      rw [List.length_map] at hk2 hj5
      obtain ⟨a, b, c, rfl, _⟩ := id hj5
      pv_eval
      refine cl_law_seen hB hk ?_
      pv_eval
      refine cl_law_pour hj5 (by omega) ?_ ?_ fun sp j6 s0 s1 hj6 => ?_
      · rw [List.length_map]; have := List.length_pos_iff.mpr hne; omega
      · rw [List.length_map]; omega
      obtain ⟨a, b, c, rfl, _⟩ := id hj6
      pv_eval
      have hs : keySet (shown js ns) (js.length - 1) := shown_keySet
      have s1' : sp < js.length := by rw [List.length_map] at s1; exact s1
      have x0 : ∀ ms ∈ [ns, ns2, shown js ns, []], keySet ms (js.length - 1) := fun ms hms => by
        simp only [List.mem_cons, List.not_mem_nil, or_false] at hms
        rcases hms with rfl | rfl | rfl | rfl
        · exact hk
        · exact hk2
        · exact hs
        · exact ⟨by simp, .nil⟩
      rw [show [tupI ns, tupI ns2, tupI (shown js ns), D.tup []] = [ns, ns2, shown js ns, []].map tupI from rfl]
      have hx4 : [ns, ns2, shown js ns, []].length = 4 := rfl
      generalize [ns, ns2, shown js ns, []] = xs0 at x0 hx4 ⊢
      refine goL_pure (fun d => tupI (insK js.length sp (intsOf d))) (fun d hd => ?_) ?_
      · obtain ⟨ms, hms, rfl⟩ := List.mem_map.mp hd
        have hkm := x0 ms hms
        have hml : ms.length ≤ 60 := by have := keySet_len hkm; omega
        have hki := keySet_in hkm
        refine ⟨_, rfl, rfl, fun Q q => ?_⟩
        rw [intsOf_tupI] at q
        unfold tupI at q ⊢
        pv_eval
        refine ⟨by rw [List.length_map]; omega, ?_⟩
        rw [show ms.map D.int ++ [D.int sp] = (ms ++ [sp]).map D.int by simp, intsD_map]
        pv_eval
        refine ⟨⟨by rw [List.length_append, List.length_singleton]; omega, rgI js.length, by rw [rgI_len]; omega, fun k hk3 => ?_⟩, fun zs hp hz => ?_⟩
        · rw [rgI_mem]
          rcases List.mem_append.mp hk3 with h | h
          · exact hki k h
          · simp only [List.mem_singleton] at h; omega
        · rw [insK_eq hki s0 s1' hp hz]
          exact q
      pv_eval
      have e1 : xs0.map tupI ++ (xs0.map tupI).map (fun x => tupI (insK js.length sp (intsOf x))) = (xs0 ++ xs0.map (insK js.length sp)).map tupI := by
        rw [List.map_append, List.map_map, List.map_map]
        congr 1
        refine List.map_congr_left fun ms _ => ?_
        simp only [Function.comp_def, intsOf_tupI]
      have x1 : ∀ ms ∈ xs0 ++ xs0.map (insK js.length sp), keySet ms (js.length - 1) := fun ms hms => by
        rcases List.mem_append.mp hms with h | h
        · exact x0 ms h
        · obtain ⟨z, hz, rfl⟩ := List.mem_map.mp h
          exact insK_set
      have l1 : (xs0 ++ xs0.map (insK js.length sp)).length = 8 := by rw [List.length_append, List.length_map, hx4]
      rw [e1]
      generalize xs0 ++ xs0.map (insK js.length sp) = xs1 at x1 l1 ⊢
      have e3 : cutL (xs1.map tupI) none (some 3) = (xs1.take 3).map tupI := by rw [List.map_take]; exact cutTo _ 3
      rw [e3]
      refine ⟨by simp [hx4], by simp; omega, ?_⟩
      refine goL_pure (fun d => tupI (delK sp (intsOf d))) (fun d hd => ?_) ?_
      · obtain ⟨ms, hms, rfl⟩ := List.mem_map.mp hd
        have hkm := x1 ms (List.mem_of_mem_take hms)
        have hml : ms.length ≤ 60 := by have := keySet_len hkm; omega
        refine ⟨_, rfl, rfl, fun Q q => ?_⟩
        rw [intsOf_tupI] at q
        unfold tupI at q ⊢
        pv_eval
        refine ⟨by rw [List.length_map]; omega, ?_⟩
        refine goL_filt (fun d => match d with | .int k => !decide (k = sp) | _ => false) id (fun d hd => ?_) ?_
        · obtain ⟨w, hw, rfl⟩ := List.mem_map.mp hd
          refine ⟨_, rfl, rfl, fun Q q => ?_, fun Q _ q => ?_⟩
          · pv_eval
            exact q
          · pv_eval
            exact q
        · rw [filt_ints (t := fun k => !decide (k = sp)) fun k => rfl]
          pv_eval
          exact q
      pv_eval
      have e4 : xs1.map tupI ++ ((xs1.take 3).map tupI).map (fun x => tupI (delK sp (intsOf x))) = (xs1 ++ (xs1.take 3).map (delK sp)).map tupI := by
        rw [List.map_append, List.map_map, List.map_map]
        congr 1
        refine List.map_congr_left fun ms _ => ?_
        simp only [Function.comp_def, intsOf_tupI]
      have x2 : ∀ ms ∈ xs1 ++ (xs1.take 3).map (delK sp), keySet ms (js.length - 1) := fun ms hms => by
        rcases List.mem_append.mp hms with h | h
        · exact x1 ms h
        · obtain ⟨z, hz, rfl⟩ := List.mem_map.mp h
          exact keySet_filter (x1 z (List.mem_of_mem_take hz)) _
      refine ⟨by simp; omega, ?_⟩
      rw [e4]
      generalize xs1 ++ (xs1.take 3).map (delK sp) = xs2 at x2 ⊢
      refine goF_ind (fun i2 ε => ∃ x4, ε = [some (.fr (.scr sc)), some (.fr (.int i)), some (.lst [.fr (.int a), .fr (.int b), .fr (.int c)]), some (.fr (boardD n js)), x4, some (.fr (tupI ns)), some (.fr (.lst (xs2.map tupI))), some (.fr (.int sp)), x8, x9, x10, x11]) ?_ ?_ ?_
      · exact ⟨_, rfl⟩
      · rintro ε' ⟨x4, rfl⟩
        pv_eval
        refine cl_law_others hj6 (by omega) hB (by omega) hk fun gs j7 hgs hj7 => ?_
        obtain ⟨a, b, c, rfl, _⟩ := id hj7
        pv_eval
        refine goF_ind (fun i2 ε => ∃ x10, ε = [some (.fr (.scr sc)), some (.fr (.int i)), some (.lst [.fr (.int a), .fr (.int b), .fr (.int c)]), some (.fr (boardD n js)), x4, some (.fr (tupI ns)), some (.fr (.lst (xs2.map tupI))), some (.fr (.int sp)), x8, x9, x10, x11]) ?_ ?_ ?_
        · exact ⟨_, rfl⟩
        · rintro ε' ⟨x10, rfl⟩
          exact hN _ ⟨_, _, _, _, _, _, _, _, _, _, _, rfl⟩
        · rintro i2 v ε' N2 hd2 ⟨x10, rfl⟩ hN2
          have hv := hgs v (List.mem_of_getElem? hd2)
          refine ⟨_, rfl, ?_⟩
          pv_eval
          refine cl_law_right hB hv.sh hv.sm ?_ ?_ ?_
          · simp only [seenSet, hv.no, Bool.false_and]
          · simp only [pressedSet, hv.no, Bool.false_and]
          pv_eval
          exact hN2 _ ⟨_, rfl⟩
      · rintro i2 d ε' N2 hd2 ⟨x4, rfl⟩ hN2
        rw [List.getElem?_map, Option.map_eq_some_iff] at hd2
        obtain ⟨ms, hms, rfl⟩ := hd2
        have hkm := x2 ms (List.mem_of_getElem? hms)
        refine ⟨_, rfl, ?_⟩
        pv_eval
        refine cl_law_set_right hB hkm ?_
        pv_eval
        exact hN2 _ ⟨_, rfl⟩
    · rintro i2 d ε' N2 hd2 ⟨x4, rfl⟩ hN2
      rw [List.getElem?_map, Option.map_eq_some_iff] at hd2
      obtain ⟨ns, hns, rfl⟩ := hd2
      have hk := hxs ns (List.mem_of_getElem? hns)
      refine ⟨_, rfl, ?_⟩
      pv_eval
      refine cl_law_set_right hB hk ?_
      pv_eval
      exact hN2 _ ⟨_, rfl⟩
theorem law_ok : ∀ ns : List Int, ns.length ≤ 63 → (∀ z ∈ ns, Builtin.Int.intBits z ≤ 1048576) → sp_law [.fr (.scr ns)] (fun r _ => r = .fr (.bl true)) fun _ _ => False := fun ns h _ => ⟨ns, rfl, h, rfl⟩
end GL

namespace GL
open PySem PySem.Spec L2 DL
set_option maxHeartbeats 0
def top (i : Nat) : Stmt := PySem.Challenge.pw_ghostlogs_k03_seen_and_pressed_sets.main.body.getD i (.Pass ⟨0, 0, 0, 0⟩)
abbrev s_is_integer : Stmt := top 4
abbrev s_is_joint : Stmt := top 5
abbrev s_is_board : Stmt := top 6
abbrev s_check_board : Stmt := top 7
abbrev s_is_set_form : Stmt := top 8
abbrev s_is_keys : Stmt := top 9
abbrev s_marks : Stmt := top 10
abbrev s_closure : Stmt := top 11
abbrev s_is_closed : Stmt := top 12
abbrev s_is_seen_set : Stmt := top 15
abbrev s_lot_count : Stmt := top 13
abbrev s_has_ring : Stmt := top 14
abbrev s_is_pressed_set : Stmt := top 16
abbrev s_law_jug : Stmt := top 18
abbrev s_law_pour : Stmt := top 19
abbrev s_law_frame : Stmt := top 20
abbrev s_law_down : Stmt := top 21
abbrev s_law_lots : Stmt := top 22
abbrev s_law_seen : Stmt := top 23
abbrev s_law_right : Stmt := top 25
abbrev s_law_is_free : Stmt := top 24
abbrev s_law_set_right : Stmt := top 26
abbrev s_law_subsets : Stmt := top 27
abbrev s_law_grown : Stmt := top 28
abbrev s_law_others : Stmt := top 29
abbrev s_law : Stmt := top 30
abbrev N_is_integer : List Str := ["value", "low", "high"]
theorem sc_is_integer : FnScope N_is_integer ["value", "low", "high"] (defScope s_is_integer) := ⟨rfl, rfl, rfl, by decide +kernel, rfl, by decide +kernel, by decide +kernel⟩
abbrev N_is_joint : List Str := ["value", "wires", "wire"]
theorem sc_is_joint : FnScope N_is_joint ["value", "wires"] (defScope s_is_joint) := ⟨rfl, rfl, rfl, by decide +kernel, rfl, by decide +kernel, by decide +kernel⟩
abbrev N_is_board : List Str := ["value", "wires", "keys", "key"]
theorem sc_is_board : FnScope N_is_board ["value"] (defScope s_is_board) := ⟨rfl, rfl, rfl, by decide +kernel, rfl, by decide +kernel, by decide +kernel⟩
abbrev N_check_board : List Str := ["board"]
theorem sc_check_board : FnScope N_check_board ["board"] (defScope s_check_board) := ⟨rfl, rfl, rfl, by decide +kernel, rfl, by decide +kernel, by decide +kernel⟩
abbrev N_is_set_form : List Str := ["value", "most", "key", "other"]
theorem sc_is_set_form : FnScope N_is_set_form ["value", "most"] (defScope s_is_set_form) := ⟨rfl, rfl, rfl, by decide +kernel, rfl, by decide +kernel, by decide +kernel⟩
abbrev N_is_keys : List Str := ["board", "value"]
theorem sc_is_keys : FnScope N_is_keys ["board", "value"] (defScope s_is_keys) := ⟨rfl, rfl, rfl, by decide +kernel, rfl, by decide +kernel, by decide +kernel⟩
abbrev N_marks : List Str := ["board", "keys", "wires", "joints", "found", "key", "one", "other", "low", "high", "mark"]
theorem sc_marks : FnScope N_marks ["board", "keys"] (defScope s_marks) := ⟨rfl, rfl, rfl, by decide +kernel, rfl, by decide +kernel, by decide +kernel⟩
abbrev N_closure : List Str := ["board", "keys", "found", "key", "one", "other"]
theorem sc_closure : FnScope N_closure ["board", "keys"] (defScope s_closure) := ⟨rfl, rfl, rfl, by decide +kernel, rfl, by decide +kernel, by decide +kernel⟩
abbrev N_is_closed : List Str := ["board", "keys"]
theorem sc_is_closed : FnScope N_is_closed ["board", "keys"] (defScope s_is_closed) := ⟨rfl, rfl, rfl, by decide +kernel, rfl, by decide +kernel, by decide +kernel⟩
abbrev N_is_seen_set : List Str := ["board", "value"]
theorem sc_is_seen_set : FnScope N_is_seen_set ["board", "value"] (defScope s_is_seen_set) := ⟨rfl, rfl, rfl, by decide +kernel, rfl, by decide +kernel, by decide +kernel⟩
abbrev N_lot_count : List Str := ["board", "keys"]
theorem sc_lot_count : FnScope N_lot_count ["board", "keys"] (defScope s_lot_count) := ⟨rfl, rfl, rfl, by decide +kernel, rfl, by decide +kernel, by decide +kernel⟩
abbrev N_has_ring : List Str := ["board", "keys"]
theorem sc_has_ring : FnScope N_has_ring ["board", "keys"] (defScope s_has_ring) := ⟨rfl, rfl, rfl, by decide +kernel, rfl, by decide +kernel, by decide +kernel⟩
abbrev N_is_pressed_set : List Str := ["board", "value"]
theorem sc_is_pressed_set : FnScope N_is_pressed_set ["board", "value"] (defScope s_is_pressed_set) := ⟨rfl, rfl, rfl, by decide +kernel, rfl, by decide +kernel, by decide +kernel⟩
abbrev N_law_jug : List Str := ["_law_script", "_law_at", "_law_cell"]
theorem sc_law_jug : FnScope N_law_jug ["_law_script", "_law_at"] (defScope s_law_jug) := ⟨rfl, rfl, rfl, by decide +kernel, rfl, by decide +kernel, by decide +kernel⟩
abbrev N_law_pour : List Str := ["_law_jug_here", "_law_many", "_law_poured", "_law_mixed"]
theorem sc_law_pour : FnScope N_law_pour ["_law_jug_here", "_law_many"] (defScope s_law_pour) := ⟨rfl, rfl, rfl, by decide +kernel, rfl, by decide +kernel, by decide +kernel⟩
abbrev N_law_frame : List Str := ["_law_jug_here", "_law_most", "_law_many", "_law_size", "_law_count", "_law_style", "_law_half", "_law_found", "_law_turn", "_law_one", "_law_other"]
theorem sc_law_frame : FnScope N_law_frame ["_law_jug_here", "_law_most", "_law_many"] (defScope s_law_frame) := ⟨rfl, rfl, rfl, by decide +kernel, rfl, by decide +kernel, by decide +kernel⟩
abbrev N_law_down : List Str := ["_law_jug_here", "_law_count", "_law_often", "_law_one_key"]
theorem sc_law_down : FnScope N_law_down ["_law_jug_here", "_law_count"] (defScope s_law_down) := ⟨rfl, rfl, rfl, by decide +kernel, rfl, by decide +kernel, by decide +kernel⟩
abbrev N_law_lots : List Str := ["_law_frame_here", "_law_down_here", "_law_found", "_law_left", "_law_lot", "_law_at", "_law_one", "_law_other", "_law_one_key", "_law_near", "_law_wire"]
theorem sc_law_lots : FnScope N_law_lots ["_law_frame_here", "_law_down_here"] (defScope s_law_lots) := ⟨rfl, rfl, rfl, by decide +kernel, rfl, by decide +kernel, by decide +kernel⟩
abbrev N_law_seen : List Str := ["_law_frame_here", "_law_down_here", "_law_mark_of", "_law_lot", "_law_wire", "_law_one_key", "_law_joint"]
theorem sc_law_seen : FnScope N_law_seen ["_law_frame_here", "_law_down_here"] (defScope s_law_seen) := ⟨rfl, rfl, rfl, by decide +kernel, rfl, by decide +kernel, by decide +kernel⟩
abbrev N_law_right : List Str := ["_law_frame_here", "_law_given", "_law_dues", "_law_old_here", "_law_told"]
theorem sc_law_right : FnScope N_law_right ["_law_frame_here", "_law_given", "_law_dues"] (defScope s_law_right) := ⟨rfl, rfl, rfl, by decide +kernel, rfl, by decide +kernel, by decide +kernel⟩
abbrev N_law_is_free : List Str := ["_law_frame_here", "_law_down_here", "_law_at", "_law_one_key"]
theorem sc_law_is_free : FnScope N_law_is_free ["_law_frame_here", "_law_down_here"] (defScope s_law_is_free) := ⟨rfl, rfl, rfl, by decide +kernel, rfl, by decide +kernel, by decide +kernel⟩
abbrev N_law_set_right : List Str := ["_law_frame_here", "_law_down_here"]
theorem sc_law_set_right : FnScope N_law_set_right ["_law_frame_here", "_law_down_here"] (defScope s_law_set_right) := ⟨rfl, rfl, rfl, by decide +kernel, rfl, by decide +kernel, by decide +kernel⟩
abbrev N_law_subsets : List Str := ["_law_count", "_law_found", "_law_one_key", "_law_down_here"]
theorem sc_law_subsets : FnScope N_law_subsets ["_law_count"] (defScope s_law_subsets) := ⟨rfl, rfl, rfl, by decide +kernel, rfl, by decide +kernel, by decide +kernel⟩
abbrev N_law_grown : List Str := ["_law_jug_here", "_law_frame_here", "_law_most", "_law_down_here", "_law_turn", "_law_hidden", "_law_left", "_law_one_key"]
theorem sc_law_grown : FnScope N_law_grown ["_law_jug_here", "_law_frame_here", "_law_most"] (defScope s_law_grown) := ⟨rfl, rfl, rfl, by decide +kernel, rfl, by decide +kernel, by decide +kernel⟩
abbrev N_law_others : List Str := ["_law_jug_here", "_law_frame_here", "_law_down_here", "_law_count", "_law_at", "_law_odd", "_law_found"]
theorem sc_law_others : FnScope N_law_others ["_law_jug_here", "_law_frame_here", "_law_down_here"] (defScope s_law_others) := ⟨rfl, rfl, rfl, by decide +kernel, rfl, by decide +kernel, by decide +kernel⟩
abbrev N_law : List Str := ["_law_script", "_law_at", "_law_jug_here", "_law_frame_here", "_law_down_here", "_law_free", "_law_some", "_law_spot", "_law_one", "_law_one_key", "_law_given", "_law_told"]
theorem sc_law : FnScope N_law ["_law_script"] (defScope s_law) := ⟨rfl, rfl, rfl, by decide +kernel, rfl, by decide +kernel, by decide +kernel⟩
structure Zz (K : PySem.W.Frag) (mg : Str → Option Value) (fd : Nat → FuncData) : Prop where
  sm : SmOk K
  n_abs : mg "abs" = none
  n_all : mg "all" = none
  n_bool : mg "bool" = none
  n_enumerate : mg "enumerate" = none
  n_int : mg "int" = none
  n_isinstance : mg "isinstance" = none
  n_len : mg "len" = none
  n_list : mg "list" = none
  n_max : mg "max" = none
  n_min : mg "min" = none
  n_range : mg "range" = none
  n_repr : mg "repr" = none
  n_set : mg "set" = none
  n_sorted : mg "sorted" = none
  n_tuple : mg "tuple" = none
  n_zip : mg "zip" = none
  F_is_integer : Fun K "is_integer" "is_integer" s_is_integer (He.ga K "is_integer") (fd 0)
  g_is_integer : mg "is_integer" = some (.ref (He.ga K "is_integer"))
  b_is_integer : Binds K (fd 0) ["value", "low", "high"] []
  F_is_joint : Fun K "is_joint" "is_joint" s_is_joint (He.ga K "is_joint") (fd 1)
  g_is_joint : mg "is_joint" = some (.ref (He.ga K "is_joint"))
  b_is_joint : Binds K (fd 1) ["value", "wires"] []
  F_is_board : Fun K "is_board" "is_board" s_is_board (He.ga K "is_board") (fd 2)
  g_is_board : mg "is_board" = some (.ref (He.ga K "is_board"))
  b_is_board : Binds K (fd 2) ["value"] []
  F_check_board : Fun K "check_board" "check_board" s_check_board (He.ga K "check_board") (fd 3)
  g_check_board : mg "check_board" = some (.ref (He.ga K "check_board"))
  b_check_board : Binds K (fd 3) ["board"] []
  F_is_set_form : Fun K "is_set_form" "is_set_form" s_is_set_form (He.ga K "is_set_form") (fd 4)
  g_is_set_form : mg "is_set_form" = some (.ref (He.ga K "is_set_form"))
  b_is_set_form : Binds K (fd 4) ["value", "most"] []
  F_is_keys : Fun K "is_keys" "is_keys" s_is_keys (He.ga K "is_keys") (fd 5)
  g_is_keys : mg "is_keys" = some (.ref (He.ga K "is_keys"))
  b_is_keys : Binds K (fd 5) ["board", "value"] []
  F_marks : Fun K "marks" "marks" s_marks (He.ga K "marks") (fd 6)
  g_marks : mg "marks" = some (.ref (He.ga K "marks"))
  b_marks : Binds K (fd 6) ["board", "keys"] []
  F_closure : Fun K "closure" "closure" s_closure (He.ga K "closure") (fd 7)
  g_closure : mg "closure" = some (.ref (He.ga K "closure"))
  b_closure : Binds K (fd 7) ["board", "keys"] []
  F_is_closed : Fun K "is_closed" "is_closed" s_is_closed (He.ga K "is_closed") (fd 8)
  g_is_closed : mg "is_closed" = some (.ref (He.ga K "is_closed"))
  b_is_closed : Binds K (fd 8) ["board", "keys"] []
  F_is_seen_set : Fun K "is_seen_set" "is_seen_set" s_is_seen_set (He.ga K "is_seen_set") (fd 9)
  g_is_seen_set : mg "is_seen_set" = some (.ref (He.ga K "is_seen_set"))
  b_is_seen_set : Binds K (fd 9) ["board", "value"] []
  k_is_seen_set_0 : KBnd K (fd 9) ["board", "value"] ["value", "board"] [1, 0]
  F_lot_count : Fun K "lot_count" "lot_count" s_lot_count (He.ga K "lot_count") (fd 10)
  g_lot_count : mg "lot_count" = some (.ref (He.ga K "lot_count"))
  b_lot_count : Binds K (fd 10) ["board", "keys"] []
  F_has_ring : Fun K "has_ring" "has_ring" s_has_ring (He.ga K "has_ring") (fd 11)
  g_has_ring : mg "has_ring" = some (.ref (He.ga K "has_ring"))
  b_has_ring : Binds K (fd 11) ["board", "keys"] []
  F_is_pressed_set : Fun K "is_pressed_set" "is_pressed_set" s_is_pressed_set (He.ga K "is_pressed_set") (fd 12)
  g_is_pressed_set : mg "is_pressed_set" = some (.ref (He.ga K "is_pressed_set"))
  b_is_pressed_set : Binds K (fd 12) ["board", "value"] []
  k_is_pressed_set_0 : KBnd K (fd 12) ["board", "value"] ["value", "board"] [1, 0]
  F__law_jug : Fun K "_law_jug" "_law_jug" s_law_jug (He.ga K "_law_jug") (fd 13)
  g__law_jug : mg "_law_jug" = some (.ref (He.ga K "_law_jug"))
  b__law_jug : Binds K (fd 13) ["_law_script", "_law_at"] []
  F__law_pour : Fun K "_law_pour" "_law_pour" s_law_pour (He.ga K "_law_pour") (fd 14)
  g__law_pour : mg "_law_pour" = some (.ref (He.ga K "_law_pour"))
  b__law_pour : Binds K (fd 14) ["_law_jug_here", "_law_many"] []
  F__law_frame : Fun K "_law_frame" "_law_frame" s_law_frame (He.ga K "_law_frame") (fd 15)
  g__law_frame : mg "_law_frame" = some (.ref (He.ga K "_law_frame"))
  b__law_frame : Binds K (fd 15) ["_law_jug_here", "_law_most", "_law_many"] []
  F__law_down : Fun K "_law_down" "_law_down" s_law_down (He.ga K "_law_down") (fd 16)
  g__law_down : mg "_law_down" = some (.ref (He.ga K "_law_down"))
  b__law_down : Binds K (fd 16) ["_law_jug_here", "_law_count"] []
  F__law_lots : Fun K "_law_lots" "_law_lots" s_law_lots (He.ga K "_law_lots") (fd 17)
  g__law_lots : mg "_law_lots" = some (.ref (He.ga K "_law_lots"))
  b__law_lots : Binds K (fd 17) ["_law_frame_here", "_law_down_here"] []
  F__law_seen : Fun K "_law_seen" "_law_seen" s_law_seen (He.ga K "_law_seen") (fd 18)
  g__law_seen : mg "_law_seen" = some (.ref (He.ga K "_law_seen"))
  b__law_seen : Binds K (fd 18) ["_law_frame_here", "_law_down_here"] []
  F__law_right : Fun K "_law_right" "_law_right" s_law_right (He.ga K "_law_right") (fd 19)
  g__law_right : mg "_law_right" = some (.ref (He.ga K "_law_right"))
  b__law_right : Binds K (fd 19) ["_law_frame_here", "_law_given", "_law_dues"] []
  F__law_is_free : Fun K "_law_is_free" "_law_is_free" s_law_is_free (He.ga K "_law_is_free") (fd 20)
  g__law_is_free : mg "_law_is_free" = some (.ref (He.ga K "_law_is_free"))
  b__law_is_free : Binds K (fd 20) ["_law_frame_here", "_law_down_here"] []
  F__law_set_right : Fun K "_law_set_right" "_law_set_right" s_law_set_right (He.ga K "_law_set_right") (fd 21)
  g__law_set_right : mg "_law_set_right" = some (.ref (He.ga K "_law_set_right"))
  b__law_set_right : Binds K (fd 21) ["_law_frame_here", "_law_down_here"] []
  F__law_subsets : Fun K "_law_subsets" "_law_subsets" s_law_subsets (He.ga K "_law_subsets") (fd 22)
  g__law_subsets : mg "_law_subsets" = some (.ref (He.ga K "_law_subsets"))
  b__law_subsets : Binds K (fd 22) ["_law_count"] []
  F__law_grown : Fun K "_law_grown" "_law_grown" s_law_grown (He.ga K "_law_grown") (fd 23)
  g__law_grown : mg "_law_grown" = some (.ref (He.ga K "_law_grown"))
  b__law_grown : Binds K (fd 23) ["_law_jug_here", "_law_frame_here", "_law_most"] []
  F__law_others : Fun K "_law_others" "_law_others" s_law_others (He.ga K "_law_others") (fd 24)
  g__law_others : mg "_law_others" = some (.ref (He.ga K "_law_others"))
  b__law_others : Binds K (fd 24) ["_law_jug_here", "_law_frame_here", "_law_down_here"] []
  F_law : Fun K "law" "law" s_law (He.ga K "law") (fd 25)
section
variable {P : Program} {w : World} {K : PySem.W.Frag} {mg : Str → Option Value} {base : Heap} {ca : Str → Option Addr} {fd : Nat → FuncData}
theorem ok_is_integer (Z : Zz K mg fd) : DFn P w K mg base ca 1 (He.ga K "is_integer") (fd 0) ["value", "low", "high"] sp_is_integer :=
  dfn_of (k := 0) Z.F_is_integer sc_is_integer ln_is_integer (fun cdv A outer s H vs E hr hgd hlen =>
    (dss_cons (ds_if (dw_or (dt_not (dt_val (de_isi rfl (de_var (pv 0)) (pe_bltn (by rfl) Z.n_int (by decide +kernel) rfl) (by rfl) Z.n_isinstance))) (dw_or1 (dt_val (de_isi rfl (de_var (pv 0)) (pe_bltn (by rfl) Z.n_bool (by decide +kernel) rfl) (by rfl) Z.n_isinstance)))).dt (dss_one (ds_ret de_bl)) dss_nil)
    (dss_one (ds_ret (de_and (de_cm cd_ge (de_var (pv 0)) (de_var (pv 1)) (nomark _)) (de_one (de_or (de_cm cd_is (de_var (pv 2)) de_non (nomark _)) (de_one (de_cm cd_le (de_var (pv 0)) (de_var (pv 2)) (nomark _)))))))))) vc_is_integer
theorem ok_is_joint (Z : Zz K mg fd) : DFn P w K mg base ca 2 (He.ga K "is_joint") (fd 1) ["value", "wires"] sp_is_joint :=
  dfn_of (k := 1) Z.F_is_joint sc_is_joint ln_is_joint (fun cdv A outer s H vs E hr hgd hlen =>
    (dss_cons (ds_if (dw_or (dt_not (dt_val (de_isi rfl (de_var (pv 0)) (pe_bltn (by rfl) Z.n_tuple (by decide +kernel) rfl) (by rfl) Z.n_isinstance))) (dw_or1 (dt_cm (cd_ne Z.sm (hu64 hr)) (de_fn (does_len rfl) call_len (da_cons (de_var (pv 0)) da_nil) (by rfl) Z.n_len PySem.boot_len) de_int (nomark _)))).dt (dss_one (ds_ret de_bl)) dss_nil)
    (dss_one (ds_ret (de_and (de_fn (does_all rfl) (cr_all rfl) (da_cons (de_lc (own := [("wire", 2)]) rfl sc_is_joint.nd (pfree1 rfl) (by decide) (di_tup rfl (de_var (pv 0))) (blkOk_by (N := N_is_joint) (sc := defScope s_is_joint) (by decide +kernel)) (fun _ _ _ _ _ => (dg_name (pg_name (i := 2) sc_is_joint.nd rfl (Or.inl rfl)) (prOf_no rfl))) (fun _ _ _ _ _ => dts_nil) (fun _ _ _ _ _ => (de_call rfl (ok_is_integer Z) (hr.mono (by decide)) hgd takes0 (by rfl) Z.g_is_integer Z.F_is_integer.kp Z.b_is_integer (da_cons (de_var (pv 2)) (da_cons de_int (da_cons (de_sub (de_var (pv 1)) de_int) da_nil)))))) da_nil) (by rfl) Z.n_all (by decide +kernel)) (de_one (de_cm cd_lt (de_ix rfl (fun _ _ => rfl) (de_var (pv 0)) de_int) (de_ix rfl (fun _ _ => rfl) (de_var (pv 0)) de_int) (nomark _)))))))) vc_is_joint
theorem ok_is_board (Z : Zz K mg fd) : DFn P w K mg base ca 3 (He.ga K "is_board") (fd 2) ["value"] sp_is_board :=
  dfn_of (k := 2) Z.F_is_board sc_is_board ln_is_board (fun cdv A outer s H vs E hr hgd hlen =>
    (dss_cons (ds_if (dw_or (dt_not (dt_val (de_isi rfl (de_var (pv 0)) (pe_bltn (by rfl) Z.n_tuple (by decide +kernel) rfl) (by rfl) Z.n_isinstance))) (dw_or (dt_cm (cd_ne Z.sm (hu64 hr)) (de_fn (does_len rfl) call_len (da_cons (de_var (pv 0)) da_nil) (by rfl) Z.n_len PySem.boot_len) de_int (nomark _)) (dw_or1 (dt_not (dt_val (de_call rfl (ok_is_integer Z) (hr.mono (by decide)) hgd (takes_of rfl rfl rfl rfl) (by rfl) Z.g_is_integer Z.F_is_integer.kp Z.b_is_integer (da_cons (de_ix rfl (fun _ _ => rfl) (de_var (pv 0)) de_int) (da_cons de_int (da_cons de_non da_nil))))))))).dt (dss_one (ds_ret de_bl)) dss_nil)
    (dss_cons (ds_unpack (de_var (pv 0)) (dg_tup rfl rfl (dgs_cons (dg_name (pg_name (i := 1) sc_is_board.nd rfl (Or.inr rfl)) (prOf_no rfl)) (dgs_cons (dg_name (pg_name (i := 2) sc_is_board.nd rfl (Or.inl rfl)) (prOf_no rfl)) dgs_nil))))
    (dss_one (ds_ret (de_and (de_isi rfl (de_var (pv 2)) (pe_bltn (by rfl) Z.n_tuple (by decide +kernel) rfl) (by rfl) Z.n_isinstance) (de_and (de_cm (cd_ne Z.sm (hu64 hr)) (de_var (pv 2)) (de_tup da_nil) (nomark _)) (de_one (de_fn (does_all rfl) (cr_all rfl) (da_cons (de_lc (own := [("key", 3)]) rfl sc_is_board.nd (pfree1 rfl) (by decide) (di_tup rfl (de_var (pv 2))) (blkOk_by (N := N_is_board) (sc := defScope s_is_board) (by decide +kernel)) (fun _ _ _ _ _ => (dg_name (pg_name (i := 3) sc_is_board.nd rfl (Or.inl rfl)) (prOf_no rfl))) (fun _ _ _ _ _ => dts_nil) (fun _ _ _ _ _ => (de_call rfl (ok_is_joint Z) (hr.mono (by decide)) hgd takes0 (by rfl) Z.g_is_joint Z.F_is_joint.kp Z.b_is_joint (da_cons (de_var (pv 3)) (da_cons (de_var (pv 1)) da_nil))))) da_nil) (by rfl) Z.n_all (by decide +kernel)))))))))) vc_is_board
theorem ok_check_board (Z : Zz K mg fd) : DFn P w K mg base ca 4 (He.ga K "check_board") (fd 3) ["board"] sp_check_board :=
  dfn_of (k := 3) Z.F_check_board sc_check_board ln_check_board (fun cdv A outer s H vs E hr hgd hlen =>
    (dss_one (ds_if (dt_not (dt_val (de_call rfl (ok_is_board Z) (hr.mono (by decide)) hgd (takes_of rfl rfl rfl rfl) (by rfl) Z.g_is_board Z.F_is_board.kp Z.b_is_board (da_cons (de_var (pv 0)) da_nil)))) (dss_one ds_never) dss_nil))) vc_check_board
theorem ok_is_set_form (Z : Zz K mg fd) : DFn P w K mg base ca 2 (He.ga K "is_set_form") (fd 4) ["value", "most"] sp_is_set_form :=
  dfn_of (k := 1) Z.F_is_set_form sc_is_set_form ln_is_set_form (fun cdv A outer s H vs E hr hgd hlen =>
    (dss_cons (ds_if (dw_or (dt_not (dt_val (de_isi rfl (de_var (pv 0)) (pe_bltn (by rfl) Z.n_tuple (by decide +kernel) rfl) (by rfl) Z.n_isinstance))) (dw_or1 (dt_not (dt_val (de_fn (does_all rfl) (cr_all rfl) (da_cons (de_lc (own := [("key", 2)]) rfl sc_is_set_form.nd (pfree1 rfl) (by decide) (di_tup rfl (de_var (pv 0))) (blkOk_by (N := N_is_set_form) (sc := defScope s_is_set_form) (by decide +kernel)) (fun _ _ _ _ _ => (dg_name (pg_name (i := 2) sc_is_set_form.nd rfl (Or.inl rfl)) (prOf_no rfl))) (fun _ _ _ _ _ => dts_nil) (fun _ _ _ _ _ => (de_call rfl (ok_is_integer Z) (hr.mono (by decide)) hgd takes0 (by rfl) Z.g_is_integer Z.F_is_integer.kp Z.b_is_integer (da_cons (de_var (pv 2)) (da_cons de_int (da_cons (de_var (pv 1)) da_nil)))))) da_nil) (by rfl) Z.n_all (by decide +kernel)))))).dt (dss_one (ds_ret de_bl)) dss_nil)
    (dss_one (ds_ret (de_fn (does_all rfl) (cr_all rfl) (da_cons (de_lc (own := [("key", 2), ("other", 3)]) rfl sc_is_set_form.nd (pfree1 rfl) (by decide) (di_zip rfl (by rfl) Z.n_zip (da_cons (de_var (pv 0)) (da_cons (de_slice rfl (de_var (pv 0)) (do_some de_int) do_none) da_nil))) (blkOk_by (N := N_is_set_form) (sc := defScope s_is_set_form) (by decide +kernel)) (fun _ _ _ _ _ => (dg_tup rfl rfl (dgs_cons (dg_name (pg_name (i := 2) sc_is_set_form.nd rfl (Or.inl rfl)) (prOf_no rfl)) (dgs_cons (dg_name (pg_name (i := 3) sc_is_set_form.nd rfl (Or.inl rfl)) (prOf_no rfl)) dgs_nil)))) (fun _ _ _ _ _ => dts_nil) (fun _ _ _ _ _ => (de_cm cd_lt (de_var (pv 2)) (de_var (pv 3)) (nomark _)))) da_nil) (by rfl) Z.n_all (by decide +kernel)))))) vc_is_set_form
theorem ok_is_keys (Z : Zz K mg fd) : DFn P w K mg base ca 3 (He.ga K "is_keys") (fd 5) ["board", "value"] sp_is_keys :=
  dfn_of (k := 2) Z.F_is_keys sc_is_keys ln_is_keys (fun cdv A outer s H vs E hr hgd hlen =>
    (dss_one (ds_ret (de_call rfl (ok_is_set_form Z) (hr.mono (by decide)) hgd (takes_of rfl rfl rfl rfl) (by rfl) Z.g_is_set_form Z.F_is_set_form.kp Z.b_is_set_form (da_cons (de_var (pv 1)) (da_cons (de_sub (de_fn (does_len rfl) call_len (da_cons (de_ix rfl (fun _ _ => rfl) (de_var (pv 0)) de_int) da_nil) (by rfl) Z.n_len PySem.boot_len) de_int) da_nil)))))) vc_is_keys
theorem ok_marks (Z : Zz K mg fd) : DFn P w K mg base ca 1 (He.ga K "marks") (fd 6) ["board", "keys"] sp_marks :=
  dfn_of (k := 0) Z.F_marks sc_marks ln_marks (fun cdv A outer s H vs E hr hgd hlen =>
    (dss_cons (ds_unpack (de_var (pv 0)) (dg_tup rfl rfl (dgs_cons (dg_name (pg_name (i := 2) sc_marks.nd rfl (Or.inl rfl)) (prOf_no rfl)) (dgs_cons (dg_name (pg_name (i := 3) sc_marks.nd rfl (Or.inl rfl)) (prOf_no rfl)) dgs_nil))))
    (dss_cons (ds_set (de_listRange rfl (by rfl) Z.n_list (by rfl) Z.n_range (de_var (pv 2))) (prOf_no rfl) (fun t p => ps_set (i := 4) sc_marks.nd rfl (Or.inl rfl) p))
    (dss_cons (ds_for (passes_of rfl) rfl (di_tup rfl (de_var (pv 1))) (dg_name (pg_name (i := 5) sc_marks.nd rfl (Or.inl rfl)) (prOf_no rfl)) (dss_cons (ds_unpack (de_ix rfl (fun _ _ => rfl) (de_var (pv 3)) (de_var (pv 5))) (dg_tup rfl rfl (dgs_cons (dg_name (pg_name (i := 6) sc_marks.nd rfl (Or.inl rfl)) (prOf_no rfl)) (dgs_cons (dg_name (pg_name (i := 7) sc_marks.nd rfl (Or.inl rfl)) (prOf_no rfl)) dgs_nil))))
    (dss_cons (ds_parT (is := [8, 9]) (pfree1 rfl) (da_cons (de_fn does_min (call_min2 rfl) (da_cons (de_ix rfl (fun _ _ => rfl) (de_var (pv 4)) (de_var (pv 6))) (da_cons (de_ix rfl (fun _ _ => rfl) (de_var (pv 4)) (de_var (pv 7))) da_nil)) (by rfl) Z.n_min (by decide +kernel)) (da_cons (de_fn does_max (call_max2 rfl) (da_cons (de_ix rfl (fun _ _ => rfl) (de_var (pv 4)) (de_var (pv 6))) (da_cons (de_ix rfl (fun _ _ => rfl) (de_var (pv 4)) (de_var (pv 7))) da_nil)) (by rfl) Z.n_max (by decide +kernel)) da_nil)) rfl (by decide) (fun pa => ps_asg (pe_tup pa) (pg_tup rfl (pgs_cons (pg_name (i := 8) sc_marks.nd rfl (Or.inr rfl)) (pgs_cons (pg_name (i := 9) sc_marks.nd rfl (Or.inr rfl)) pgs_nil)))))
    (dss_one (ds_if (dt_cm cd_lt (de_var (pv 8)) (de_var (pv 9)) (nomark _)) (dss_one (ds_setLc (own := [("mark", 10)]) rfl sc_marks.nd (pfree1 rfl) (by decide) (di_list rfl (de_var (pv 4))) (blkOk_by (N := N_marks) (sc := defScope s_marks) (by decide +kernel)) (fun _ _ _ _ _ => (dg_name (pg_name (i := 10) sc_marks.nd rfl (Or.inl rfl)) (prOf_no rfl))) (fun _ _ _ _ _ => dts_nil) (fun _ _ _ _ _ => (de_if (dt_cm (cd_eq Z.sm (hu64 hr)) (de_var (pv 10)) (de_var (pv 9)) (nomark _)) (de_var (pv 8)) (de_var (pv 10)))) (prOf_no rfl) rfl rfl (sw_true rfl rfl rfl (by decide +kernel)))) dss_nil)))))
    (dss_one (ds_ret (de_var (pv 4)))))))) vc_marks
theorem ok_closure (Z : Zz K mg fd) : DFn P w K mg base ca 2 (He.ga K "closure") (fd 7) ["board", "keys"] sp_closure :=
  dfn_of (k := 1) Z.F_closure sc_closure ln_closure (fun cdv A outer s H vs E hr hgd hlen =>
    (dss_cons (ds_set (de_call rfl (ok_marks Z) (hr.mono (by decide)) hgd (takes_of rfl rfl rfl rfl) (by rfl) Z.g_marks Z.F_marks.kp Z.b_marks (da_cons (de_var (pv 0)) (da_cons (de_var (pv 1)) da_nil))) (prOf_no rfl) (fun t p => ps_set (i := 2) sc_closure.nd rfl (Or.inr rfl) p))
    (dss_one (ds_ret (de_tuple rfl (da_cons (de_lc (own := [("key", 3), ("one", 4), ("other", 5)]) rfl sc_closure.nd (pfree1 rfl) (by decide) (di_enum rfl (by rfl) Z.n_enumerate (da_cons (de_ix rfl (fun _ _ => rfl) (de_var (pv 0)) de_int) da_nil)) (blkOk_by (N := N_closure) (sc := defScope s_closure) (by decide +kernel)) (fun _ _ _ _ _ => (dg_tup rfl rfl (dgs_cons (dg_name (pg_name (i := 3) sc_closure.nd rfl (Or.inl rfl)) (prOf_no rfl)) (dgs_cons (dg_tup rfl rfl (dgs_cons (dg_name (pg_name (i := 4) sc_closure.nd rfl (Or.inl rfl)) (prOf_no rfl)) (dgs_cons (dg_name (pg_name (i := 5) sc_closure.nd rfl (Or.inl rfl)) (prOf_no rfl)) dgs_nil))) dgs_nil)))) (fun _ _ _ _ _ => (dts_one (dt_cm (cd_eq Z.sm (hu64 hr)) (de_ix rfl (fun _ _ => rfl) (de_var (pv 2)) (de_var (pv 4))) (de_ix rfl (fun _ _ => rfl) (de_var (pv 2)) (de_var (pv 5))) (nomark _)))) (fun _ _ _ _ _ => (de_var (pv 3)))) da_nil) (by rfl) Z.n_tuple))))) vc_closure
theorem ok_is_closed (Z : Zz K mg fd) : DFn P w K mg base ca 3 (He.ga K "is_closed") (fd 8) ["board", "keys"] sp_is_closed :=
  dfn_of (k := 2) Z.F_is_closed sc_is_closed ln_is_closed (fun cdv A outer s H vs E hr hgd hlen =>
    (dss_one (ds_ret (de_cm (cd_eq Z.sm (hu64 hr)) (de_call rfl (ok_closure Z) (hr.mono (by decide)) hgd (takes_of rfl rfl rfl rfl) (by rfl) Z.g_closure Z.F_closure.kp Z.b_closure (da_cons (de_var (pv 0)) (da_cons (de_var (pv 1)) da_nil))) (de_var (pv 1)) (nomark _))))) vc_is_closed
theorem ok_is_seen_set (Z : Zz K mg fd) : DFn P w K mg base ca 5 (He.ga K "is_seen_set") (fd 9) ["board", "value"] sp_is_seen_set :=
  dfn_of (k := 4) Z.F_is_seen_set sc_is_seen_set ln_is_seen_set (fun cdv A outer s H vs E hr hgd hlen =>
    (dss_cons (ds_expr (de_call rfl (ok_check_board Z) (hr.mono (by decide)) hgd (takes_of rfl rfl rfl rfl) (by rfl) Z.g_check_board Z.F_check_board.kp Z.b_check_board (da_cons (de_var (pv 0)) da_nil)))
    (dss_one (ds_ret (de_and (de_call rfl (ok_is_keys Z) (hr.mono (by decide)) hgd (takes_of rfl rfl rfl rfl) (by rfl) Z.g_is_keys Z.F_is_keys.kp Z.b_is_keys (da_cons (de_var (pv 0)) (da_cons (de_var (pv 1)) da_nil))) (de_one (de_call rfl (ok_is_closed Z) (hr.mono (by decide)) hgd (takes_of rfl rfl rfl rfl) (by rfl) Z.g_is_closed Z.F_is_closed.kp Z.b_is_closed (da_cons (de_var (pv 0)) (da_cons (de_var (pv 1)) da_nil))))))))) vc_is_seen_set
theorem ok_lot_count (Z : Zz K mg fd) : DFn P w K mg base ca 2 (He.ga K "lot_count") (fd 10) ["board", "keys"] sp_lot_count :=
  dfn_of (k := 1) Z.F_lot_count sc_lot_count ln_lot_count (fun cdv A outer s H vs E hr hgd hlen =>
    (dss_one (ds_ret (de_lenSet rfl rfl (by rfl) Z.n_len (by rfl) Z.n_set (de_call rfl (ok_marks Z) (hr.mono (by decide)) hgd (takes_of rfl rfl rfl rfl) (by rfl) Z.g_marks Z.F_marks.kp Z.b_marks (da_cons (de_var (pv 0)) (da_cons (de_var (pv 1)) da_nil))))))) vc_lot_count
theorem ok_has_ring (Z : Zz K mg fd) : DFn P w K mg base ca 3 (He.ga K "has_ring") (fd 11) ["board", "keys"] sp_has_ring :=
  dfn_of (k := 2) Z.F_has_ring sc_has_ring ln_has_ring (fun cdv A outer s H vs E hr hgd hlen =>
    (dss_one (ds_ret (de_cm cd_lt (de_sub (de_ix rfl (fun _ _ => rfl) (de_var (pv 0)) de_int) (de_call rfl (ok_lot_count Z) (hr.mono (by decide)) hgd (takes_of rfl rfl rfl rfl) (by rfl) Z.g_lot_count Z.F_lot_count.kp Z.b_lot_count (da_cons (de_var (pv 0)) (da_cons (de_var (pv 1)) da_nil)))) (de_fn (does_len rfl) call_len (da_cons (de_var (pv 1)) da_nil) (by rfl) Z.n_len PySem.boot_len) (nomark _))))) vc_has_ring
theorem ok_is_pressed_set (Z : Zz K mg fd) : DFn P w K mg base ca 5 (He.ga K "is_pressed_set") (fd 12) ["board", "value"] sp_is_pressed_set :=
  dfn_of (k := 4) Z.F_is_pressed_set sc_is_pressed_set ln_is_pressed_set (fun cdv A outer s H vs E hr hgd hlen =>
    (dss_cons (ds_expr (de_call rfl (ok_check_board Z) (hr.mono (by decide)) hgd (takes_of rfl rfl rfl rfl) (by rfl) Z.g_check_board Z.F_check_board.kp Z.b_check_board (da_cons (de_var (pv 0)) da_nil)))
    (dss_one (ds_ret (de_and (de_call rfl (ok_is_keys Z) (hr.mono (by decide)) hgd (takes_of rfl rfl rfl rfl) (by rfl) Z.g_is_keys Z.F_is_keys.kp Z.b_is_keys (da_cons (de_var (pv 0)) (da_cons (de_var (pv 1)) da_nil))) (de_one (de_not (de_call rfl (ok_has_ring Z) (hr.mono (by decide)) hgd (takes_of rfl rfl rfl rfl) (by rfl) Z.g_has_ring Z.F_has_ring.kp Z.b_has_ring (da_cons (de_var (pv 0)) (da_cons (de_var (pv 1)) da_nil)))))))))) vc_is_pressed_set
theorem ok__law_jug (Z : Zz K mg fd) : DFn P w K mg base ca 1 (He.ga K "_law_jug") (fd 13) ["_law_script", "_law_at"] sp_law_jug :=
  dfn_of (k := 0) Z.F__law_jug sc_law_jug ln_law_jug (fun cdv A outer s H vs E hr hgd hlen =>
    (dss_cons (ds_set (de_if (dt_cm cd_lt (de_var (pv 1)) (de_fn (does_len rfl) call_len (da_cons (de_var (pv 0)) da_nil) (by rfl) Z.n_len PySem.boot_len) (nomark _)) (de_ix rfl (fun _ _ => rfl) (de_var (pv 0)) (de_var (pv 1))) de_int) (prOf_no rfl) (fun t p => ps_set (i := 2) sc_law_jug.nd rfl (Or.inl rfl) p))
    (dss_one (ds_ret (de_lst (da_cons (de_fn does_max (call_max2 rfl) (da_cons de_int (da_cons (de_sub (de_fn does_abs call_abs (da_cons (de_var (pv 2)) da_nil) (by rfl) Z.n_abs (by decide +kernel)) (de_pow de_int de_int)) da_nil)) (by rfl) Z.n_max (by decide +kernel)) (da_cons (de_add rfl (de_add rfl (de_mul rfl (de_mod (de_var (pv 2)) (de_add rfl (de_pow de_int de_int) de_int)) de_int) (de_mul rfl de_int (de_var (pv 1)))) de_int) (da_cons de_int da_nil)))))))) vc_law_jug
theorem ok__law_pour (Z : Zz K mg fd) : DFn P w K mg base ca 1 (He.ga K "_law_pour") (fd 14) ["_law_jug_here", "_law_many"] sp_law_pour :=
  dfn_of (k := 0) Z.F__law_pour sc_law_pour ln_law_pour (fun cdv A outer s H vs E hr hgd hlen =>
    (dss_cons (ds_if (dt_cm cd_gt (de_ix rfl (fun _ _ => rfl) (de_var (pv 0)) de_int) de_int (nomark _)) (dss_cons (ds_set (de_mod (de_ix rfl (fun _ _ => rfl) (de_var (pv 0)) de_int) (de_var (pv 1))) (prOf_no rfl) (fun t p => ps_set (i := 2) sc_law_pour.nd rfl (Or.inl rfl) p))
    (dss_cons (ds_store (de_div (de_ix rfl (fun _ _ => rfl) (de_var (pv 0)) de_int) (de_var (pv 1))) (de_var (pv 0)) de_int (fun pe po pi => ps_asg pe (pg_sub po pi set_list)))
    (dss_one (ds_ret (de_var (pv 2)))))) dss_nil)
    (dss_cons (ds_store (de_add rfl (de_ix rfl (fun _ _ => rfl) (de_var (pv 0)) de_int) de_int) (de_var (pv 0)) de_int (fun pe po pi => ps_asg pe (pg_sub po pi set_list)))
    (dss_cons (ds_set (de_mod (de_pow (de_add rfl (de_ix rfl (fun _ _ => rfl) (de_var (pv 0)) de_int) (de_mul rfl de_int (de_ix rfl (fun _ _ => rfl) (de_var (pv 0)) de_int))) de_int) (de_add rfl (de_pow de_int de_int) de_int)) (prOf_no rfl) (fun t p => ps_set (i := 3) sc_law_pour.nd rfl (Or.inl rfl) p))
    (dss_cons (ds_set (de_mod (de_pow (de_add rfl (de_var (pv 3)) (de_mul rfl de_int (de_ix rfl (fun _ _ => rfl) (de_var (pv 0)) de_int))) de_int) (de_add rfl (de_pow de_int de_int) de_int)) (prOf_no rfl) (fun t p => ps_set (i := 3) sc_law_pour.nd rfl (Or.inl rfl) p))
    (dss_one (ds_ret (de_mod (de_div (de_var (pv 3)) de_int) (de_var (pv 1)))))))))) vc_law_pour
theorem ok__law_frame (Z : Zz K mg fd) : DFn P w K mg base ca 2 (He.ga K "_law_frame") (fd 15) ["_law_jug_here", "_law_most", "_law_many"] sp_law_frame :=
  dfn_of (k := 1) Z.F__law_frame sc_law_frame ln_law_frame (fun cdv A outer s H vs E hr hgd hlen =>
    (dss_cons (ds_set (de_add rfl de_int (de_call rfl (ok__law_pour Z) (hr.mono (by decide)) hgd (takes_of rfl rfl rfl rfl) (by rfl) Z.g__law_pour Z.F__law_pour.kp Z.b__law_pour (da_cons (de_var (pv 0)) (da_cons (de_ix rfl (fun _ _ => rfl) (de_lst (da_cons de_int (da_cons (de_sub (de_var (pv 1)) de_int) da_nil))) (de_call rfl (ok__law_pour Z) (hr.mono (by decide)) hgd (takes_of rfl rfl rfl rfl) (by rfl) Z.g__law_pour Z.F__law_pour.kp Z.b__law_pour (da_cons (de_var (pv 0)) (da_cons de_int da_nil)))) da_nil)))) (prOf_no rfl) (fun t p => ps_set (i := 3) sc_law_frame.nd rfl (Or.inl rfl) p))
    (dss_cons (ds_par3 (i := 4) (j := 5) (l := 6) (pfree1 rfl) (da_cons (de_add rfl de_int (de_call rfl (ok__law_pour Z) (hr.mono (by decide)) hgd (takes_of rfl rfl rfl rfl) (by rfl) Z.g__law_pour Z.F__law_pour.kp Z.b__law_pour (da_cons (de_var (pv 0)) (da_cons (de_var (pv 2)) da_nil)))) (da_cons (de_call rfl (ok__law_pour Z) (hr.mono (by decide)) hgd (takes_of rfl rfl rfl rfl) (by rfl) Z.g__law_pour Z.F__law_pour.kp Z.b__law_pour (da_cons (de_var (pv 0)) (da_cons de_int da_nil))) (da_cons (de_div (de_var (pv 3)) de_int) da_nil))) (fun pa => ps_par3 rfl sc_law_frame.nd rfl rfl rfl (by decide) (by decide) (by decide) rfl rfl rfl pa (by rfl)))
    (dss_cons (ds_set (de_lst da_nil) (prOf_no rfl) (fun t p => ps_set (i := 7) sc_law_frame.nd rfl (Or.inl rfl) p))
    (dss_cons (ds_for (passes_of rfl) rfl (di_range1 (by rfl) Z.n_range (da_cons (de_var (pv 4)) da_nil)) (dg_name (pg_name (i := 8) sc_law_frame.nd rfl (Or.inl rfl)) (prOf_no rfl)) (dss_cons (ds_par (i := 9) (j := 10) (prOf_no rfl) (prOf_no rfl) (by decide) (da_cons (de_call rfl (ok__law_pour Z) (hr.mono (by decide)) hgd (takes_of rfl rfl rfl rfl) (by rfl) Z.g__law_pour Z.F__law_pour.kp Z.b__law_pour (da_cons (de_var (pv 0)) (da_cons (de_var (pv 3)) da_nil))) (da_cons (de_call rfl (ok__law_pour Z) (hr.mono (by decide)) hgd (takes_of rfl rfl rfl rfl) (by rfl) Z.g__law_pour Z.F__law_pour.kp Z.b__law_pour (da_cons (de_var (pv 0)) (da_cons (de_sub (de_var (pv 3)) de_int) da_nil))) da_nil)) (fun pa => ps_par rfl sc_law_frame.nd rfl rfl (by decide) rfl rfl pa (by rfl)))
    (dss_cons (ds_set (de_add rfl (de_var (pv 10)) (de_ty does_int call_int1 (da_cons (de_cm cd_ge (de_var (pv 10)) (de_var (pv 9)) (nomark _)) da_nil) (by rfl) Z.n_int (by decide +kernel))) (prOf_no rfl) (fun t p => ps_set (i := 10) sc_law_frame.nd rfl (Or.inl rfl) p))
    (dss_cons (ds_if (dt_cm (cd_eq Z.sm (hu64 hr)) (de_var (pv 5)) de_int (nomark _)) (dss_one (ds_par (i := 9) (j := 10) (prOf_no rfl) (prOf_no rfl) (by decide) (da_cons (de_call rfl (ok__law_pour Z) (hr.mono (by decide)) hgd (takes_of rfl rfl rfl rfl) (by rfl) Z.g__law_pour Z.F__law_pour.kp Z.b__law_pour (da_cons (de_var (pv 0)) (da_cons (de_var (pv 6)) da_nil))) (da_cons (de_add rfl (de_var (pv 6)) (de_call rfl (ok__law_pour Z) (hr.mono (by decide)) hgd (takes_of rfl rfl rfl rfl) (by rfl) Z.g__law_pour Z.F__law_pour.kp Z.b__law_pour (da_cons (de_var (pv 0)) (da_cons (de_sub (de_var (pv 3)) (de_var (pv 6))) da_nil)))) da_nil)) (fun pa => ps_par rfl sc_law_frame.nd rfl rfl (by decide) rfl rfl pa (by rfl)))) dss_nil)
    (dss_cons (ds_if (dt_cm (cd_eq Z.sm (hu64 hr)) (de_var (pv 5)) de_int (nomark _)) (dss_one (ds_par (i := 9) (j := 10) (prOf_no rfl) (prOf_no rfl) (by decide) (da_cons (de_mod (de_var (pv 8)) (de_sub (de_var (pv 3)) de_int)) (da_cons (de_add rfl (de_mod (de_var (pv 8)) (de_sub (de_var (pv 3)) de_int)) de_int) da_nil)) (fun pa => ps_par rfl sc_law_frame.nd rfl rfl (by decide) rfl rfl pa (by rfl)))) dss_nil)
    (dss_cons (ds_if (dt_cm (cd_eq Z.sm (hu64 hr)) (de_var (pv 5)) de_int (nomark _)) (dss_one (ds_par (i := 9) (j := 10) (prOf_no rfl) (prOf_no rfl) (by decide) (da_cons de_int (da_cons (de_add rfl de_int (de_call rfl (ok__law_pour Z) (hr.mono (by decide)) hgd (takes_of rfl rfl rfl rfl) (by rfl) Z.g__law_pour Z.F__law_pour.kp Z.b__law_pour (da_cons (de_var (pv 0)) (da_cons (de_fn does_min (call_min2 rfl) (da_cons de_int (da_cons (de_sub (de_var (pv 3)) de_int) da_nil)) (by rfl) Z.n_min (by decide +kernel)) da_nil)))) da_nil)) (fun pa => ps_par rfl sc_law_frame.nd rfl rfl (by decide) rfl rfl pa (by rfl)))) dss_nil)
    (dss_one (ds_expr (de_append (de_var (pv 7)) (de_tup (da_cons (de_fn does_min (call_min2 rfl) (da_cons (de_var (pv 9)) (da_cons (de_var (pv 10)) da_nil)) (by rfl) Z.n_min (by decide +kernel)) (da_cons (de_fn does_max (call_max2 rfl) (da_cons (de_var (pv 9)) (da_cons (de_var (pv 10)) da_nil)) (by rfl) Z.n_max (by decide +kernel)) da_nil))) (hpe := fun po pa => pe_bm PySem.F.plainAttrs_list PySem.F.slot_list_append PySem.F.type_list_append mt_append po pa))))))))))
    (dss_one (ds_ret (de_tup (da_cons (de_var (pv 3)) (da_cons (de_tuple rfl (da_cons (de_var (pv 7)) da_nil) (by rfl) Z.n_tuple) da_nil)))))))))) vc_law_frame
theorem ok__law_down (Z : Zz K mg fd) : DFn P w K mg base ca 2 (He.ga K "_law_down") (fd 16) ["_law_jug_here", "_law_count"] sp_law_down :=
  dfn_of (k := 1) Z.F__law_down sc_law_down ln_law_down (fun cdv A outer s H vs E hr hgd hlen =>
    (dss_cons (ds_set (de_ix rfl (fun _ _ => rfl) (de_lst (da_cons de_int (da_cons de_int (da_cons de_int (da_cons de_int da_nil))))) (de_call rfl (ok__law_pour Z) (hr.mono (by decide)) hgd (takes_of rfl rfl rfl rfl) (by rfl) Z.g__law_pour Z.F__law_pour.kp Z.b__law_pour (da_cons (de_var (pv 0)) (da_cons de_int da_nil)))) (prOf_no rfl) (fun t p => ps_set (i := 2) sc_law_down.nd rfl (Or.inr rfl) p))
    (dss_one (ds_ret (de_tuple rfl (da_cons (de_lc (own := [("_law_one_key", 3)]) rfl sc_law_down.nd (pfree1 rfl) (by decide) (di_range1 (by rfl) Z.n_range (da_cons (de_var (pv 1)) da_nil)) (blkOk_by (N := N_law_down) (sc := defScope s_law_down) (by decide +kernel)) (fun _ _ _ _ _ => (dg_name (pg_name (i := 3) sc_law_down.nd rfl (Or.inl rfl)) (prOf_no rfl))) (fun _ _ _ _ _ => (dts_one (dt_cm (cd_eq Z.sm (hu64 hr)) (de_call rfl (ok__law_pour Z) (hr.mono (by decide)) hgd takes0 (by rfl) Z.g__law_pour Z.F__law_pour.kp Z.b__law_pour (da_cons (de_var (pv 0)) (da_cons (de_var (pv 2)) da_nil))) de_int (nomark _)))) (fun _ _ _ _ _ => (de_var (pv 3)))) da_nil) (by rfl) Z.n_tuple))))) vc_law_down
theorem ok__law_lots (Z : Zz K mg fd) : DFn P w K mg base ca 1 (He.ga K "_law_lots") (fd 17) ["_law_frame_here", "_law_down_here"] sp_law_lots :=
  dfn_of (k := 0) Z.F__law_lots sc_law_lots ln_law_lots (fun cdv A outer s H vs E hr hgd hlen =>
    (dss_cons (ds_par (i := 2) (j := 3) (prOf_no rfl) (prOf_no rfl) (by decide) (da_cons (de_lst da_nil) (da_cons (de_listRange rfl (by rfl) Z.n_list (by rfl) Z.n_range (de_ix rfl (fun _ _ => rfl) (de_var (pv 0)) de_int)) da_nil)) (fun pa => ps_par rfl sc_law_lots.nd rfl rfl (by decide) rfl rfl pa (by rfl)))
    (dss_cons (ds_while (passes_of rfl) (dt_cm (cd_ne Z.sm (hu64 hr)) (de_var (pv 3)) (de_lst da_nil) (nomark _)) (dss_cons (ds_parT (is := [4, 5]) (pfree1 rfl) (da_cons (de_lst (da_cons (de_ix rfl (fun _ _ => rfl) (de_var (pv 3)) de_int) da_nil)) (da_cons de_int da_nil)) rfl (by decide) (fun pa => ps_asg (pe_tup pa) (pg_tup rfl (pgs_cons (pg_name (i := 4) sc_law_lots.nd rfl (Or.inr rfl)) (pgs_cons (pg_name (i := 5) sc_law_lots.nd rfl (Or.inl rfl)) pgs_nil)))))
    (dss_cons (ds_while (passes_of rfl) (dt_cm cd_lt (de_var (pv 5)) (de_fn (does_len rfl) call_len (da_cons (de_var (pv 4)) da_nil) (by rfl) Z.n_len PySem.boot_len) (nomark _)) (dss_cons (ds_for (passes_of rfl) rfl (di_list rfl (de_lc (own := [("_law_one_key", 8)]) rfl sc_law_lots.nd (pfree1 rfl) (by decide) (di_tup rfl (de_var (pv 1))) (blkOk_by (N := N_law_lots) (sc := defScope s_law_lots) (by decide +kernel)) (fun _ _ _ _ _ => (dg_name (pg_name (i := 8) sc_law_lots.nd rfl (Or.inl rfl)) (prOf_no rfl))) (fun _ _ _ _ _ => dts_nil) (fun _ _ _ _ _ => (de_ix rfl (fun _ _ => rfl) (de_ix rfl (fun _ _ => rfl) (de_var (pv 0)) de_int) (de_var (pv 8)))))) (dg_tup rfl rfl (dgs_cons (dg_name (pg_name (i := 6) sc_law_lots.nd rfl (Or.inl rfl)) (prOf_no rfl)) (dgs_cons (dg_name (pg_name (i := 7) sc_law_lots.nd rfl (Or.inl rfl)) (prOf_no rfl)) dgs_nil))) (dss_cons (ds_set (de_if (dt_cm (cd_eq Z.sm (hu64 hr)) (de_var (pv 6)) (de_ix rfl (fun _ _ => rfl) (de_var (pv 4)) (de_var (pv 5))) (nomark _)) (de_var (pv 7)) (de_if (dt_cm (cd_eq Z.sm (hu64 hr)) (de_var (pv 7)) (de_ix rfl (fun _ _ => rfl) (de_var (pv 4)) (de_var (pv 5))) (nomark _)) (de_var (pv 6)) (de_ix rfl (fun _ _ => rfl) (de_var (pv 4)) (de_var (pv 5))))) (prOf_no rfl) (fun t p => ps_set (i := 9) sc_law_lots.nd rfl (Or.inl rfl) p))
    (dss_one (ds_if (dt_cm (cd_notin rfl) (de_var (pv 9)) (de_var (pv 4)) rfl) (dss_one (ds_expr (de_append (de_var (pv 4)) (de_var (pv 9)) (hpe := fun po pa => pe_bm PySem.F.plainAttrs_list PySem.F.slot_list_append PySem.F.type_list_append mt_append po pa)))) dss_nil))))
    (dss_one (ds_set (de_add rfl (de_var (pv 5)) de_int) (prOf_no rfl) (fun t p => ps_set (i := 5) sc_law_lots.nd rfl (Or.inl rfl) p)))))
    (dss_cons (ds_expr (de_append (de_var (pv 2)) (de_tuple rfl (da_cons (de_sortedA rfl (da_cons (de_var (pv 4)) da_nil) (by rfl) Z.n_sorted) da_nil) (by rfl) Z.n_tuple) (hpe := fun po pa => pe_bm PySem.F.plainAttrs_list PySem.F.slot_list_append PySem.F.type_list_append mt_append po pa)))
    (dss_one (ds_setLc (own := [("_law_wire", 10)]) rfl sc_law_lots.nd (pfree1 rfl) (by decide) (di_list rfl (de_var (pv 3))) (blkOk_by (N := N_law_lots) (sc := defScope s_law_lots) (by decide +kernel)) (fun _ _ _ _ _ => (dg_name (pg_name (i := 10) sc_law_lots.nd rfl (Or.inl rfl)) (prOf_no rfl))) (fun _ _ _ _ _ => (dts_one (dt_cm (cd_notin rfl) (de_var (pv 10)) (de_var (pv 4)) rfl))) (fun _ _ _ _ _ => (de_var (pv 10))) (prOf_no rfl) rfl rfl (sw_true rfl rfl rfl (by decide +kernel))))))))
    (dss_one (ds_ret (de_var (pv 2))))))) vc_law_lots
theorem ok__law_seen (Z : Zz K mg fd) : DFn P w K mg base ca 2 (He.ga K "_law_seen") (fd 18) ["_law_frame_here", "_law_down_here"] sp_law_seen :=
  dfn_of (k := 1) Z.F__law_seen sc_law_seen ln_law_seen (fun cdv A outer s H vs E hr hgd hlen =>
    (dss_cons (ds_set (de_mul rfl (de_lst (da_cons de_int da_nil)) (de_ix rfl (fun _ _ => rfl) (de_var (pv 0)) de_int)) (prOf_no rfl) (fun t p => ps_set (i := 2) sc_law_seen.nd rfl (Or.inr rfl) p))
    (dss_cons (ds_for (passes_of rfl) rfl (di_list rfl (de_call rfl (ok__law_lots Z) (hr.mono (by decide)) hgd (takes_of rfl rfl rfl rfl) (by rfl) Z.g__law_lots Z.F__law_lots.kp Z.b__law_lots (da_cons (de_var (pv 0)) (da_cons (de_var (pv 1)) da_nil)))) (dg_name (pg_name (i := 3) sc_law_seen.nd rfl (Or.inl rfl)) (prOf_no rfl)) (dss_one (ds_for (passes_of rfl) rfl (di_tup rfl (de_var (pv 3))) (dg_name (pg_name (i := 4) sc_law_seen.nd rfl (Or.inl rfl)) (prOf_no rfl)) (dss_one (ds_store (de_ix rfl (fun _ _ => rfl) (de_var (pv 3)) de_int) (de_var (pv 2)) (de_var (pv 4)) (fun pe po pi => ps_asg pe (pg_sub po pi set_list)))))))
    (dss_one (ds_ret (de_tuple rfl (da_cons (de_lc (own := [("_law_one_key", 5), ("_law_joint", 6)]) rfl sc_law_seen.nd (pfree1 rfl) (by decide) (di_enum rfl (by rfl) Z.n_enumerate (da_cons (de_ix rfl (fun _ _ => rfl) (de_var (pv 0)) de_int) da_nil)) (blkOk_by (N := N_law_seen) (sc := defScope s_law_seen) (by decide +kernel)) (fun _ _ _ _ _ => (dg_tup rfl rfl (dgs_cons (dg_name (pg_name (i := 5) sc_law_seen.nd rfl (Or.inl rfl)) (prOf_no rfl)) (dgs_cons (dg_name (pg_name (i := 6) sc_law_seen.nd rfl (Or.inl rfl)) (prOf_no rfl)) dgs_nil)))) (fun _ _ _ _ _ => (dts_one (dt_cm (cd_eq Z.sm (hu64 hr)) (de_ix rfl (fun _ _ => rfl) (de_var (pv 2)) (de_ix rfl (fun _ _ => rfl) (de_var (pv 6)) de_int)) (de_ix rfl (fun _ _ => rfl) (de_var (pv 2)) (de_ix rfl (fun _ _ => rfl) (de_var (pv 6)) de_int)) (nomark _)))) (fun _ _ _ _ _ => (de_var (pv 5)))) da_nil) (by rfl) Z.n_tuple)))))) vc_law_seen
theorem ok__law_right (Z : Zz K mg fd) : DFn P w K mg base ca 6 (He.ga K "_law_right") (fd 19) ["_law_frame_here", "_law_given", "_law_dues"] sp_law_right :=
  dfn_of (k := 5) Z.F__law_right sc_law_right ln_law_right (fun cdv A outer s H vs E hr hgd hlen =>
    (dss_cons (ds_set (de_fn does_repr (call_reprD Z.sm (hu64 hr) hgd) (da_cons (de_lst (da_cons (de_var (pv 0)) (da_cons (de_var (pv 1)) da_nil))) da_nil) (by rfl) Z.n_repr (by decide +kernel)) (prOf_no rfl) (fun t p => ps_set (i := 3) sc_law_right.nd rfl (Or.inl rfl) p))
    (dss_cons (ds_set (de_lst (da_cons (de_callF rfl (ok_is_seen_set Z) (hr.mono (by decide)) hgd (takes_of rfl rfl rfl rfl) (by rfl) Z.g_is_seen_set Z.F_is_seen_set.kp Z.b_is_seen_set (da_cons (de_var (pv 0)) (da_cons (de_var (pv 1)) da_nil))) (da_cons (de_callF rfl (ok_is_pressed_set Z) (hr.mono (by decide)) hgd (takes_of rfl rfl rfl rfl) (by rfl) Z.g_is_pressed_set Z.F_is_pressed_set.kp Z.b_is_pressed_set (da_cons (de_var (pv 0)) (da_cons (de_var (pv 1)) da_nil))) da_nil))) (prOf_no rfl) (fun t p => ps_set (i := 4) sc_law_right.nd rfl (Or.inl rfl) p))
    (dss_cons (ds_set (de_add rfl (de_var (pv 4)) (de_lst (da_cons (de_callKF rfl (ok_is_seen_set Z) (hr.mono (by decide)) hgd (takes_of rfl rfl rfl rfl) (by rfl) Z.g_is_seen_set Z.F_is_seen_set.kp Z.k_is_seen_set_0 (dk_cons (de_var (pv 1)) (dk_cons (de_var (pv 0)) dk_nil))) (da_cons (de_callKF rfl (ok_is_pressed_set Z) (hr.mono (by decide)) hgd (takes_of rfl rfl rfl rfl) (by rfl) Z.g_is_pressed_set Z.F_is_pressed_set.kp Z.k_is_pressed_set_0 (dk_cons (de_var (pv 1)) (dk_cons (de_var (pv 0)) dk_nil))) da_nil)))) (prOf_no rfl) (fun t p => ps_set (i := 4) sc_law_right.nd rfl (Or.inl rfl) p))
    (dss_one (ds_ret (de_and (de_cm (cd_eq Z.sm (hu64 hr)) (de_fn does_repr (call_reprD Z.sm (hu64 hr) hgd) (da_cons (de_var (pv 4)) da_nil) (by rfl) Z.n_repr (by decide +kernel)) (de_fn does_repr (call_reprD Z.sm (hu64 hr) hgd) (da_cons (de_mul rfl (de_var (pv 2)) de_int) da_nil) (by rfl) Z.n_repr (by decide +kernel)) (nomark _)) (de_one (de_cm (cd_eq Z.sm (hu64 hr)) (de_fn does_repr (call_reprD Z.sm (hu64 hr) hgd) (da_cons (de_lst (da_cons (de_var (pv 0)) (da_cons (de_var (pv 1)) da_nil))) da_nil) (by rfl) Z.n_repr (by decide +kernel)) (de_var (pv 3)) (nomark _)))))))))) vc_law_right
theorem ok__law_is_free (Z : Zz K mg fd) : DFn P w K mg base ca 3 (He.ga K "_law_is_free") (fd 20) ["_law_frame_here", "_law_down_here"] sp_law_is_free :=
  dfn_of (k := 2) Z.F__law_is_free sc_law_is_free ln_law_is_free (fun cdv A outer s H vs E hr hgd hlen =>
    (dss_one (ds_ret (de_cm (cd_eq Z.sm (hu64 hr)) (de_lc (own := [("_law_at", 2), ("_law_one_key", 3)]) rfl sc_law_is_free.nd (pfree1 rfl) (by decide) (di_enum rfl (by rfl) Z.n_enumerate (da_cons (de_var (pv 1)) da_nil)) (blkOk_by (N := N_law_is_free) (sc := defScope s_law_is_free) (by decide +kernel)) (fun _ _ _ _ _ => (dg_tup rfl rfl (dgs_cons (dg_name (pg_name (i := 2) sc_law_is_free.nd rfl (Or.inl rfl)) (prOf_no rfl)) (dgs_cons (dg_name (pg_name (i := 3) sc_law_is_free.nd rfl (Or.inl rfl)) (prOf_no rfl)) dgs_nil)))) (fun _ _ _ _ _ => (dts_one (dt_cm (cd_in rfl) (de_var (pv 3)) (de_callF rfl (ok__law_seen Z) (hr.mono (by decide)) hgd takes0 (by rfl) Z.g__law_seen Z.F__law_seen.kp Z.b__law_seen (da_cons (de_var (pv 0)) (da_cons (de_slice rfl (de_var (pv 1)) do_none (do_some (de_var (pv 2)))) da_nil))) rfl))) (fun _ _ _ _ _ => (de_var (pv 2)))) (de_lst da_nil) (nomark _))))) vc_law_is_free
theorem ok__law_set_right (Z : Zz K mg fd) : DFn P w K mg base ca 7 (He.ga K "_law_set_right") (fd 21) ["_law_frame_here", "_law_down_here"] sp_law_set_right :=
  dfn_of (k := 6) Z.F__law_set_right sc_law_set_right ln_law_set_right (fun cdv A outer s H vs E hr hgd hlen =>
    (dss_one (ds_ret (de_call rfl (ok__law_right Z) (hr.mono (by decide)) hgd (takes_of rfl rfl rfl rfl) (by rfl) Z.g__law_right Z.F__law_right.kp Z.b__law_right (da_cons (de_var (pv 0)) (da_cons (de_var (pv 1)) (da_cons (de_lst (da_cons (de_cm (cd_eq Z.sm (hu64 hr)) (de_call rfl (ok__law_seen Z) (hr.mono (by decide)) hgd (takes_of rfl rfl rfl rfl) (by rfl) Z.g__law_seen Z.F__law_seen.kp Z.b__law_seen (da_cons (de_var (pv 0)) (da_cons (de_var (pv 1)) da_nil))) (de_var (pv 1)) (nomark _)) (da_cons (de_call rfl (ok__law_is_free Z) (hr.mono (by decide)) hgd (takes_of rfl rfl rfl rfl) (by rfl) Z.g__law_is_free Z.F__law_is_free.kp Z.b__law_is_free (da_cons (de_var (pv 0)) (da_cons (de_var (pv 1)) da_nil))) da_nil))) da_nil))))))) vc_law_set_right
theorem ok__law_subsets (Z : Zz K mg fd) : DFn P w K mg base ca 1 (He.ga K "_law_subsets") (fd 22) ["_law_count"] sp_law_subsets :=
  dfn_of (k := 0) Z.F__law_subsets sc_law_subsets ln_law_subsets (fun cdv A outer s H vs E hr hgd hlen =>
    (dss_cons (ds_set (de_lst (da_cons (de_tup da_nil) da_nil)) (prOf_no rfl) (fun t p => ps_set (i := 1) sc_law_subsets.nd rfl (Or.inl rfl) p))
    (dss_cons (ds_for (passes_of rfl) rfl (di_range1 (by rfl) Z.n_range (da_cons (de_var (pv 0)) da_nil)) (dg_name (pg_name (i := 2) sc_law_subsets.nd rfl (Or.inr rfl)) (prOf_no rfl)) (dss_one (ds_set (de_add rfl (de_var (pv 1)) (de_lc (own := [("_law_down_here", 3)]) rfl sc_law_subsets.nd (pfree1 rfl) (by decide) (di_list rfl (de_var (pv 1))) (blkOk_by (N := N_law_subsets) (sc := defScope s_law_subsets) (by decide +kernel)) (fun _ _ _ _ _ => (dg_name (pg_name (i := 3) sc_law_subsets.nd rfl (Or.inl rfl)) (prOf_no rfl))) (fun _ _ _ _ _ => dts_nil) (fun _ _ _ _ _ => (de_add rfl (de_var (pv 3)) (de_tup (da_cons (de_var (pv 2)) da_nil)))))) (prOf_no rfl) (fun t p => ps_set (i := 1) sc_law_subsets.nd rfl (Or.inl rfl) p))))
    (dss_one (ds_ret (de_var (pv 1))))))) vc_law_subsets
theorem ok__law_grown (Z : Zz K mg fd) : DFn P w K mg base ca 3 (He.ga K "_law_grown") (fd 23) ["_law_jug_here", "_law_frame_here", "_law_most"] sp_law_grown :=
  dfn_of (k := 2) Z.F__law_grown sc_law_grown ln_law_grown (fun cdv A outer s H vs E hr hgd hlen =>
    (dss_cons (ds_set (de_tup da_nil) (prOf_no rfl) (fun t p => ps_set (i := 3) sc_law_grown.nd rfl (Or.inl rfl) p))
    (dss_cons (ds_for (passes_of rfl) rfl (di_range1 (by rfl) Z.n_range (da_cons (de_var (pv 2)) da_nil)) (dg_name (pg_name (i := 4) sc_law_grown.nd rfl (Or.inl rfl)) (prOf_no rfl)) (dss_cons (ds_set (de_call rfl (ok__law_seen Z) (hr.mono (by decide)) hgd (takes_of rfl rfl rfl rfl) (by rfl) Z.g__law_seen Z.F__law_seen.kp Z.b__law_seen (da_cons (de_var (pv 1)) (da_cons (de_var (pv 3)) da_nil))) (prOf_no rfl) (fun t p => ps_set (i := 5) sc_law_grown.nd rfl (Or.inr rfl) p))
    (dss_cons (ds_setLc (own := [("_law_one_key", 7)]) rfl sc_law_grown.nd (pfree1 rfl) (by decide) (di_range1 (by rfl) Z.n_range (da_cons (de_fn (does_len rfl) call_len (da_cons (de_ix rfl (fun _ _ => rfl) (de_var (pv 1)) de_int) da_nil) (by rfl) Z.n_len PySem.boot_len) da_nil)) (blkOk_by (N := N_law_grown) (sc := defScope s_law_grown) (by decide +kernel)) (fun _ _ _ _ _ => (dg_name (pg_name (i := 7) sc_law_grown.nd rfl (Or.inl rfl)) (prOf_no rfl))) (fun _ _ _ _ _ => (dts_one (dt_cm (cd_notin rfl) (de_var (pv 7)) (de_var (pv 5)) rfl))) (fun _ _ _ _ _ => (de_var (pv 7))) (prOf_no rfl) rfl rfl (sw_true rfl rfl rfl (by decide +kernel)))
    (dss_one (ds_if (dt_cm (cd_ne Z.sm (hu64 hr)) (de_var (pv 6)) (de_lst da_nil) (nomark _)) (dss_one (ds_set (de_tuple rfl (da_cons (de_sortedA rfl (da_cons (de_add rfl (de_var (pv 3)) (de_tup (da_cons (de_ix rfl (fun _ _ => rfl) (de_var (pv 6)) (de_call rfl (ok__law_pour Z) (hr.mono (by decide)) hgd (takes_of rfl rfl rfl rfl) (by rfl) Z.g__law_pour Z.F__law_pour.kp Z.b__law_pour (da_cons (de_var (pv 0)) (da_cons (de_fn (does_len rfl) call_len (da_cons (de_var (pv 6)) da_nil) (by rfl) Z.n_len PySem.boot_len) da_nil)))) da_nil))) da_nil) (by rfl) Z.n_sorted) da_nil) (by rfl) Z.n_tuple) (prOf_no rfl) (fun t p => ps_set (i := 3) sc_law_grown.nd rfl (Or.inl rfl) p))) dss_nil)))))
    (dss_one (ds_ret (de_var (pv 3))))))) vc_law_grown
theorem ok__law_others (Z : Zz K mg fd) : DFn P w K mg base ca 2 (He.ga K "_law_others") (fd 24) ["_law_jug_here", "_law_frame_here", "_law_down_here"] sp_law_others :=
  dfn_of (k := 1) Z.F__law_others sc_law_others ln_law_others (fun cdv A outer s H vs E hr hgd hlen =>
    (dss_cons (ds_par (i := 3) (j := 4) (prOf_no rfl) (prOf_no rfl) (by decide) (da_cons (de_fn (does_len rfl) call_len (da_cons (de_ix rfl (fun _ _ => rfl) (de_var (pv 1)) de_int) da_nil) (by rfl) Z.n_len PySem.boot_len) (da_cons (de_call rfl (ok__law_pour Z) (hr.mono (by decide)) hgd (takes_of rfl rfl rfl rfl) (by rfl) Z.g__law_pour Z.F__law_pour.kp Z.b__law_pour (da_cons (de_var (pv 0)) (da_cons (de_add rfl (de_fn (does_len rfl) call_len (da_cons (de_var (pv 2)) da_nil) (by rfl) Z.n_len PySem.boot_len) de_int) da_nil))) da_nil)) (fun pa => ps_par rfl sc_law_others.nd rfl rfl (by decide) rfl rfl pa (by rfl)))
    (dss_cons (ds_set (de_ix rfl (fun _ _ => rfl) (de_lstF (da_cons (de_neg de_int) (da_cons (de_var (pv 3)) (da_cons (de_add rfl (de_var (pv 3)) de_int) (da_cons de_non (da_cons de_bl (da_cons de_str (da_cons (de_tup (da_cons de_int da_nil)) (da_cons (de_lst da_nil) (da_cons (de_pow de_int de_int) da_nil)))))))))) (de_call rfl (ok__law_pour Z) (hr.mono (by decide)) hgd (takes_of rfl rfl rfl rfl) (by rfl) Z.g__law_pour Z.F__law_pour.kp Z.b__law_pour (da_cons (de_var (pv 0)) (da_cons de_int da_nil)))) (prOf_no rfl) (fun t p => ps_set (i := 5) sc_law_others.nd rfl (Or.inl rfl) p))
    (dss_cons (ds_set (de_lstF (da_cons (de_add rfl (de_add rfl (de_slice rfl (de_var (pv 2)) do_none (do_some (de_var (pv 4)))) (de_tup (da_cons (de_var (pv 5)) da_nil))) (de_slice rfl (de_var (pv 2)) (do_some (de_var (pv 4))) do_none)) (da_cons (de_list rfl (da_cons (de_var (pv 2)) da_nil) (by rfl) Z.n_list) (da_cons de_non (da_cons de_int (da_cons de_str (da_cons de_dic0 (da_cons (de_tup (da_cons (de_var (pv 2)) da_nil)) (da_cons (de_add rfl (de_var (pv 2)) (de_tup (da_cons de_int (da_cons de_int da_nil)))) (da_cons (de_tup (da_cons de_int (da_cons de_int da_nil))) (da_cons (de_var (pv 1)) da_nil))))))))))) (prOf_no rfl) (fun t p => ps_set (i := 6) sc_law_others.nd rfl (Or.inl rfl) p))
    (dss_one (ds_ret (de_add rfl (de_var (pv 6)) (de_lstF (da_cons (de_add rfl (de_rev rfl (de_var (pv 2))) (de_tup (da_cons de_int (da_cons de_int da_nil)))) (da_cons de_bl (da_cons (de_tup (da_cons (de_tup da_nil) da_nil)) (da_cons (de_lstF (da_cons (de_lst da_nil) da_nil)) da_nil)))))))))))) vc_law_others
theorem ok_law (Z : Zz K mg fd) : DFn P w K mg base ca 8 (He.ga K "law") (fd 25) ["_law_script"] sp_law :=
  dfn_of (k := 7) Z.F_law sc_law ln_law (fun cdv A outer s H vs E hr hgd hlen =>
    (dss_cons (ds_for (passes_of rfl) rfl (di_range1 (by rfl) Z.n_range (da_cons (de_fn does_max (call_max2 rfl) (da_cons de_int (da_cons (de_fn does_min (call_min2 rfl) (da_cons de_int (da_cons (de_fn (does_len rfl) call_len (da_cons (de_var (pv 0)) da_nil) (by rfl) Z.n_len PySem.boot_len) da_nil)) (by rfl) Z.n_min (by decide +kernel)) da_nil)) (by rfl) Z.n_max (by decide +kernel)) da_nil)) (dg_name (pg_name (i := 1) sc_law.nd rfl (Or.inl rfl)) (prOf_no rfl)) (dss_cons (ds_set (de_call rfl (ok__law_jug Z) (hr.mono (by decide)) hgd (takes_of rfl rfl rfl rfl) (by rfl) Z.g__law_jug Z.F__law_jug.kp Z.b__law_jug (da_cons (de_var (pv 0)) (da_cons (de_var (pv 1)) da_nil))) (prOf_no rfl) (fun t p => ps_set (i := 2) sc_law.nd rfl (Or.inl rfl) p))
    (dss_cons (ds_set (de_call rfl (ok__law_frame Z) (hr.mono (by decide)) hgd (takes_of rfl rfl rfl rfl) (by rfl) Z.g__law_frame Z.F__law_frame.kp Z.b__law_frame (da_cons (de_var (pv 2)) (da_cons de_int (da_cons de_int da_nil)))) (prOf_no rfl) (fun t p => ps_set (i := 3) sc_law.nd rfl (Or.inl rfl) p))
    (dss_cons (ds_for (passes_of rfl) rfl (di_list rfl (de_call rfl (ok__law_subsets Z) (hr.mono (by decide)) hgd (takes_of rfl rfl rfl rfl) (by rfl) Z.g__law_subsets Z.F__law_subsets.kp Z.b__law_subsets (da_cons (de_fn (does_len rfl) call_len (da_cons (de_ix rfl (fun _ _ => rfl) (de_var (pv 3)) de_int) da_nil) (by rfl) Z.n_len PySem.boot_len) da_nil))) (dg_name (pg_name (i := 4) sc_law.nd rfl (Or.inl rfl)) (prOf_no rfl)) (dss_one (ds_if (dt_not (dt_val (de_call rfl (ok__law_set_right Z) (hr.mono (by decide)) hgd (takes_of rfl rfl rfl rfl) (by rfl) Z.g__law_set_right Z.F__law_set_right.kp Z.b__law_set_right (da_cons (de_var (pv 3)) (da_cons (de_var (pv 4)) da_nil))))) (dss_one (ds_ret de_bl)) dss_nil)))
    (dss_cons (ds_set (de_call rfl (ok__law_frame Z) (hr.mono (by decide)) hgd (takes_of rfl rfl rfl rfl) (by rfl) Z.g__law_frame Z.F__law_frame.kp Z.b__law_frame (da_cons (de_var (pv 2)) (da_cons de_int (da_cons de_int da_nil)))) (prOf_no rfl) (fun t p => ps_set (i := 3) sc_law.nd rfl (Or.inl rfl) p))
    (dss_cons (ds_set (de_call rfl (ok__law_grown Z) (hr.mono (by decide)) hgd (takes_of rfl rfl rfl rfl) (by rfl) Z.g__law_grown Z.F__law_grown.kp Z.b__law_grown (da_cons (de_var (pv 2)) (da_cons (de_var (pv 3)) (da_cons (de_add rfl de_int (de_call rfl (ok__law_pour Z) (hr.mono (by decide)) hgd (takes_of rfl rfl rfl rfl) (by rfl) Z.g__law_pour Z.F__law_pour.kp Z.b__law_pour (da_cons (de_var (pv 2)) (da_cons de_int da_nil)))) da_nil)))) (prOf_no rfl) (fun t p => ps_set (i := 5) sc_law.nd rfl (Or.inl rfl) p))
    (dss_cons (ds_set (de_lst (da_cons (de_var (pv 5)) (da_cons (de_call rfl (ok__law_down Z) (hr.mono (by decide)) hgd (takes_of rfl rfl rfl rfl) (by rfl) Z.g__law_down Z.F__law_down.kp Z.b__law_down (da_cons (de_var (pv 2)) (da_cons (de_fn (does_len rfl) call_len (da_cons (de_ix rfl (fun _ _ => rfl) (de_var (pv 3)) de_int) da_nil) (by rfl) Z.n_len PySem.boot_len) da_nil))) (da_cons (de_call rfl (ok__law_seen Z) (hr.mono (by decide)) hgd (takes_of rfl rfl rfl rfl) (by rfl) Z.g__law_seen Z.F__law_seen.kp Z.b__law_seen (da_cons (de_var (pv 3)) (da_cons (de_var (pv 5)) da_nil))) (da_cons (de_tup da_nil) da_nil))))) (prOf_no rfl) (fun t p => ps_set (i := 6) sc_law.nd rfl (Or.inl rfl) p))
    (dss_cons (ds_set (de_call rfl (ok__law_pour Z) (hr.mono (by decide)) hgd (takes_of rfl rfl rfl rfl) (by rfl) Z.g__law_pour Z.F__law_pour.kp Z.b__law_pour (da_cons (de_var (pv 2)) (da_cons (de_fn (does_len rfl) call_len (da_cons (de_ix rfl (fun _ _ => rfl) (de_var (pv 3)) de_int) da_nil) (by rfl) Z.n_len PySem.boot_len) da_nil))) (prOf_no rfl) (fun t p => ps_set (i := 7) sc_law.nd rfl (Or.inr rfl) p))
    (dss_cons (ds_set (de_add rfl (de_var (pv 6)) (de_lc (own := [("_law_one", 8)]) rfl sc_law.nd (pfree1 rfl) (by decide) (di_list rfl (de_var (pv 6))) (blkOk_by (N := N_law) (sc := defScope s_law) (by decide +kernel)) (fun _ _ _ _ _ => (dg_name (pg_name (i := 8) sc_law.nd rfl (Or.inl rfl)) (prOf_no rfl))) (fun _ _ _ _ _ => dts_nil) (fun _ _ _ _ _ => (de_tuple rfl (da_cons (de_sortedSet rfl (by rfl) Z.n_sorted (by rfl) Z.n_set (de_add rfl (de_var (pv 8)) (de_tup (da_cons (de_var (pv 7)) da_nil)))) da_nil) (by rfl) Z.n_tuple)))) (prOf_no rfl) (fun t p => ps_set (i := 6) sc_law.nd rfl (Or.inl rfl) p))
    (dss_cons (ds_set (de_add rfl (de_var (pv 6)) (de_lc (own := [("_law_one", 8)]) rfl sc_law.nd (pfree1 rfl) (by decide) (di_list rfl (de_slice rfl (de_var (pv 6)) do_none (do_some de_int))) (blkOk_by (N := N_law) (sc := defScope s_law) (by decide +kernel)) (fun _ _ _ _ _ => (dg_name (pg_name (i := 8) sc_law.nd rfl (Or.inl rfl)) (prOf_no rfl))) (fun _ _ _ _ _ => dts_nil) (fun _ _ _ _ _ => (de_tuple rfl (da_cons (de_lc (own := [("_law_one_key", 9)]) rfl sc_law.nd (pfree1 rfl) (by decide) (di_tup rfl (de_var (pv 8))) (blkOk_by (by kernel_rfl)) (fun _ _ _ _ _ => (dg_name (pg_name (i := 9) sc_law.nd rfl (Or.inl rfl)) (prOf_no rfl))) (fun _ _ _ _ _ => (dts_one (dt_cm (cd_ne Z.sm (hu64 hr)) (de_var (pv 9)) (de_var (pv 7)) (nomark _)))) (fun _ _ _ _ _ => (de_var (pv 9)))) da_nil) (by rfl) Z.n_tuple)))) (prOf_no rfl) (fun t p => ps_set (i := 6) sc_law.nd rfl (Or.inl rfl) p))
    (dss_cons (ds_for (passes_of rfl) rfl (di_list rfl (de_var (pv 6))) (dg_name (pg_name (i := 4) sc_law.nd rfl (Or.inl rfl)) (prOf_no rfl)) (dss_one (ds_if (dt_not (dt_val (de_call rfl (ok__law_set_right Z) (hr.mono (by decide)) hgd (takes_of rfl rfl rfl rfl) (by rfl) Z.g__law_set_right Z.F__law_set_right.kp Z.b__law_set_right (da_cons (de_var (pv 3)) (da_cons (de_var (pv 4)) da_nil))))) (dss_one (ds_ret de_bl)) dss_nil)))
    (dss_one (ds_for (passes_of rfl) rfl (di_list rfl (de_call rfl (ok__law_others Z) (hr.mono (by decide)) hgd (takes_of rfl rfl rfl rfl) (by rfl) Z.g__law_others Z.F__law_others.kp Z.b__law_others (da_cons (de_var (pv 2)) (da_cons (de_var (pv 3)) (da_cons (de_var (pv 5)) da_nil))))) (dg_name (pg_name (i := 10) sc_law.nd rfl (Or.inl rfl)) (prOf_no rfl)) (dss_one (ds_if (dt_not (dt_val (de_call rfl (ok__law_right Z) (hr.mono (by decide)) hgd (takes_of rfl rfl rfl rfl) (by rfl) Z.g__law_right Z.F__law_right.kp Z.b__law_right (da_cons (de_var (pv 3)) (da_cons (de_var (pv 10)) (da_cons (de_lst (da_cons de_bl (da_cons de_bl da_nil))) da_nil)))))) (dss_one (ds_ret de_bl)) dss_nil)))))))))))))))
    (dss_cons (ds_set (de_tup (da_cons de_int (da_cons (de_tup (da_cons (de_tup (da_cons de_int (da_cons de_int da_nil))) (da_cons (de_tup (da_cons de_int (da_cons de_int da_nil))) (da_cons (de_tup (da_cons de_int (da_cons de_int da_nil))) (da_cons (de_tup (da_cons de_int (da_cons de_int da_nil))) da_nil))))) da_nil))) (prOf_no rfl) (fun t p => ps_set (i := 3) sc_law.nd rfl (Or.inl rfl) p))
    (dss_cons (ds_set (de_lst (da_cons (de_call rfl (ok_is_seen_set Z) (hr.mono (by decide)) hgd (takes_of rfl rfl rfl rfl) (by rfl) Z.g_is_seen_set Z.F_is_seen_set.kp Z.b_is_seen_set (da_cons (de_var (pv 3)) (da_cons (de_tup (da_cons de_int (da_cons de_int (da_cons de_int da_nil)))) da_nil))) (da_cons (de_call rfl (ok_is_pressed_set Z) (hr.mono (by decide)) hgd (takes_of rfl rfl rfl rfl) (by rfl) Z.g_is_pressed_set Z.F_is_pressed_set.kp Z.b_is_pressed_set (da_cons (de_var (pv 3)) (da_cons (de_tup (da_cons de_int (da_cons de_int (da_cons de_int da_nil)))) da_nil))) (da_cons (de_call rfl (ok_is_pressed_set Z) (hr.mono (by decide)) hgd (takes_of rfl rfl rfl rfl) (by rfl) Z.g_is_pressed_set Z.F_is_pressed_set.kp Z.b_is_pressed_set (da_cons (de_var (pv 3)) (da_cons (de_tup (da_cons de_int (da_cons de_int (da_cons de_int (da_cons de_int da_nil))))) da_nil))) da_nil)))) (prOf_no rfl) (fun t p => ps_set (i := 11) sc_law.nd rfl (Or.inl rfl) p))
    (dss_one (ds_ret (de_and (de_cm (cd_eq Z.sm (hu64 hr)) (de_var (pv 11)) (de_lst (da_cons de_bl (da_cons de_bl (da_cons de_bl da_nil)))) (nomark _)) (de_and (de_call rfl (ok_is_seen_set Z) (hr.mono (by decide)) hgd (takes_of rfl rfl rfl rfl) (by rfl) Z.g_is_seen_set Z.F_is_seen_set.kp Z.b_is_seen_set (da_cons (de_var (pv 3)) (da_cons (de_tup da_nil) da_nil))) (de_one (de_call rfl (ok_is_pressed_set Z) (hr.mono (by decide)) hgd (takes_of rfl rfl rfl rfl) (by rfl) Z.g_is_pressed_set Z.F_is_pressed_set.kp Z.b_is_pressed_set (da_cons (de_var (pv 3)) (da_cons (de_tup da_nil) da_nil)))))))))))) vc_law
end
def fa : List He.Fa := [.free "abs", .free "all", .free "bool", .free "enumerate", .free "int", .free "isinstance", .free "len", .free "list", .free "max", .free "min", .free "range", .free "repr", .free "set", .free "sorted", .free "tuple", .free "zip", .glo "is_integer", .glo "is_joint", .glo "is_board", .glo "check_board", .glo "is_set_form", .glo "is_keys", .glo "marks", .glo "closure", .glo "is_closed", .glo "is_seen_set", .glo "lot_count", .glo "has_ring", .glo "is_pressed_set", .glo "_law_jug", .glo "_law_pour", .glo "_law_frame", .glo "_law_down", .glo "_law_lots", .glo "_law_seen", .glo "_law_right", .glo "_law_is_free", .glo "_law_set_right", .glo "_law_subsets", .glo "_law_grown", .glo "_law_others", .glo "law"]
def d0 : He.DefD := ⟨("is_integer", none), "is_integer", "is_integer", defArgs s_is_integer, defBody s_is_integer, defScope s_is_integer, [], []⟩
def d1 : He.DefD := ⟨("is_joint", none), "is_joint", "is_joint", defArgs s_is_joint, defBody s_is_joint, defScope s_is_joint, [], []⟩
def d2 : He.DefD := ⟨("is_board", none), "is_board", "is_board", defArgs s_is_board, defBody s_is_board, defScope s_is_board, [], []⟩
def d3 : He.DefD := ⟨("check_board", none), "check_board", "check_board", defArgs s_check_board, defBody s_check_board, defScope s_check_board, [], []⟩
def d4 : He.DefD := ⟨("is_set_form", none), "is_set_form", "is_set_form", defArgs s_is_set_form, defBody s_is_set_form, defScope s_is_set_form, [], []⟩
def d5 : He.DefD := ⟨("is_keys", none), "is_keys", "is_keys", defArgs s_is_keys, defBody s_is_keys, defScope s_is_keys, [], []⟩
def d6 : He.DefD := ⟨("marks", none), "marks", "marks", defArgs s_marks, defBody s_marks, defScope s_marks, [], []⟩
def d7 : He.DefD := ⟨("closure", none), "closure", "closure", defArgs s_closure, defBody s_closure, defScope s_closure, [], []⟩
def d8 : He.DefD := ⟨("is_closed", none), "is_closed", "is_closed", defArgs s_is_closed, defBody s_is_closed, defScope s_is_closed, [], []⟩
def d9 : He.DefD := ⟨("is_seen_set", none), "is_seen_set", "is_seen_set", defArgs s_is_seen_set, defBody s_is_seen_set, defScope s_is_seen_set, [], []⟩
def d10 : He.DefD := ⟨("lot_count", none), "lot_count", "lot_count", defArgs s_lot_count, defBody s_lot_count, defScope s_lot_count, [], []⟩
def d11 : He.DefD := ⟨("has_ring", none), "has_ring", "has_ring", defArgs s_has_ring, defBody s_has_ring, defScope s_has_ring, [], []⟩
def d12 : He.DefD := ⟨("is_pressed_set", none), "is_pressed_set", "is_pressed_set", defArgs s_is_pressed_set, defBody s_is_pressed_set, defScope s_is_pressed_set, [], []⟩
def d13 : He.DefD := ⟨("_law_jug", none), "_law_jug", "_law_jug", defArgs s_law_jug, defBody s_law_jug, defScope s_law_jug, [], []⟩
def d14 : He.DefD := ⟨("_law_pour", none), "_law_pour", "_law_pour", defArgs s_law_pour, defBody s_law_pour, defScope s_law_pour, [], []⟩
def d15 : He.DefD := ⟨("_law_frame", none), "_law_frame", "_law_frame", defArgs s_law_frame, defBody s_law_frame, defScope s_law_frame, [], []⟩
def d16 : He.DefD := ⟨("_law_down", none), "_law_down", "_law_down", defArgs s_law_down, defBody s_law_down, defScope s_law_down, [], []⟩
def d17 : He.DefD := ⟨("_law_lots", none), "_law_lots", "_law_lots", defArgs s_law_lots, defBody s_law_lots, defScope s_law_lots, [], []⟩
def d18 : He.DefD := ⟨("_law_seen", none), "_law_seen", "_law_seen", defArgs s_law_seen, defBody s_law_seen, defScope s_law_seen, [], []⟩
def d19 : He.DefD := ⟨("_law_right", none), "_law_right", "_law_right", defArgs s_law_right, defBody s_law_right, defScope s_law_right, [], []⟩
def d20 : He.DefD := ⟨("_law_is_free", none), "_law_is_free", "_law_is_free", defArgs s_law_is_free, defBody s_law_is_free, defScope s_law_is_free, [], []⟩
def d21 : He.DefD := ⟨("_law_set_right", none), "_law_set_right", "_law_set_right", defArgs s_law_set_right, defBody s_law_set_right, defScope s_law_set_right, [], []⟩
def d22 : He.DefD := ⟨("_law_subsets", none), "_law_subsets", "_law_subsets", defArgs s_law_subsets, defBody s_law_subsets, defScope s_law_subsets, [], []⟩
def d23 : He.DefD := ⟨("_law_grown", none), "_law_grown", "_law_grown", defArgs s_law_grown, defBody s_law_grown, defScope s_law_grown, [], []⟩
def d24 : He.DefD := ⟨("_law_others", none), "_law_others", "_law_others", defArgs s_law_others, defBody s_law_others, defScope s_law_others, [], []⟩
def d25 : He.DefD := ⟨("law", none), "law", "law", defArgs s_law, defBody s_law, defScope s_law, [], []⟩
def fn : List He.DefD := [d0, d1, d2, d3, d4, d5, d6, d7, d8, d9, d10, d11, d12, d13, d14, d15, d16, d17, d18, d19, d20, d21, d22, d23, d24, d25]
def nm0 : List PySem.Str := ["__name__", "BoardError", "InvalidBoard", "is_integer", "is_joint", "is_board", "check_board", "is_set_form", "is_keys", "marks", "closure", "is_closed", "lot_count", "has_ring", "is_seen_set", "is_pressed_set", "_law_jug", "_law_pour", "_law_frame", "_law_down", "_law_lots", "_law_seen", "_law_is_free", "_law_right", "_law_set_right", "_law_subsets", "_law_grown", "_law_others"]
def nms : List PySem.Str := nm0
abbrev R : PySem.W.OpenRow := PySem.W.OpenLaw.row PySem.Challenge.rw_ghostlogs_k03_seen_and_pressed_sets
abbrev qv : Program := PySem.W.view R.prog [30]
abbrev hk : PySem.W.Hook := hookS 5 fa fn
def ob (s : PySem.W.SharedT) : AlS := obsSG 5 fa fn (HandSHeadRun.getT s)
theorem ob_eq (s : PySem.W.SharedT) : ob s = hk.obs s.abs := obsSG_eq (HandSHeadRun.getT_eq s)
theorem run (w : World) : HandSHeadRun.RunEq R qv hk ob 2580 nms w := by
  intro os
  kernel_rfl
theorem facts {P : Program} {w : World} {K : PySem.W.Frag} {h : Heap} {mg : Str → Option Value} {f : Addr} (X : K.In h) (G : h.Ns mainGlobals mg) (hfa : mg "law" = some (.ref f)) (c : He.SaysD fa fn K) (sm : SmOk K) :
    ∃ fd : FuncData, (∀ (s : Shared) (v : Value), BindsTo s fd ⟨[v], []⟩ [("_law_script", v)]) ∧ ∀ base : Heap, K.In base → base.Ns mainGlobals mg → DFn P w K mg base (fun _ => none) 8 f fd ["_law_script"] sp_law := by
  obtain ⟨z0, F0⟩ := c.def_ 0 (d := d0) rfl
  obtain ⟨z1, F1⟩ := c.def_ 1 (d := d1) rfl
  obtain ⟨z2, F2⟩ := c.def_ 2 (d := d2) rfl
  obtain ⟨z3, F3⟩ := c.def_ 3 (d := d3) rfl
  obtain ⟨z4, F4⟩ := c.def_ 4 (d := d4) rfl
  obtain ⟨z5, F5⟩ := c.def_ 5 (d := d5) rfl
  obtain ⟨z6, F6⟩ := c.def_ 6 (d := d6) rfl
  obtain ⟨z7, F7⟩ := c.def_ 7 (d := d7) rfl
  obtain ⟨z8, F8⟩ := c.def_ 8 (d := d8) rfl
  obtain ⟨z9, F9⟩ := c.def_ 9 (d := d9) rfl
  obtain ⟨z10, F10⟩ := c.def_ 10 (d := d10) rfl
  obtain ⟨z11, F11⟩ := c.def_ 11 (d := d11) rfl
  obtain ⟨z12, F12⟩ := c.def_ 12 (d := d12) rfl
  obtain ⟨z13, F13⟩ := c.def_ 13 (d := d13) rfl
  obtain ⟨z14, F14⟩ := c.def_ 14 (d := d14) rfl
  obtain ⟨z15, F15⟩ := c.def_ 15 (d := d15) rfl
  obtain ⟨z16, F16⟩ := c.def_ 16 (d := d16) rfl
  obtain ⟨z17, F17⟩ := c.def_ 17 (d := d17) rfl
  obtain ⟨z18, F18⟩ := c.def_ 18 (d := d18) rfl
  obtain ⟨z19, F19⟩ := c.def_ 19 (d := d19) rfl
  obtain ⟨z20, F20⟩ := c.def_ 20 (d := d20) rfl
  obtain ⟨z21, F21⟩ := c.def_ 21 (d := d21) rfl
  obtain ⟨z22, F22⟩ := c.def_ 22 (d := d22) rfl
  obtain ⟨z23, F23⟩ := c.def_ 23 (d := d23) rfl
  obtain ⟨z24, F24⟩ := c.def_ 24 (d := d24) rfl
  obtain ⟨z25, F25⟩ := c.def_ 25 (d := d25) rfl
  cases hfa.symm.trans (He.glo_ok X G (c.fact 41 (f := .glo "law") rfl))
  have Z : Zz K mg (fun j => ([z0, z1, z2, z3, z4, z5, z6, z7, z8, z9, z10, z11, z12, z13, z14, z15, z16, z17, z18, z19, z20, z21, z22, z23, z24, z25] : List FuncData).getD j z0) := {
    sm := sm,
    n_abs := He.free_ok X G (c.fact 0 (f := .free "abs") rfl),
    n_all := He.free_ok X G (c.fact 1 (f := .free "all") rfl),
    n_bool := He.free_ok X G (c.fact 2 (f := .free "bool") rfl),
    n_enumerate := He.free_ok X G (c.fact 3 (f := .free "enumerate") rfl),
    n_int := He.free_ok X G (c.fact 4 (f := .free "int") rfl),
    n_isinstance := He.free_ok X G (c.fact 5 (f := .free "isinstance") rfl),
    n_len := He.free_ok X G (c.fact 6 (f := .free "len") rfl),
    n_list := He.free_ok X G (c.fact 7 (f := .free "list") rfl),
    n_max := He.free_ok X G (c.fact 8 (f := .free "max") rfl),
    n_min := He.free_ok X G (c.fact 9 (f := .free "min") rfl),
    n_range := He.free_ok X G (c.fact 10 (f := .free "range") rfl),
    n_repr := He.free_ok X G (c.fact 11 (f := .free "repr") rfl),
    n_set := He.free_ok X G (c.fact 12 (f := .free "set") rfl),
    n_sorted := He.free_ok X G (c.fact 13 (f := .free "sorted") rfl),
    n_tuple := He.free_ok X G (c.fact 14 (f := .free "tuple") rfl),
    n_zip := He.free_ok X G (c.fact 15 (f := .free "zip") rfl),
    g_is_integer := He.glo_ok X G (c.fact 16 (f := .glo "is_integer") rfl),
    g_is_joint := He.glo_ok X G (c.fact 17 (f := .glo "is_joint") rfl),
    g_is_board := He.glo_ok X G (c.fact 18 (f := .glo "is_board") rfl),
    g_check_board := He.glo_ok X G (c.fact 19 (f := .glo "check_board") rfl),
    g_is_set_form := He.glo_ok X G (c.fact 20 (f := .glo "is_set_form") rfl),
    g_is_keys := He.glo_ok X G (c.fact 21 (f := .glo "is_keys") rfl),
    g_marks := He.glo_ok X G (c.fact 22 (f := .glo "marks") rfl),
    g_closure := He.glo_ok X G (c.fact 23 (f := .glo "closure") rfl),
    g_is_closed := He.glo_ok X G (c.fact 24 (f := .glo "is_closed") rfl),
    g_is_seen_set := He.glo_ok X G (c.fact 25 (f := .glo "is_seen_set") rfl),
    g_lot_count := He.glo_ok X G (c.fact 26 (f := .glo "lot_count") rfl),
    g_has_ring := He.glo_ok X G (c.fact 27 (f := .glo "has_ring") rfl),
    g_is_pressed_set := He.glo_ok X G (c.fact 28 (f := .glo "is_pressed_set") rfl),
    g__law_jug := He.glo_ok X G (c.fact 29 (f := .glo "_law_jug") rfl),
    g__law_pour := He.glo_ok X G (c.fact 30 (f := .glo "_law_pour") rfl),
    g__law_frame := He.glo_ok X G (c.fact 31 (f := .glo "_law_frame") rfl),
    g__law_down := He.glo_ok X G (c.fact 32 (f := .glo "_law_down") rfl),
    g__law_lots := He.glo_ok X G (c.fact 33 (f := .glo "_law_lots") rfl),
    g__law_seen := He.glo_ok X G (c.fact 34 (f := .glo "_law_seen") rfl),
    g__law_right := He.glo_ok X G (c.fact 35 (f := .glo "_law_right") rfl),
    g__law_is_free := He.glo_ok X G (c.fact 36 (f := .glo "_law_is_free") rfl),
    g__law_set_right := He.glo_ok X G (c.fact 37 (f := .glo "_law_set_right") rfl),
    g__law_subsets := He.glo_ok X G (c.fact 38 (f := .glo "_law_subsets") rfl),
    g__law_grown := He.glo_ok X G (c.fact 39 (f := .glo "_law_grown") rfl),
    g__law_others := He.glo_ok X G (c.fact 40 (f := .glo "_law_others") rfl),
    F_is_integer := fun_ofD F0,
    b_is_integer := (F0.bindsN fun _ _ _ _ _ _ us hl => match us, hl with | [_, _, _], _ => rfl),
    F_is_joint := fun_ofD F1,
    b_is_joint := (F1.bindsN fun _ _ _ _ _ _ us hl => match us, hl with | [_, _], _ => rfl),
    F_is_board := fun_ofD F2,
    b_is_board := (F2.bindsN fun _ _ _ _ _ _ us hl => match us, hl with | [_], _ => rfl),
    F_check_board := fun_ofD F3,
    b_check_board := (F3.bindsN fun _ _ _ _ _ _ us hl => match us, hl with | [_], _ => rfl),
    F_is_set_form := fun_ofD F4,
    b_is_set_form := (F4.bindsN fun _ _ _ _ _ _ us hl => match us, hl with | [_, _], _ => rfl),
    F_is_keys := fun_ofD F5,
    b_is_keys := (F5.bindsN fun _ _ _ _ _ _ us hl => match us, hl with | [_, _], _ => rfl),
    F_marks := fun_ofD F6,
    b_marks := (F6.bindsN fun _ _ _ _ _ _ us hl => match us, hl with | [_, _], _ => rfl),
    F_closure := fun_ofD F7,
    b_closure := (F7.bindsN fun _ _ _ _ _ _ us hl => match us, hl with | [_, _], _ => rfl),
    F_is_closed := fun_ofD F8,
    b_is_closed := (F8.bindsN fun _ _ _ _ _ _ us hl => match us, hl with | [_, _], _ => rfl),
    F_is_seen_set := fun_ofD F9,
    b_is_seen_set := (F9.bindsN fun _ _ _ _ _ _ us hl => match us, hl with | [_, _], _ => rfl),
    k_is_seen_set_0 := (kbnd_of F9 (by decide) (by decide) rfl (fun _ _ _ _ _ _ us hl => match us, hl with | [_, _], _ => rfl)),
    F_lot_count := fun_ofD F10,
    b_lot_count := (F10.bindsN fun _ _ _ _ _ _ us hl => match us, hl with | [_, _], _ => rfl),
    F_has_ring := fun_ofD F11,
    b_has_ring := (F11.bindsN fun _ _ _ _ _ _ us hl => match us, hl with | [_, _], _ => rfl),
    F_is_pressed_set := fun_ofD F12,
    b_is_pressed_set := (F12.bindsN fun _ _ _ _ _ _ us hl => match us, hl with | [_, _], _ => rfl),
    k_is_pressed_set_0 := (kbnd_of F12 (by decide) (by decide) rfl (fun _ _ _ _ _ _ us hl => match us, hl with | [_, _], _ => rfl)),
    F__law_jug := fun_ofD F13,
    b__law_jug := (F13.bindsN fun _ _ _ _ _ _ us hl => match us, hl with | [_, _], _ => rfl),
    F__law_pour := fun_ofD F14,
    b__law_pour := (F14.bindsN fun _ _ _ _ _ _ us hl => match us, hl with | [_, _], _ => rfl),
    F__law_frame := fun_ofD F15,
    b__law_frame := (F15.bindsN fun _ _ _ _ _ _ us hl => match us, hl with | [_, _, _], _ => rfl),
    F__law_down := fun_ofD F16,
    b__law_down := (F16.bindsN fun _ _ _ _ _ _ us hl => match us, hl with | [_, _], _ => rfl),
    F__law_lots := fun_ofD F17,
    b__law_lots := (F17.bindsN fun _ _ _ _ _ _ us hl => match us, hl with | [_, _], _ => rfl),
    F__law_seen := fun_ofD F18,
    b__law_seen := (F18.bindsN fun _ _ _ _ _ _ us hl => match us, hl with | [_, _], _ => rfl),
    F__law_right := fun_ofD F19,
    b__law_right := (F19.bindsN fun _ _ _ _ _ _ us hl => match us, hl with | [_, _, _], _ => rfl),
    F__law_is_free := fun_ofD F20,
    b__law_is_free := (F20.bindsN fun _ _ _ _ _ _ us hl => match us, hl with | [_, _], _ => rfl),
    F__law_set_right := fun_ofD F21,
    b__law_set_right := (F21.bindsN fun _ _ _ _ _ _ us hl => match us, hl with | [_, _], _ => rfl),
    F__law_subsets := fun_ofD F22,
    b__law_subsets := (F22.bindsN fun _ _ _ _ _ _ us hl => match us, hl with | [_], _ => rfl),
    F__law_grown := fun_ofD F23,
    b__law_grown := (F23.bindsN fun _ _ _ _ _ _ us hl => match us, hl with | [_, _, _], _ => rfl),
    F__law_others := fun_ofD F24,
    b__law_others := (F24.bindsN fun _ _ _ _ _ _ us hl => match us, hl with | [_, _, _], _ => rfl),
    F_law := fun_ofD F25 }
  have b := FunD.bindsA (ps := ["_law_script"]) F25 fun _ _ _ _ _ _ us hl => match us, hl with | [_], _ => rfl
  exact ⟨z25, fun s v => b s [v] rfl, fun base _ _ => ok_law Z⟩
end GL

open PySem PySem.W
open PySem.Calls PyProof.Rows
set_option maxHeartbeats 0 in
theorem PySem.Challenge.cw_ghostlogs_k03_seen_and_pressed_sets_holds : PySem.Challenge.rw_ghostlogs_k03_seen_and_pressed_sets.Holds := by
  w_on; o_law
  refine HandSHeadRun.head_any (r := GL.R) (q := GL.qv) (H := GL.hk) (ob := GL.ob) (M := 2580) (loose := GL.nms) (d := HandSHeadRun.topDef GL.R.prog 30) (kwd := []) GL.ob_eq
    (by kernel_rfl) (fun s => by kernel_rfl) GL.run (by kernel_rfl) (by kernel_rfl) (by kernel_rfl) (by rfl) (by first | assumption | decide +kernel) (by decide +kernel) ⟨rfl, rfl, rfl, rfl, rfl, by decide +kernel⟩ ?hw ?hc
  case hw => w_witness2
  case hc =>
    refine DL.walk_law (l := PySem.Challenge.rw_ghostlogs_k03_seen_and_pressed_sets) (n := 63) (k := 8) (x := "_law_script") rfl (by decide) (by kernel_rfl) ⟨rfl, by decide, by decide⟩ ?F
    intro w mg fa h Y G hmg0
    obtain ⟨K, KX, c, sm⟩ := Y
    have hmg : mg ("law" : PySem.Str) = some (.ref fa) := by
      have e : (HandSHeadRun.topDef GL.R.prog 30).name = ("law" : PySem.Str) := by kernel_rfl
      rw [← e]
      exact hmg0
    obtain ⟨fd, hb, hF⟩ := GL.facts (P := (PySem.Challenge.rw_ghostlogs_k03_seen_and_pressed_sets).prog) (w := w) KX G hmg c sm
    exact ⟨K, fun _ => none, fd, GL.sp_law, KX, hb, GL.law_ok, hF⟩
#print axioms PySem.Challenge.cw_ghostlogs_k03_seen_and_pressed_sets_holds

