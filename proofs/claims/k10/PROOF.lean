import PyProof.Rows.All
import Wide.All
import OpenK.AllK
import Wide.FinOn
import HandS.ForMost
import HandS.ForExc
import HandS.Wide
import HandS.TryMany
import HandS.IsInst
import HandS.ExcIs
import HandS.CallSlots
import HandS.EndBits
import HandS.TupAny
import HandS.TupLe
import HandS.WideBits
import HandS.Rev
import HandS.RevRange
import HandS.SortKw
import HandS.NamedTupSort
import HandS.TupSets
import HandS.Zip
import KE.KTupSum
import HandS.Style
import HandS.HotCalls
import HandS.Replace
import HandS.ReplaceLit
import HandS.Codes
import HandS.Deep
import HandS.Iter
import KE.DataFind
import KE.DataMinMax
import PySem.Challenge.RW_polyring_k10_written
set_option Elab.async false
set_option linter.all false
set_option maxRecDepth 100000
namespace Q
open PySem L2
abbrev D := PyData
/-- what a slot of a frame holds: nothing yet, data that stands still, a list of its own, a list that is lent, a dict of its own with keys of whole numbers, an error -/
inductive Sl where
  | un | v (d : D) | o (ds : List D) | b (ds : List D) | t (kvs : List (List Int × D)) | x (c : Nat)
abbrev En := List Sl
/-- what an expression comes to: data, a new list, a slot's own thing, a new dict -/
inductive Vl where
  | v (d : D) | f (ds : List D) | a (i : Nat) | ft
inductive R (α : Type) where
  | ok (a : α) (e : En) | err (c : Nat) (e : En) | no
def R.bind {α β : Type} : R α → (α → En → R β) → R β
  | .ok a e, k => k a e
  | .err c e, _ => .err c e
  | .no, _ => .no
abbrev Ev := En → R Vl
abbrev Tv := En → R Bool
def Sl.own : Sl → Bool
  | .o _ => true
  | .t _ => true
  | _ => false
/-- own, or lent -/
def Sl.sp : Sl → Bool
  | .o _ => true
  | .t _ => true
  | .b _ => true
  | _ => false
def gt (env : En) (i : Nat) : Sl := env.getD i .un

/-! v is the data d, all of which stands in F -/
mutual
inductive Rp (F : Hp) : V → D → Prop
  | non : Rp F .non .none
  | bl (b : Bool) : Rp F (.bl b) (.bool b)
  | int (i : Int) : Rp F (.int i) (.int i)
  | str (x : Str) : Rp F (.str x) (.str x)
  | lst {a : Addr} {xs : List V} {ds : List D} : Rd F a (.lst xs) → RpAll F xs ds → Rp F (.ref a) (.list ds)
  | tup {a : Addr} {xs : List V} {ds : List D} : F a = some (.tup xs) → RpAll F xs ds → Rp F (.ref a) (.tuple ds)
  | dic {a : Addr} {kvs : List (Key × V)} : Rd F a (.dK kvs) → Rp F (.ref a) (.dict [])
inductive RpAll (F : Hp) : List V → List D → Prop
  | nil : RpAll F [] []
  | cons {v : V} {vs : List V} {d : D} {ds : List D} : Rp F v d → RpAll F vs ds → RpAll F (v :: vs) (d :: ds)
end
section
def KvOk (F : Hp) : List (List Key × V) → List (List Int × D) → Prop
  | [], [] => True
  | w :: ws, k :: ks => w.1 = k.1.map Sum.inl ∧ Rp F w.2 k.2 ∧ KvOk F ws ks
  | _, _ => False
def SlOk (ξ : Addr × Nat) (F0 H0 F H : Hp) : Sl → Option V → Prop
  | .un, _ => True
  | .v d, w => ∃ v, w = some v ∧ Rp F v d
  | .o ds, w => ∃ a vs, w = some (.ref a) ∧ F a = none ∧ H0 a = none ∧ H a = some (.lst vs) ∧ RpAll F vs ds
  | .b ds, w => ∃ a vs, w = some (.ref a) ∧ Rd H0 a (.lst vs) ∧ RpAll F vs ds
  | .t kvs, w => ∃ a ws, w = some (.ref a) ∧ F a = none ∧ H0 a = none ∧ H a = some (.dT ws) ∧ KvOk F ws kvs
  | .x c, w => w = some (.ref ξ.1) ∧ c = ξ.2
structure Sim (ξ : Addr × Nat) (F0 H0 : Hp) (env : En) (σ : St) (F H : Hp) : Prop where
  f : Same F0 F
  h : Same H0 H
  fh : Same F H
  n : ∀ a o, F a = some o → F0 a = some o ∨ H0 a = none ∨ ((∃ xs, o = .tup xs) ∧ H0 a = some o)
  len : env.length = σ.length
  sl : ∀ i, SlOk ξ F0 H0 F H (gt env i) (σ[i]?).join
  sep : ∀ i j a, (gt env i).own = true → (gt env j).own = true → σ[i]? = some (some (.ref a)) → σ[j]? = some (some (.ref a)) → i = j
/-- a value of content d: a list may be anyone's, its items stand still -/
def Cont (F H : Hp) (v : V) (d : D) : Prop := match d with
  | .list ds => ∃ a vs, v = .ref a ∧ Rd H a (.lst vs) ∧ RpAll F vs ds
  | d => Rp F v d
def VlOk (H0 : Hp) (env : En) (σ : St) (F H : Hp) (v : V) : Vl → Prop
  | .v d => Rp F v d
  | .f ds => ∃ a vs, v = .ref a ∧ F a = none ∧ H0 a = none ∧ H a = some (.lst vs) ∧ RpAll F vs ds ∧ ∀ i, (gt env i).own = true → σ[i]? ≠ some (some (.ref a))
  | .a i => σ[i]? = some (some v)
  | .ft => ∃ a, v = .ref a ∧ F a = none ∧ H0 a = none ∧ H a = some (.dT []) ∧ ∀ i, (gt env i).own = true → σ[i]? ≠ some (some (.ref a))
/-- a tuple: it never changes -/
def Pl (o : HO) : Prop := ∃ xs, o = .tup xs
def New (F F' H : Hp) : Prop := ∀ a o, F' a = some o → F a = some o ∨ H a = none ∨ (Pl o ∧ H a = some o)
/-- what a step on values leaves: F', H' grown -/
structure Gr (F H F' H' : Hp) : Prop where
  f : Same F F'
  h : Same H H'
  fh : Same F' H'
  n : New F F' H
end
def toD (env : En) : Vl → Option D
  | .v d => some d
  | .f ds => some (.list ds)
  | .a i => match gt env i with
    | .v d => some d
    | .o ds => some (.list ds)
    | .b ds => some (.list ds)
    | _ => none
  | .ft => none
/-- a value is to stand still from now on -/
def still (env : En) : Vl → Option (D × En)
  | .v d => some (d, env)
  | .f ds => some (.list ds, env)
  | .a i => match gt env i with
    | .v d => some (d, env)
    | .o ds => some (.list ds, env.set i (.v (.list ds)))
    | _ => none
  | .ft => none

section
variable {ξ : Addr × Nat} {F0 H0 F H F' H' F2 H2 : Hp} {env : En} {σ : St} {v : V} {d : D}
theorem same_new {H : Hp} {p : Addr} {o : HO} (h : H p = none) : Same H (upd H p o) := fun b x e => by
  rw [upd_ne (ne_of_none e h)]
  exact e
theorem rd_mono {H H' : Hp} {a : Addr} {o : HO} (e : Same H H') (h : Rd H a o) : Rd H' a o := by
  rcases h with h | ⟨ob, h⟩
  · exact .inl (e _ _ h)
  · exact .inr ⟨ob, e _ _ h⟩
mutual
theorem Rp.mono (e : Same F F') : ∀ {d : D} {v : V}, Rp F v d → Rp F' v d
  | _, _, .non => .non
  | _, _, .bl b => .bl b
  | _, _, .int i => .int i
  | _, _, .str x => .str x
  | _, _, .lst h hs => .lst (rd_mono e h) (RpAll.mono e hs)
  | _, _, .tup h hs => .tup (e _ _ h) (RpAll.mono e hs)
  | _, _, .dic h => .dic (rd_mono e h)
theorem RpAll.mono (e : Same F F') : ∀ {ds : List D} {vs : List V}, RpAll F vs ds → RpAll F' vs ds
  | _, _, .nil => .nil
  | _, _, .cons h hs => .cons (Rp.mono e h) (RpAll.mono e hs)
end
theorem KvOk.mono (e : Same F F') : ∀ {ws : List (List Key × V)} {kvs : List (List Int × D)}, KvOk F ws kvs → KvOk F' ws kvs
  | [], [], _ => trivial
  | _ :: _, _ :: _, ⟨a, b, c⟩ => ⟨a, Rp.mono e b, KvOk.mono e c⟩
  | [], _ :: _, h => h.elim
  | _ :: _, [], h => h.elim
theorem RpAll.length : ∀ {vs : List V} {ds : List D}, RpAll F vs ds → vs.length = ds.length
  | _, _, .nil => rfl
  | _, _, .cons _ hs => congrArg (· + 1) (RpAll.length hs)
theorem RpAll.get : ∀ {vs : List V} {ds : List D} {i : Nat} {d : D}, RpAll F vs ds → ds[i]? = some d → ∃ v, vs[i]? = some v ∧ Rp F v d
  | _, _, _, _, .nil, h => by simp at h
  | _, _, 0, _, .cons h _, e => by simp at e; subst e; exact ⟨_, rfl, h⟩
  | _, _, i + 1, _, .cons _ hs, e => by
    obtain ⟨v, h1, h2⟩ := RpAll.get (i := i) hs (by simpa using e)
    exact ⟨v, by simpa using h1, h2⟩
theorem RpAll.append : ∀ {vs ws : List V} {ds es : List D}, RpAll F vs ds → RpAll F ws es → RpAll F (vs ++ ws) (ds ++ es)
  | _, _, _, _, .nil, h => h
  | _, _, _, _, .cons a b, h => .cons a (RpAll.append b h)
theorem RpAll.set : ∀ {vs : List V} {ds : List D} {v : V} {d : D} (i : Nat), RpAll F vs ds → Rp F v d → RpAll F (vs.set i v) (ds.set i d)
  | _, _, _, _, _, .nil, _ => .nil
  | _, _, _, _, 0, .cons _ b, h => .cons h b
  | _, _, _, _, i + 1, .cons a b, h => .cons a (RpAll.set i b h)
theorem RpAll.take : ∀ {vs : List V} {ds : List D} (n : Nat), RpAll F vs ds → RpAll F (vs.take n) (ds.take n)
  | _, _, 0, _ => .nil
  | _, _, _ + 1, .nil => .nil
  | _, _, n + 1, .cons a b => .cons a (RpAll.take n b)
theorem RpAll.drop : ∀ {vs : List V} {ds : List D} (n : Nat), RpAll F vs ds → RpAll F (vs.drop n) (ds.drop n)
  | _, _, 0, h => h
  | _, _, _ + 1, .nil => .nil
  | _, _, n + 1, .cons _ b => RpAll.drop n b
theorem RpAll.rep (h : RpAll F vs ds) : ∀ k : Nat, RpAll F (List.replicate k vs).flatten (List.replicate k ds).flatten
  | 0 => .nil
  | k + 1 => by
    simp only [List.replicate_succ, List.flatten_cons]
    exact RpAll.append h (RpAll.rep h k)
theorem Cont.mono (e : Same F F') (g : Same H H') (h : Cont F H v d) : Cont F' H' v d := by
  unfold Cont at h ⊢
  split at h
  · obtain ⟨a, vs, e1, e2, e3⟩ := h
    exact ⟨a, vs, e1, rd_mono g e2, RpAll.mono e e3⟩
  · exact Rp.mono e h
theorem Cont.rp (g : Same F H) (h : Cont F H v d) : Rp H v d := by
  unfold Cont at h
  split at h
  · obtain ⟨a, vs, rfl, e2, e3⟩ := h
    exact .lst e2 (RpAll.mono g e3)
  · exact Rp.mono g h
theorem Cont.of (g : Same F H) (h : Rp F v d) : Cont F H v d := by
  unfold Cont
  split
  · cases h with
    | lst a b => exact ⟨_, _, rfl, rd_mono g a, b⟩
  · exact h
theorem slot_get (s : Sim ξ F0 H0 env σ F H) {i : Nat} {v : V} (h : (σ[i]?).join = some v) : σ[i]? = some (some v) := by
  cases e : σ[i]? with
  | none => exact absurd h (by rw [e]; simp)
  | some w => rw [e] at h; cases w with
    | none => cases h
    | some u => cases h; rfl
theorem join_get {i : Nat} {v : V} (h : σ[i]? = some (some v)) : (σ[i]?).join = some v := by rw [h]; rfl
theorem VlOk.cont (s : Sim ξ F0 H0 env σ F H) {vl : Vl} (h : VlOk H0 env σ F H v vl) (e : toD env vl = some d) : Cont F H v d := by
  cases vl with
  | v x => cases e; exact Cont.of s.fh h
  | f ds =>
    cases e
    obtain ⟨a, vs, rfl, _, _, h2, h3, _⟩ := h
    exact ⟨a, vs, rfl, Rd.of h2, h3⟩
  | a i =>
    have q := s.sl i
    have g : σ[i]? = some (some v) := h
    rw [join_get g] at q
    unfold toD at e
    cases hs : gt env i with
    | v x =>
      rw [hs] at q; simp only [hs] at e
      cases e
      obtain ⟨v', e1, e2⟩ := q
      cases e1
      exact Cont.of s.fh e2
    | o ds =>
      rw [hs] at q; simp only [hs] at e
      cases e
      obtain ⟨a, vs, e1, _, _, e2, e3⟩ := q
      cases e1
      exact ⟨a, vs, rfl, Rd.of e2, e3⟩
    | b ds =>
      rw [hs] at q; simp only [hs] at e
      cases e
      obtain ⟨a, vs, e1, e2, e3⟩ := q
      cases e1
      exact ⟨a, vs, rfl, rd_mono s.h e2, e3⟩
    | un => simp only [hs] at e; cases e
    | t kvs => simp only [hs] at e; cases e
    | x c => simp only [hs] at e; cases e
  | ft => cases e
theorem Gr.refl (g : Same F H) : Gr F H F H := ⟨.refl _, .refl _, g, fun _ _ e => .inl e⟩
/-- a new cell that is not to stand still -/
theorem Gr.cell (g : Same F H) {p : Addr} {o : HO} (hp : H p = none) : Gr F H F (upd H p o) := ⟨.refl _, same_new hp, g.trans (same_new hp), fun _ _ e => .inl e⟩
/-- a new cell that stands still -/
theorem Gr.data (g : Same F H) {p : Addr} {o : HO} (hp : H p = none) : Gr F H (upd F p o) (upd H p o) := by
  refine ⟨same_new (g.free hp), same_new hp, fun a x e => ?_, fun a x e => ?_⟩
  · by_cases h : a = p
    · subst h; rw [upd_same] at e ⊢; exact e
    · rw [upd_ne h] at e ⊢; exact g _ _ e
  · by_cases h : a = p
    · subst h; exact .inr (.inl hp)
    · rw [upd_ne h] at e; exact .inl e
theorem back_pl (h : Same H H') {a : Addr} {o : HO} (p : Pl o) (e : H' a = some o) : H a = none ∨ (Pl o ∧ H a = some o) := by
  cases z : H a with
  | none => exact .inl rfl
  | some u =>
    have q := h _ _ z
    rw [e] at q
    cases q
    exact .inr ⟨p, rfl⟩
theorem Gr.trans (a : Gr F H F' H') (b : Gr F' H' F2 H2) : Gr F H F2 H2 := by
  refine ⟨a.f.trans b.f, a.h.trans b.h, b.fh, fun x o e => ?_⟩
  rcases b.n x o e with q | q | ⟨q, r⟩
  · exact a.n x o q
  · exact .inr (.inl (a.h.free q))
  · exact .inr (back_pl a.h q r)
theorem none_of (s : Gr F H F' H') {a : Addr} {o : HO} (h : F a = none) (h2 : H a = some o) (hp : ¬ Pl o) : F' a = none := by
  cases e : F' a with
  | none => rfl
  | some u =>
    rcases s.n a u e with q | q | ⟨q, r⟩
    · rw [h] at q; cases q
    · rw [h2] at q; cases q
    · rw [h2] at r; cases r; exact absurd q hp
theorem npl_lst {vs : List V} : ¬ Pl (.lst vs) := fun ⟨_, h⟩ => by cases h
theorem npl_dic {ws : List (List Key × V)} : ¬ Pl (.dT ws) := fun ⟨_, h⟩ => by cases h
theorem SlOk.grow (s0 : Same F0 F) (g : Gr F H F' H') {w : Option V} : ∀ {s : Sl}, SlOk ξ F0 H0 F H s w → SlOk ξ F0 H0 F' H' s w
  | .un, _ => trivial
  | .v _, ⟨v, e, q⟩ => ⟨v, e, Rp.mono g.f q⟩
  | .o _, ⟨a, vs, e, q1, q2, q3, q4⟩ => ⟨a, vs, e, none_of g q1 q3 npl_lst, q2, g.h _ _ q3, RpAll.mono g.f q4⟩
  | .b _, ⟨a, vs, e, q1, q2⟩ => ⟨a, vs, e, q1, RpAll.mono g.f q2⟩
  | .t _, ⟨a, ws, e, q1, q2, q3, q4⟩ => ⟨a, ws, e, none_of g q1 q3 npl_dic, q2, g.h _ _ q3, KvOk.mono g.f q4⟩
  | .x _, q => q
theorem Sim.grow (s : Sim ξ F0 H0 env σ F H) (g : Gr F H F' H') : Sim ξ F0 H0 env σ F' H' where
  f := s.f.trans g.f
  h := s.h.trans g.h
  fh := g.fh
  n := fun a o e => by
    rcases g.n a o e with q | q | ⟨q, r⟩
    · exact s.n a o q
    · exact .inr (.inl (s.h.free q))
    · exact .inr (back_pl s.h q r)
  len := s.len
  sl := fun i => SlOk.grow s.f g (s.sl i)
  sep := s.sep
theorem own_there (s : Sim ξ F0 H0 env σ F H) {i : Nat} {a : Addr} (h : (gt env i).own = true) (e : σ[i]? = some (some (.ref a))) : F a = none ∧ H0 a = none ∧ ∃ o, H a = some o := by
  have q := s.sl i
  rw [join_get e] at q
  cases hs : gt env i with
  | o ds => rw [hs] at q; obtain ⟨b, vs, e1, e2, e3, e4, _⟩ := q; cases e1; exact ⟨e2, e3, _, e4⟩
  | t ds => rw [hs] at q; obtain ⟨b, vs, e1, e2, e3, e4, _⟩ := q; cases e1; exact ⟨e2, e3, _, e4⟩
  | un => rw [hs] at h; cases h
  | v d => rw [hs] at h; cases h
  | b ds => rw [hs] at h; cases h
  | x c => rw [hs] at h; cases h
theorem not_own (s : Sim ξ F0 H0 env σ F H) {p : Addr} (hp : H p = none) : ∀ i, (gt env i).own = true → σ[i]? ≠ some (some (.ref p)) := fun i h e => by
  obtain ⟨_, _, o, q⟩ := own_there s h e
  rw [hp] at q; cases q
theorem gt_set {env : En} {i j : Nat} {x : Sl} : gt (env.set i x) j = if i = j ∧ i < env.length then x else gt env j := by
  unfold gt
  rw [List.getD_eq_getElem?_getD, List.getD_eq_getElem?_getD, List.getElem?_set]
  by_cases h : i = j
  · subst h
    by_cases h2 : i < env.length
    · simp [h2]
    · simp [h2]
  · simp [h]
theorem gt_lt {env : En} {i : Nat} (h : gt env i ≠ .un) : i < env.length := by
  by_cases q : i < env.length
  · exact q
  · exact absurd (by unfold gt; rw [List.getD_eq_getElem?_getD, List.getElem?_eq_none (by omega)]; rfl) h
/-- a slot's own list stands still from now on -/
theorem Sim.freeze (s : Sim ξ F0 H0 env σ F H) {i : Nat} {ds : List D} {a : Addr} (hi : gt env i = .o ds) (e : σ[i]? = some (some (.ref a))) :
    ∃ vs, H a = some (.lst vs) ∧ Rp (upd F a (.lst vs)) (.ref a) (.list ds) ∧ Same F (upd F a (.lst vs)) ∧ Sim ξ F0 H0 (env.set i (.v (.list ds))) σ (upd F a (.lst vs)) H := by
  have q := s.sl i
  rw [join_get e, hi] at q
  obtain ⟨b, vs, e1, q1, q2, q3, q4⟩ := q
  cases e1
  have sf : Same F (upd F a (.lst vs)) := same_new q1
  have hlt : i < env.length := gt_lt (by rw [hi]; intro z; cases z)
  have dp : Rp (upd F a (.lst vs)) (.ref a) (.list ds) := .lst (Rd.of upd_same) (RpAll.mono sf q4)
  refine ⟨vs, q3, dp, sf, ⟨s.f.trans sf, s.h, fun b o z => ?_, fun b o z => ?_, by rw [List.length_set]; exact s.len, fun j => ?_, fun j k b hj hk ej ek => ?_⟩⟩
  · by_cases h : b = a
    · subst h; rw [upd_same] at z; rw [q3]; exact z
    · rw [upd_ne h] at z; exact s.fh _ _ z
  · by_cases h : b = a
    · subst h; exact .inr (.inl q2)
    · rw [upd_ne h] at z; exact s.n _ _ z
  · rw [gt_set]
    by_cases h : i = j
    · subst h
      rw [if_pos ⟨rfl, hlt⟩, join_get e]
      exact ⟨_, rfl, dp⟩
    · rw [if_neg (fun z => h z.1)]
      have qj := s.sl j
      have nej : ∀ b, (gt env j).own = true → (σ[j]?).join = some (.ref b) → b ≠ a := fun b ho eb z => by
        subst z
        exact h (s.sep i j b (by rw [hi]; rfl) ho e (slot_get s eb))
      cases hs : gt env j with
      | un => trivial
      | v d => rw [hs] at qj; obtain ⟨v, e1, e2⟩ := qj; exact ⟨v, e1, Rp.mono sf e2⟩
      | o es => rw [hs] at qj; obtain ⟨b, ws, e1, e2, e3, e4, e5⟩ := qj; exact ⟨b, ws, e1, by rw [upd_ne (nej b (by rw [hs]; rfl) e1)]; exact e2, e3, e4, RpAll.mono sf e5⟩
      | b es => rw [hs] at qj; obtain ⟨b, ws, e1, e2, e3⟩ := qj; exact ⟨b, ws, e1, e2, RpAll.mono sf e3⟩
      | t es => rw [hs] at qj; obtain ⟨b, ws, e1, e2, e3, e4, e5⟩ := qj; exact ⟨b, ws, e1, by rw [upd_ne (nej b (by rw [hs]; rfl) e1)]; exact e2, e3, e4, KvOk.mono sf e5⟩
      | x c => rw [hs] at qj; exact qj
  · have lem : ∀ j, (gt (env.set i (.v (.list ds))) j).own = true → (gt env j).own = true := fun j z => by
      rw [gt_set] at z
      by_cases h : i = j ∧ i < env.length
      · rw [if_pos h] at z; cases z
      · rw [if_neg h] at z; exact z
    exact s.sep j k b (lem j hj) (lem k hk) ej ek
/-- a new list, kept by no slot, stands still from now on -/
theorem Sim.keep (s : Sim ξ F0 H0 env σ F H) {a : Addr} {vs : List V} {ds : List D} (h1 : F a = none) (h0 : H0 a = none) (h2 : H a = some (.lst vs)) (h3 : RpAll F vs ds) (h4 : ∀ i, (gt env i).own = true → σ[i]? ≠ some (some (.ref a))) :
    Rp (upd F a (.lst vs)) (.ref a) (.list ds) ∧ Same F (upd F a (.lst vs)) ∧ Sim ξ F0 H0 env σ (upd F a (.lst vs)) H := by
  have sf : Same F (upd F a (.lst vs)) := same_new h1
  refine ⟨.lst (Rd.of upd_same) (RpAll.mono sf h3), sf, ⟨s.f.trans sf, s.h, fun b o z => ?_, fun b o z => ?_, s.len, fun j => ?_, s.sep⟩⟩
  · by_cases h : b = a
    · subst h; rw [upd_same] at z; rw [h2]; exact z
    · rw [upd_ne h] at z; exact s.fh _ _ z
  · by_cases h : b = a
    · subst h; exact .inr (.inl h0)
    · rw [upd_ne h] at z; exact s.n _ _ z
  · have qj := s.sl j
    have nej : ∀ b, (gt env j).own = true → (σ[j]?).join = some (.ref b) → b ≠ a := fun b ho eb z => by
      subst z
      exact h4 j ho (slot_get s eb)
    cases hs : gt env j with
    | un => trivial
    | v d => rw [hs] at qj; obtain ⟨v, e1, e2⟩ := qj; exact ⟨v, e1, Rp.mono sf e2⟩
    | o es => rw [hs] at qj; obtain ⟨b, ws, e1, e2, e3, e4, e5⟩ := qj; exact ⟨b, ws, e1, by rw [upd_ne (nej b (by rw [hs]; rfl) e1)]; exact e2, e3, e4, RpAll.mono sf e5⟩
    | b es => rw [hs] at qj; obtain ⟨b, ws, e1, e2, e3⟩ := qj; exact ⟨b, ws, e1, e2, RpAll.mono sf e3⟩
    | t es => rw [hs] at qj; obtain ⟨b, ws, e1, e2, e3, e4, e5⟩ := qj; exact ⟨b, ws, e1, by rw [upd_ne (nej b (by rw [hs]; rfl) e1)]; exact e2, e3, e4, KvOk.mono sf e5⟩
    | x c => rw [hs] at qj; exact qj
end
end Q
namespace Q
open PySem L2
/-! ### judgements -/
def SE (ξ : Addr × Nat) (W : WX) (cr : Nat → Value) (te : TE) (f : Ev) : Prop := ∀ (F0 H0 : Hp) (env : En) (σ : St) (F H : Hp) (Qq : VK), Sim ξ F0 H0 env σ F H → f env ≠ .no →
  (∀ vl env', f env = .ok vl env' → ∀ v F' H', Sim ξ F0 H0 env' σ F' H' → Same F F' → Same H H' → VlOk H0 env' σ F' H' v vl → Qq v H') →
  (∀ c env', f env = .err c env' → ∀ F' H', Sim ξ F0 H0 env' σ F' H' → W (cr c) none σ H') → te σ H Qq
def ST (ξ : Addr × Nat) (W : WX) (cr : Nat → Value) (tt : TT) (f : Tv) : Prop := ∀ (F0 H0 : Hp) (env : En) (σ : St) (F H : Hp) (Qq : Bool → Hp → Prop), Sim ξ F0 H0 env σ F H → f env ≠ .no →
  (∀ b env', f env = .ok b env' → ∀ F' H', Sim ξ F0 H0 env' σ F' H' → Same F F' → Same H H' → Qq b H') →
  (∀ c env', f env = .err c env' → ∀ F' H', Sim ξ F0 H0 env' σ F' H' → W (cr c) none σ H') → tt σ H Qq
/-- an argument: it stands still, or its content alone is told -/
inductive Ar where
  | s (d : D) | c (d : D)
def ArOk (F H : Hp) (v : V) : Ar → Prop
  | .s d => Rp F v d
  | .c d => Cont F H v d
inductive ArsOk (F H : Hp) : List V → List Ar → Prop
  | nil : ArsOk F H [] []
  | cons {v : V} {a : Ar} {vs : List V} {as : List Ar} : ArOk F H v a → ArsOk F H vs as → ArsOk F H (v :: vs) (a :: as)
abbrev Av := En → R (List Ar)
def SA (ξ : Addr × Nat) (W : WX) (cr : Nat → Value) (ta : TA) (f : Av) : Prop := ∀ (F0 H0 : Hp) (env : En) (σ : St) (F H : Hp) (Qq : List V → Hp → Prop), Sim ξ F0 H0 env σ F H → f env ≠ .no →
  (∀ as env', f env = .ok as env' → ∀ vs F' H', Sim ξ F0 H0 env' σ F' H' → Same F F' → Same H H' → ArsOk F' H' vs as → Qq vs H') →
  (∀ c env', f env = .err c env' → ∀ F' H', Sim ξ F0 H0 env' σ F' H' → W (cr c) none σ H') → ta σ H Qq
/-- no slot comes to own a thing by it -/
def NN {α : Type} (f : En → R α) : Prop := ∀ env a env', f env = .ok a env' → ∀ i, (gt env' i).sp = true → (gt env i).sp = true
def JE (X : Cx) (ξ : Addr × Nat) (W : WX) (cr : Nat → Value) (e : Expr) (f : Ev) : Prop := ∃ te, PE X e te ∧ SE ξ W cr te f ∧ NN f
def JT (X : Cx) (ξ : Addr × Nat) (W : WX) (cr : Nat → Value) (e : Expr) (f : Tv) : Prop := ∃ tt, PT X e tt ∧ ST ξ W cr tt f ∧ NN f
def JW (X : Cx) (ξ : Addr × Nat) (W : WX) (cr : Nat → Value) (e : Expr) (f : Tv) : Prop := ∃ tt, PW X e tt ∧ ST ξ W cr tt f ∧ NN f
def JA (X : Cx) (ξ : Addr × Nat) (W : WX) (cr : Nat → Value) (es : List Expr) (f : Av) : Prop := ∃ ta, PA X es ta ∧ SA ξ W cr ta f ∧ NN f

theorem ArOk.mono {F H F' H' : Hp} {v : V} {a : Ar} (e : Same F F') (g : Same H H') (h : ArOk F H v a) : ArOk F' H' v a := by
  cases a with
  | s d => exact Rp.mono e h
  | c d => exact Cont.mono e g h

/-! ### what the readings come to -/
def varE (i : Nat) : Ev := fun env => match gt env i with
  | .v d => .ok (.v d) env
  | .o _ => .ok (.a i) env
  | .b _ => .ok (.a i) env
  | .t _ => .ok (.a i) env
  | _ => .no
def cE (d : D) : Ev := fun env => .ok (.v d) env
def bnd (f : Ev) (k : D → En → R β) : En → R β := fun env => match f env with
  | .ok vl e => match toD e vl with
    | some d => k d e
    | none => .no
  | .err c e => .err c e
  | .no => .no
def out : Option Vl → En → R Vl
  | some vl, e => .ok vl e
  | none, _ => .no
def op1 (g : D → Option Vl) (fa : Ev) : Ev := bnd fa fun d e => out (g d) e
def op2 (g : D → D → Option Vl) (fa fb : Ev) : Ev := bnd fa fun d => bnd fb fun d' e => out (g d d') e
def argE : Bool → Ev → En → R Ar
  | true, f => fun env => match f env with
    | .ok vl e => match still e vl with
      | some (d, e') => .ok (.s d) e'
      | none => .no
    | .err c e => .err c e
    | .no => .no
  | false, f => bnd f fun d e => .ok (.c d) e
def args : List (Bool × Ev) → Av
  | [] => fun env => .ok [] env
  | (m, f) :: r => fun env => match argE m f env with
    | .ok a e => match args r e with
      | .ok as e' => .ok (a :: as) e'
      | .err c e' => .err c e'
      | .no => .no
    | .err c e => .err c e
    | .no => .no
def Ar.d : Ar → D
  | .s d => d
  | .c d => d
/-- a builtin's call by the contents of its arguments -/
def opN (g : List D → Option Vl) (fs : List Ev) : Ev := fun env => match args (fs.map fun f => (false, f)) env with
  | .ok as e => out (g (as.map Ar.d)) e
  | .err c e => .err c e
  | .no => .no
def toT (f : Ev) : Tv := fun env => match f env with
  | .ok (.v (.bool b)) e => .ok b e
  | .err c e => .err c e
  | _ => .no
def notT (f : Tv) : Tv := fun env => match f env with
  | .ok b e => .ok (!b) e
  | .err c e => .err c e
  | .no => .no
def andT (f g : Tv) : Tv := fun env => match f env with
  | .ok true e => g e
  | .ok false e => .ok false e
  | .err c e => .err c e
  | .no => .no
def orT (f g : Tv) : Tv := fun env => match f env with
  | .ok true e => .ok true e
  | .ok false e => g e
  | .err c e => .err c e
  | .no => .no
def notE (f : Ev) : Ev := fun env => match toT f env with
  | .ok b e => .ok (.v (.bool (!b))) e
  | .err c e => .err c e
  | .no => .no
def andE (f g : Ev) : Ev := fun env => match toT f env with
  | .ok true e => g e
  | .ok false e => .ok (.v (.bool false)) e
  | .err c e => .err c e
  | .no => .no
def orE (f g : Ev) : Ev := fun env => match toT f env with
  | .ok true e => .ok (.v (.bool true)) e
  | .ok false e => g e
  | .err c e => .err c e
  | .no => .no
def ifE (c : Tv) (f g : Ev) : Ev := fun env => match c env with
  | .ok true e => f e
  | .ok false e => g e
  | .err c e => .err c e
  | .no => .no
def dBool : Option Vl → Option Bool
  | some (.v (.bool b)) => some b
  | _ => none
def chainE (g g' : D → D → Option Vl) (fa fb fc : Ev) : Ev := bnd fa fun d => bnd fb fun d' e => match dBool (g d d') with
  | some true => bnd fc (fun d2 e2 => out (g' d' d2) e2) e
  | some false => .ok (.v (.bool false)) e
  | none => .no

/-! ### steps on values -/
/-- what comes of a step -/
def Res (F H F' H' : Hp) (v : V) (vl : Vl) : Prop := Gr F H F' H' ∧ match vl with
  | .v d => Rp F' v d
  | .f ds => ∃ a vs, v = .ref a ∧ F' a = none ∧ H a = none ∧ H' a = some (.lst vs) ∧ RpAll F' vs ds
  | .ft => ∃ a, v = .ref a ∧ F' a = none ∧ H a = none ∧ H' a = some (.dT [])
  | .a _ => False
def Op1 (r : V → Hp → VK → Prop) (g : D → Option Vl) : Prop := ∀ (F H : Hp) (x : V) (d : D) (vl : Vl) (Qq : VK), Same F H → Cont F H x d → g d = some vl → (∀ v F' H', Res F H F' H' v vl → Qq v H') → r x H Qq
def Op2 (r : R2) (g : D → D → Option Vl) : Prop := ∀ (F H : Hp) (x y : V) (d e : D) (vl : Vl) (Qq : VK), Same F H → Cont F H x d → Cont F H y e → g d e = some vl → (∀ v F' H', Res F H F' H' v vl → Qq v H') → r x y H Qq
def OpN (r : List V → Hp → VK → Prop) (g : List D → Option Vl) : Prop := ∀ (F H : Hp) (vs : List V) (as : List Ar) (vl : Vl) (Qq : VK), Same F H → ArsOk F H vs as → (∀ a ∈ as, ∃ d, a = .c d) → g (as.map Ar.d) = some vl → (∀ v F' H', Res F H F' H' v vl → Qq v H') → r vs H Qq

section
variable {ξ : Addr × Nat} {F0 H0 F H F' H' F2 H2 : Hp} {env env' : En} {σ : St} {v : V} {d : D}
theorem Res.ok (s : Sim ξ F0 H0 env σ F H) {vl : Vl} (r : Res F H F' H' v vl) : Sim ξ F0 H0 env σ F' H' ∧ VlOk H0 env σ F' H' v vl := by
  obtain ⟨g, q⟩ := r
  refine ⟨s.grow g, ?_⟩
  cases vl with
  | v x => exact q
  | f ds =>
    obtain ⟨a, vs, e, h1, h2, h3, h4⟩ := q
    exact ⟨a, vs, e, h1, s.h.free h2, h3, h4, not_own s h2⟩
  | a i => exact q.elim
  | ft =>
    obtain ⟨a, e, h1, h2, h3⟩ := q
    exact ⟨a, e, h1, s.h.free h2, h3, not_own s h2⟩
theorem Res.val (g : Same F H) (h : Rp F v d) : Res F H F H v (.v d) := ⟨Gr.refl g, h⟩
theorem Res.lst (g : Same F H) {p : Addr} {vs : List V} {ds : List D} (hp : H p = none) (h : RpAll F vs ds) : Res F H F (upd H p (.lst vs)) (.ref p) (.f ds) :=
  ⟨Gr.cell g hp, p, vs, rfl, g.free hp, hp, upd_same, h⟩
theorem Res.tup (g : Same F H) {p : Addr} {vs : List V} {ds : List D} (hp : H p = none) (h : RpAll F vs ds) : Res F H (upd F p (.tup vs)) (upd H p (.tup vs)) (.ref p) (.v (.tuple ds)) :=
  ⟨Gr.data g hp, .tup upd_same (RpAll.mono (same_new (g.free hp)) h)⟩
theorem still_ok (s : Sim ξ F0 H0 env σ F H) {vl : Vl} (h : VlOk H0 env σ F H v vl) (e : still env vl = some (d, env')) : ∃ F', Sim ξ F0 H0 env' σ F' H ∧ Same F F' ∧ Rp F' v d := by
  cases vl with
  | v x => cases e; exact ⟨F, s, .refl _, h⟩
  | f ds =>
    cases e
    obtain ⟨a, vs, rfl, h1, h0, h2, h3, h4⟩ := h
    obtain ⟨q1, q2, q3⟩ := s.keep h1 h0 h2 h3 h4
    exact ⟨_, q3, q2, q1⟩
  | a i =>
    have g : σ[i]? = some (some v) := h
    unfold still at e
    cases hs : gt env i with
    | v x =>
      simp only [hs] at e
      cases e
      have q := s.sl i
      rw [join_get g, hs] at q
      obtain ⟨v', e1, e2⟩ := q
      cases e1
      exact ⟨F, s, .refl _, e2⟩
    | o ds =>
      simp only [hs] at e
      cases e
      have q := s.sl i
      rw [join_get g, hs] at q
      obtain ⟨a, vs, e1, _⟩ := q
      cases e1
      obtain ⟨vs, q1, q2, q3, q4⟩ := s.freeze hs g
      exact ⟨_, q4, q3, q2⟩
    | b ds => simp only [hs] at e; cases e
    | un => simp only [hs] at e; cases e
    | t kvs => simp only [hs] at e; cases e
    | x c => simp only [hs] at e; cases e
  | ft => cases e
end

section
variable {ξ : Addr × Nat} {W : WX} {cr : Nat → Value}
theorem se_var (i : Nat) : SE ξ W cr (tVar i) (varE i) := fun F0 H0 env σ F H Qq s ne ok _ => by
  have q := s.sl i
  unfold varE at ne ok
  cases hs : gt env i with
  | v d =>
    rw [hs] at q
    obtain ⟨v, e1, e2⟩ := q
    exact ⟨v, slot_get s e1, ok (.v d) env (by simp only [hs]) v F H s (.refl _) (.refl _) e2⟩
  | o ds =>
    rw [hs] at q
    obtain ⟨a, vs, e1, _⟩ := q
    exact ⟨.ref a, slot_get s e1, ok (.a i) env (by simp only [hs]) _ F H s (.refl _) (.refl _) (slot_get s e1)⟩
  | b ds =>
    rw [hs] at q
    obtain ⟨a, vs, e1, _⟩ := q
    exact ⟨.ref a, slot_get s e1, ok (.a i) env (by simp only [hs]) _ F H s (.refl _) (.refl _) (slot_get s e1)⟩
  | t kvs =>
    rw [hs] at q
    obtain ⟨a, vs, e1, _⟩ := q
    exact ⟨.ref a, slot_get s e1, ok (.a i) env (by simp only [hs]) _ F H s (.refl _) (.refl _) (slot_get s e1)⟩
  | un => simp only [hs] at ne; exact absurd rfl ne
  | x c => simp only [hs] at ne; exact absurd rfl ne
theorem se_c {v : V} {d : D} (h : ∀ F, Rp F v d) : SE ξ W cr (tC v) (cE d) := fun _ _ env σ F H Qq s _ ok _ => ok (.v d) env rfl v F H s (.refl _) (.refl _) (h F)
/-- a part is read, then what follows -/
theorem se_bnd {ta : TE} {fa : Ev} (ha : SE ξ W cr ta fa) {β : Type} {k : D → En → R β} {F0 H0 : Hp} {env : En} {σ : St} {F H : Hp} {Qq : VK} (s : Sim ξ F0 H0 env σ F H) (ne : bnd fa k env ≠ .no)
    (ok : ∀ d e1, bnd fa k env = k d e1 → ∀ v F' H', Sim ξ F0 H0 e1 σ F' H' → Same F F' → Same H H' → Cont F' H' v d → Qq v H')
    (er : ∀ c e1, bnd fa k env = .err c e1 → ∀ F' H', Sim ξ F0 H0 e1 σ F' H' → W (cr c) none σ H') : ta σ H Qq := by
  refine ha F0 H0 env σ F H Qq s (fun z => ne ?_) (fun vl e1 h1 v F1 H1 s1 f1 g1 ok1 => ?_) fun c e1 h1 F1 H1 s1 => er c e1 ?_ F1 H1 s1
  · unfold bnd; simp only [z]
  · cases ht : toD e1 vl with
    | none => exact absurd (by unfold bnd; simp only [h1, ht]) ne
    | some d => exact ok d e1 (by unfold bnd; simp only [h1, ht]) v F1 H1 s1 f1 g1 (ok1.cont s1 ht)
  · unfold bnd; simp only [h1]
theorem se_out {F0 H0 : Hp} {e : En} {σ : St} {F H F' H' : Hp} {v : V} {o : Option Vl} {vl : Vl} {P : Vl → En → Prop} (_h : o = some vl) (p : P vl e) : ∀ vl' e', out o e = .ok vl' e' → P vl' e' := fun vl' e' z => by
  rw [_h] at z; cases z; exact p
theorem se_op1 {r : V → Hp → VK → Prop} {g : D → Option Vl} {ta : TE} {fa : Ev} (hr : Op1 r g) (ha : SE ξ W cr ta fa) : SE ξ W cr (tUn r ta) (op1 g fa) := fun F0 H0 env σ F H Qq s ne ok er => by
  refine se_bnd ha s ne (fun d e1 h1 v F1 H1 s1 f1 g1 c1 => ?_) fun c e1 h1 => er c e1 h1
  have h2 : op1 g fa env = out (g d) e1 := h1
  cases hg : g d with
  | none => rw [hg] at h2; exact absurd h2 ne
  | some vl =>
    rw [hg] at h2
    refine hr F1 H1 v d vl Qq s1.fh c1 hg fun z F2 H2 res => ?_
    obtain ⟨s2, ok2⟩ := res.ok s1
    exact ok vl e1 h2 z F2 H2 s2 (f1.trans res.1.f) (g1.trans res.1.h) ok2
theorem se_op2 {r : R2} {g : D → D → Option Vl} {ta tb : TE} {fa fb : Ev} (hr : Op2 r g) (ha : SE ξ W cr ta fa) (hb : SE ξ W cr tb fb) : SE ξ W cr (tOp r ta tb) (op2 g fa fb) := fun F0 H0 env σ F H Qq s ne ok er => by
  refine se_bnd ha s ne (fun d e1 h1 v F1 H1 s1 f1 g1 c1 => ?_) fun c e1 h1 => er c e1 h1
  have h2 : op2 g fa fb env = bnd fb (fun d' e => out (g d d') e) e1 := h1
  refine se_bnd hb s1 (by rw [← h2]; exact ne) (fun d' e2 h3 v' F2 H2 s2 f2 g2 c2 => ?_) fun c e2 h3 => er c e2 (h2.trans h3)
  have h4 : op2 g fa fb env = out (g d d') e2 := h2.trans h3
  cases hg : g d d' with
  | none => rw [hg] at h4; exact absurd h4 ne
  | some vl =>
    rw [hg] at h4
    refine hr F2 H2 v v' d d' vl Qq s2.fh (c1.mono f2 g2) c2 hg fun z F3 H3 res => ?_
    obtain ⟨s3, ok3⟩ := res.ok s2
    exact ok vl e2 h4 z F3 H3 s3 ((f1.trans f2).trans res.1.f) ((g1.trans g2).trans res.1.h) ok3
theorem sa_nil : SA ξ W cr tNil (args []) := fun _ _ env σ F H Qq s _ ok _ => ok [] env rfl [] F H s (.refl _) (.refl _) .nil
theorem se_arg {m : Bool} {te : TE} {f : Ev} (h : SE ξ W cr te f) {F0 H0 : Hp} {env : En} {σ : St} {F H : Hp} {Qq : VK} (s : Sim ξ F0 H0 env σ F H) (ne : argE m f env ≠ .no)
    (ok : ∀ a e1, argE m f env = .ok a e1 → ∀ v F' H', Sim ξ F0 H0 e1 σ F' H' → Same F F' → Same H H' → ArOk F' H' v a → Qq v H')
    (er : ∀ c e1, argE m f env = .err c e1 → ∀ F' H', Sim ξ F0 H0 e1 σ F' H' → W (cr c) none σ H') : te σ H Qq := by
  cases m with
  | false => exact se_bnd h s ne (fun d e1 h1 v F1 H1 s1 f1 g1 c1 => ok (.c d) e1 h1 v F1 H1 s1 f1 g1 c1) er
  | true =>
    refine h F0 H0 env σ F H Qq s (fun z => ne ?_) (fun vl e1 h1 v F1 H1 s1 f1 g1 ok1 => ?_) fun c e1 h1 F1 H1 s1 => er c e1 ?_ F1 H1 s1
    · unfold argE; simp only [z]
    · cases ht : still e1 vl with
      | none => exact absurd (by unfold argE; simp only [h1, ht]) ne
      | some p =>
        obtain ⟨d, e2⟩ := p
        obtain ⟨F2, s2, f2, dp⟩ := still_ok s1 ok1 ht
        exact ok (.s d) e2 (by unfold argE; simp only [h1, ht]) v F2 H1 s2 (f1.trans f2) g1 dp
    · unfold argE; simp only [h1]
theorem sa_cons {m : Bool} {te : TE} {f : Ev} {ta : TA} {r : List (Bool × Ev)} (h : SE ξ W cr te f) (hr : SA ξ W cr ta (args r)) : SA ξ W cr (tCons te ta) (args ((m, f) :: r)) := fun F0 H0 env σ F H Qq s ne ok er => by
  have un : args ((m, f) :: r) env = match argE m f env with
    | .ok a e => match args r e with
      | .ok as e' => .ok (a :: as) e'
      | .err c e' => .err c e'
      | .no => .no
    | .err c e => .err c e
    | .no => .no := rfl
  refine se_arg (m := m) h s (fun z => ne (by rw [un]; simp only [z])) (fun a e1 h1 v F1 H1 s1 f1 g1 a1 => ?_) fun c e1 h1 => er c e1 (by rw [un]; simp only [h1])
  refine hr F0 H0 e1 σ F1 H1 _ s1 (fun z => ne (by rw [un]; simp only [h1, z])) (fun as e2 h2 vs F2 H2 s2 f2 g2 a2 => ?_) fun c e2 h2 => er c e2 (by rw [un]; simp only [h1, h2])
  exact ok (a :: as) e2 (by rw [un]; simp only [h1, h2]) (v :: vs) F2 H2 s2 (f1.trans f2) (g1.trans g2) (.cons (a1.mono f2 g2) a2)
theorem args_c : ∀ {fs : List Ev} {env e : En} {as : List Ar}, args (fs.map fun f => (false, f)) env = .ok as e → ∀ a ∈ as, ∃ d, a = .c d
  | [], _, _, _, h, a, ha => by cases h; cases ha
  | f :: fs, env, e, as, h, a, ha => by
    have h' : (match argE false f env with
      | .ok a e => match args (fs.map fun f => (false, f)) e with
        | .ok as e' => .ok (a :: as) e'
        | .err c e' => .err c e'
        | .no => .no
      | .err c e => .err c e
      | .no => .no) = R.ok as e := h
    cases h1 : argE false f env with
    | ok b e1 =>
      simp only [h1] at h'
      cases h2 : args (fs.map fun f => (false, f)) e1 with
      | ok bs e2 =>
        simp only [h2] at h'
        cases h'
        rcases List.mem_cons.mp ha with rfl | hb
        · have h3 : bnd f (fun d e => .ok (.c d) e) env = R.ok a e1 := h1
          unfold bnd at h3
          split at h3
          · split at h3
            · cases h3; exact ⟨_, rfl⟩
            · cases h3
          · cases h3
          · cases h3
        · exact args_c h2 a hb
      | err c e2 => simp only [h2] at h'; cases h'
      | no => simp only [h2] at h'; cases h'
    | err c e1 => simp only [h1] at h'; cases h'
    | no => simp only [h1] at h'; cases h'
theorem se_opN {r : List V → Hp → VK → Prop} {g : List D → Option Vl} {ta : TA} {fs : List Ev} (hr : OpN r g) (ha : SA ξ W cr ta (args (fs.map fun f => (false, f)))) : SE ξ W cr (tCB r ta) (opN g fs) := fun F0 H0 env σ F H Qq s ne ok er => by
  refine ha F0 H0 env σ F H _ s (fun z => ne (by unfold opN; simp only [z])) (fun as e1 h1 vs F1 H1 s1 f1 g1 a1 => ?_) fun c e1 h1 => er c e1 (by unfold opN; simp only [h1])
  have h2 : opN g fs env = out (g (as.map Ar.d)) e1 := by unfold opN; simp only [h1]
  cases hg : g (as.map Ar.d) with
  | none => rw [hg] at h2; exact absurd h2 ne
  | some vl =>
    rw [hg] at h2
    refine hr F1 H1 vs as vl Qq s1.fh a1 (args_c h1) hg fun z F2 H2 res => ?_
    obtain ⟨s2, ok2⟩ := res.ok s1
    exact ok vl e1 h2 z F2 H2 s2 (f1.trans res.1.f) (g1.trans res.1.h) ok2
/-! tests, and truths as values -/
theorem se_toT {te : TE} {f : Ev} (h : SE ξ W cr te f) {F0 H0 : Hp} {env : En} {σ : St} {F H : Hp} {Qq : VK} (s : Sim ξ F0 H0 env σ F H) (ne : toT f env ≠ .no)
    (ok : ∀ b e1, toT f env = .ok b e1 → ∀ F' H', Sim ξ F0 H0 e1 σ F' H' → Same F F' → Same H H' → Qq (.bl b) H')
    (er : ∀ c e1, toT f env = .err c e1 → ∀ F' H', Sim ξ F0 H0 e1 σ F' H' → W (cr c) none σ H') : te σ H Qq := by
  refine h F0 H0 env σ F H Qq s (fun z => ne (by unfold toT; simp only [z])) (fun vl e1 h1 v F1 H1 s1 f1 g1 ok1 => ?_) fun c e1 h1 => er c e1 (by unfold toT; simp only [h1])
  cases vl with
  | v d =>
    cases d with
    | bool b => cases ok1; exact ok b e1 (by unfold toT; simp only [h1]) F1 H1 s1 f1 g1
    | none => exact absurd (by unfold toT; simp only [h1]) ne
    | int i => exact absurd (by unfold toT; simp only [h1]) ne
    | str i => exact absurd (by unfold toT; simp only [h1]) ne
    | list i => exact absurd (by unfold toT; simp only [h1]) ne
    | tuple i => exact absurd (by unfold toT; simp only [h1]) ne
    | dict i => exact absurd (by unfold toT; simp only [h1]) ne
  | f ds => exact absurd (by unfold toT; simp only [h1]) ne
  | a i => exact absurd (by unfold toT; simp only [h1]) ne
  | ft => exact absurd (by unfold toT; simp only [h1]) ne
theorem st_test {te : TE} {f : Ev} (h : SE ξ W cr te f) : ST ξ W cr (tTest te) (toT f) := fun F0 H0 env σ F H Qq s ne ok er =>
  se_toT h s ne (fun b e1 h1 F1 H1 s1 f1 g1 => ⟨b, rfl, ok b e1 h1 F1 H1 s1 f1 g1⟩) er
theorem st_B {te : TE} {f : Ev} (h : SE ξ W cr te f) : ST ξ W cr (tB te) (toT f) := fun F0 H0 env σ F H Qq s ne ok er =>
  se_toT h s ne (fun b e1 h1 F1 H1 s1 f1 g1 => ⟨b, rfl, ok b e1 h1 F1 H1 s1 f1 g1⟩) er
theorem st_not {tt : TT} {f : Tv} (h : ST ξ W cr tt f) : ST ξ W cr (tNot tt) (notT f) := fun F0 H0 env σ F H Qq s ne ok er =>
  h F0 H0 env σ F H _ s (fun z => ne (by unfold notT; simp only [z])) (fun b e1 h1 => ok (!b) e1 (by unfold notT; simp only [h1])) fun c e1 h1 => er c e1 (by unfold notT; simp only [h1])
theorem st_and {t u : TT} {f g : Tv} (h : ST ξ W cr t f) (h' : ST ξ W cr u g) : ST ξ W cr (tAnd t u) (andT f g) := fun F0 H0 env σ F H Qq s ne ok er => by
  refine h F0 H0 env σ F H _ s (fun z => ne (by unfold andT; simp only [z])) (fun b e1 h1 F1 H1 s1 f1 g1 => ?_) fun c e1 h1 => er c e1 (by unfold andT; simp only [h1])
  cases b with
  | false => exact ok false e1 (by unfold andT; simp only [h1]) F1 H1 s1 f1 g1
  | true =>
    have e : andT f g env = g e1 := by unfold andT; simp only [h1]
    exact h' F0 H0 e1 σ F1 H1 _ s1 (by rw [← e]; exact ne) (fun b e2 h2 F2 H2 s2 f2 g2 => ok b e2 (e.trans h2) F2 H2 s2 (f1.trans f2) (g1.trans g2)) fun c e2 h2 => er c e2 (e.trans h2)
theorem st_or {t u : TT} {f g : Tv} (h : ST ξ W cr t f) (h' : ST ξ W cr u g) : ST ξ W cr (tOr t u) (orT f g) := fun F0 H0 env σ F H Qq s ne ok er => by
  refine h F0 H0 env σ F H _ s (fun z => ne (by unfold orT; simp only [z])) (fun b e1 h1 F1 H1 s1 f1 g1 => ?_) fun c e1 h1 => er c e1 (by unfold orT; simp only [h1])
  cases b with
  | true => exact ok true e1 (by unfold orT; simp only [h1]) F1 H1 s1 f1 g1
  | false =>
    have e : orT f g env = g e1 := by unfold orT; simp only [h1]
    exact h' F0 H0 e1 σ F1 H1 _ s1 (by rw [← e]; exact ne) (fun b e2 h2 F2 H2 s2 f2 g2 => ok b e2 (e.trans h2) F2 H2 s2 (f1.trans f2) (g1.trans g2)) fun c e2 h2 => er c e2 (e.trans h2)
theorem se_not {te : TE} {f : Ev} (h : SE ξ W cr te f) : SE ξ W cr (tNotV te) (notE f) := fun F0 H0 env σ F H Qq s ne ok er =>
  se_toT h s (fun z => ne (by unfold notE; simp only [z])) (fun b e1 h1 F1 H1 s1 f1 g1 => ⟨b, rfl, ok (.v (.bool (!b))) e1 (by unfold notE; simp only [h1]) _ F1 H1 s1 f1 g1 (.bl _)⟩) fun c e1 h1 => er c e1 (by unfold notE; simp only [h1])
theorem se_and {ta tb : TE} {f g : Ev} (h : SE ξ W cr ta f) (h' : SE ξ W cr tb g) : SE ξ W cr (tAndV ta tb) (andE f g) := fun F0 H0 env σ F H Qq s ne ok er => by
  refine se_toT h s (fun z => ne (by unfold andE; simp only [z])) (fun b e1 h1 F1 H1 s1 f1 g1 => ⟨b, rfl, ?_⟩) fun c e1 h1 => er c e1 (by unfold andE; simp only [h1])
  cases b with
  | false => exact ok (.v (.bool false)) e1 (by unfold andE; simp only [h1]) _ F1 H1 s1 f1 g1 (.bl _)
  | true =>
    have e : andE f g env = g e1 := by unfold andE; simp only [h1]
    exact h' F0 H0 e1 σ F1 H1 _ s1 (by rw [← e]; exact ne) (fun vl e2 h2 v F2 H2 s2 f2 g2 => ok vl e2 (e.trans h2) v F2 H2 s2 (f1.trans f2) (g1.trans g2)) fun c e2 h2 => er c e2 (e.trans h2)
theorem se_or {ta tb : TE} {f g : Ev} (h : SE ξ W cr ta f) (h' : SE ξ W cr tb g) : SE ξ W cr (tOrV ta tb) (orE f g) := fun F0 H0 env σ F H Qq s ne ok er => by
  refine se_toT h s (fun z => ne (by unfold orE; simp only [z])) (fun b e1 h1 F1 H1 s1 f1 g1 => ⟨b, rfl, ?_⟩) fun c e1 h1 => er c e1 (by unfold orE; simp only [h1])
  cases b with
  | true => exact ok (.v (.bool true)) e1 (by unfold orE; simp only [h1]) _ F1 H1 s1 f1 g1 (.bl _)
  | false =>
    have e : orE f g env = g e1 := by unfold orE; simp only [h1]
    exact h' F0 H0 e1 σ F1 H1 _ s1 (by rw [← e]; exact ne) (fun vl e2 h2 v F2 H2 s2 f2 g2 => ok vl e2 (e.trans h2) v F2 H2 s2 (f1.trans f2) (g1.trans g2)) fun c e2 h2 => er c e2 (e.trans h2)
theorem se_if {t : TT} {ta tb : TE} {c : Tv} {f g : Ev} (hc : ST ξ W cr t c) (ha : SE ξ W cr ta f) (hb : SE ξ W cr tb g) : SE ξ W cr (tIf t ta tb) (ifE c f g) := fun F0 H0 env σ F H Qq s ne ok er => by
  refine hc F0 H0 env σ F H _ s (fun z => ne (by unfold ifE; simp only [z])) (fun b e1 h1 F1 H1 s1 f1 g1 => ?_) fun x e1 h1 => er x e1 (by unfold ifE; simp only [h1])
  cases b with
  | true =>
    have e : ifE c f g env = f e1 := by unfold ifE; simp only [h1]
    exact ha F0 H0 e1 σ F1 H1 _ s1 (by rw [← e]; exact ne) (fun vl e2 h2 v F2 H2 s2 f2 g2 => ok vl e2 (e.trans h2) v F2 H2 s2 (f1.trans f2) (g1.trans g2)) fun c e2 h2 => er c e2 (e.trans h2)
  | false =>
    have e : ifE c f g env = g e1 := by unfold ifE; simp only [h1]
    exact hb F0 H0 e1 σ F1 H1 _ s1 (by rw [← e]; exact ne) (fun vl e2 h2 v F2 H2 s2 f2 g2 => ok vl e2 (e.trans h2) v F2 H2 s2 (f1.trans f2) (g1.trans g2)) fun c e2 h2 => er c e2 (e.trans h2)
theorem se_chain {r r' : R2} {g g' : D → D → Option Vl} {ta tb tc : TE} {fa fb fc : Ev} (hr : Op2 r g) (hr' : Op2 r' g') (ha : SE ξ W cr ta fa) (hb : SE ξ W cr tb fb) (hc : SE ξ W cr tc fc) :
    SE ξ W cr (tChain r r' ta tb tc) (chainE g g' fa fb fc) := fun F0 H0 env σ F H Qq s ne ok er => by
  refine se_bnd ha s ne (fun d e1 h1 v F1 H1 s1 f1 g1 c1 => ?_) fun c e1 h1 => er c e1 h1
  have h2 : chainE g g' fa fb fc env = bnd fb (fun d' e => match dBool (g d d') with
    | some true => bnd fc (fun d2 e2 => out (g' d' d2) e2) e
    | some false => .ok (.v (.bool false)) e
    | none => .no) e1 := h1
  refine se_bnd hb s1 (by rw [← h2]; exact ne) (fun d' e2 h3 v' F2 H2 s2 f2 g2 c2 => ?_) fun c e2 h3 => er c e2 (h2.trans h3)
  have h4 := h2.trans h3
  cases hg : dBool (g d d') with
  | none => simp only [hg] at h4; exact absurd h4 ne
  | some b =>
    have hv : g d d' = some (.v (.bool b)) := by
      unfold dBool at hg
      split at hg
      · rename_i x hx; cases hg; exact hx
      · cases hg
    refine hr F2 H2 v v' d d' _ _ s2.fh (c1.mono f2 g2) c2 hv fun z F3 H3 res => ?_
    obtain ⟨s3, ok3⟩ := res.ok s2
    cases ok3
    refine ⟨b, rfl, ?_⟩
    cases b with
    | false =>
      simp only [hg] at h4
      exact ok (.v (.bool false)) e2 h4 _ F3 H3 s3 ((f1.trans f2).trans res.1.f) ((g1.trans g2).trans res.1.h) (.bl _)
    | true =>
      simp only [hg] at h4
      refine se_bnd hc s3 (by rw [← h4]; exact ne) (fun d2 e3 h5 v2 F4 H4 s4 f4 g4 c4 => ?_) fun c e3 h5 => er c e3 (h4.trans h5)
      have h6 := h4.trans h5
      cases hg2 : g' d' d2 with
      | none => rw [hg2] at h6; exact absurd h6 ne
      | some vl =>
        rw [hg2] at h6
        refine hr' F4 H4 v' v2 d' d2 vl Qq s4.fh (c2.mono (res.1.f.trans f4) (res.1.h.trans g4)) c4 hg2 fun z F5 H5 res5 => ?_
        obtain ⟨s5, ok5⟩ := res5.ok s4
        exact ok vl e3 h6 z F5 H5 s5 ((((f1.trans f2).trans res.1.f).trans f4).trans res5.1.f) ((((g1.trans g2).trans res.1.h).trans g4).trans res5.1.h) ok5
end

/-! ### what a slot owns -/
section
theorem nn_ok {α : Type} (a : α) : NN (fun e => R.ok a e) := fun env b env' h i hi => by cases h; exact hi
theorem nn_no {α : Type} : NN (fun _ => (R.no : R α)) := fun env b env' h => by cases h
theorem nn_out (o : Option Vl) : NN (out o) := fun env b env' h i hi => by
  cases o with
  | none => cases h
  | some vl => cases h; exact hi
theorem nn_var (i : Nat) : NN (varE i) := fun env b env' h j hj => by
  unfold varE at h
  cases hs : gt env i <;> simp only [hs] at h <;> cases h <;> exact hj
theorem nn_bnd {β : Type} {f : Ev} {k : D → En → R β} (hf : NN f) (hk : ∀ d, NN (k d)) : NN (bnd f k) := fun env b env' h i hi => by
  have un : bnd f k env = match f env with
    | .ok vl e => match toD e vl with
      | some d => k d e
      | none => .no
    | .err c e => .err c e
    | .no => .no := rfl
  rw [un] at h
  cases h1 : f env with
  | ok vl e =>
    simp only [h1] at h
    cases h2 : toD e vl with
    | none => simp only [h2] at h; cases h
    | some d => simp only [h2] at h; exact hf env vl e h1 i (hk d e b env' h i hi)
  | err c e => simp only [h1] at h; cases h
  | no => simp only [h1] at h; cases h
theorem nn_op1 {g : D → Option Vl} {f : Ev} (h : NN f) : NN (op1 g f) := nn_bnd h fun d => nn_out _
theorem nn_op2 {g : D → D → Option Vl} {f f' : Ev} (h : NN f) (h' : NN f') : NN (op2 g f f') := nn_bnd h fun d => nn_bnd h' fun d' => nn_out _
theorem sp_set {env : En} {i j : Nat} {x : Sl} (hx : x.sp = false) (h : (gt (env.set i x) j).sp = true) : (gt env j).sp = true := by
  rw [gt_set] at h
  by_cases q : i = j ∧ i < env.length
  · rw [if_pos q, hx] at h; cases h
  · rw [if_neg q] at h; exact h
theorem still_nn {env env' : En} {vl : Vl} {d : D} (h : still env vl = some (d, env')) {i : Nat} (hi : (gt env' i).sp = true) : (gt env i).sp = true := by
  cases vl with
  | v x => cases h; exact hi
  | f ds => cases h; exact hi
  | ft => cases h
  | a j =>
    unfold still at h
    cases hs : gt env j <;> simp only [hs] at h <;> cases h
    · exact hi
    · exact sp_set rfl hi
theorem nn_arg {m : Bool} {f : Ev} (hf : NN f) : NN (argE m f) := by
  cases m with
  | false => exact nn_bnd hf fun d => nn_ok _
  | true =>
    intro env b env' h i hi
    have un : argE true f env = match f env with
      | .ok vl e => match still e vl with
        | some (d, e') => .ok (.s d) e'
        | none => .no
      | .err c e => .err c e
      | .no => .no := rfl
    rw [un] at h
    cases h1 : f env with
    | ok vl e =>
      simp only [h1] at h
      cases h2 : still e vl with
      | none => simp only [h2] at h; cases h
      | some p =>
        obtain ⟨d, e2⟩ := p
        simp only [h2] at h
        cases h
        exact hf env vl e h1 i (still_nn h2 hi)
    | err c e => simp only [h1] at h; cases h
    | no => simp only [h1] at h; cases h
theorem nn_args0 : NN (args []) := nn_ok _
theorem nn_args1 {m : Bool} {f : Ev} {r : List (Bool × Ev)} (h1 : NN f) (h2 : NN (args r)) : NN (args ((m, f) :: r)) := fun env b env' h i hi => by
  have un : args ((m, f) :: r) env = match argE m f env with
    | .ok a e => match args r e with
      | .ok as e' => .ok (a :: as) e'
      | .err c e' => .err c e'
      | .no => .no
    | .err c e => .err c e
    | .no => .no := rfl
  rw [un] at h
  cases q1 : argE m f env with
  | ok a e =>
    simp only [q1] at h
    cases q2 : args r e with
    | ok as e2 => simp only [q2] at h; cases h; exact nn_arg h1 env a e q1 i (h2 e as _ q2 i hi)
    | err c e2 => simp only [q2] at h; cases h
    | no => simp only [q2] at h; cases h
  | err c e => simp only [q1] at h; cases h
  | no => simp only [q1] at h; cases h
theorem nn_opN {g : List D → Option Vl} {fs : List Ev} (h : NN (args (fs.map fun f => (false, f)))) : NN (opN g fs) := fun env b env' q i hi => by
  unfold opN at q
  cases q1 : args (fs.map fun f => (false, f)) env with
  | ok as e =>
    simp only [q1] at q
    exact h env as e q1 i (nn_out _ e b env' q i hi)
  | err c e => simp only [q1] at q; cases q
  | no => simp only [q1] at q; cases q
theorem nn_toT {f : Ev} (h : NN f) : NN (toT f) := fun env b env' q i hi => by
  unfold toT at q
  cases h1 : f env with
  | ok vl e =>
    simp only [h1] at q
    cases vl with
    | v d => cases d <;> simp only at q <;> cases q; exact h env _ _ h1 i hi
    | _ => cases q
  | err c e => simp only [h1] at q; cases q
  | no => simp only [h1] at q; cases q
theorem nn_not {f : Tv} (h : NN f) : NN (notT f) := fun env b env' q i hi => by
  unfold notT at q
  cases h1 : f env with
  | ok t e => simp only [h1] at q; cases q; exact h env _ _ h1 i hi
  | err c e => simp only [h1] at q; cases q
  | no => simp only [h1] at q; cases q
theorem nn_and {f g : Tv} (h : NN f) (h' : NN g) : NN (andT f g) := fun env b env' q i hi => by
  unfold andT at q
  cases h1 : f env with
  | ok t e =>
    simp only [h1] at q
    cases t with
    | true => exact h env _ _ h1 i (h' e b env' q i hi)
    | false => cases q; exact h env _ _ h1 i hi
  | err c e => simp only [h1] at q; cases q
  | no => simp only [h1] at q; cases q
theorem nn_or {f g : Tv} (h : NN f) (h' : NN g) : NN (orT f g) := fun env b env' q i hi => by
  unfold orT at q
  cases h1 : f env with
  | ok t e =>
    simp only [h1] at q
    cases t with
    | false => exact h env _ _ h1 i (h' e b env' q i hi)
    | true => cases q; exact h env _ _ h1 i hi
  | err c e => simp only [h1] at q; cases q
  | no => simp only [h1] at q; cases q
theorem nn_notE {f : Ev} (h : NN f) : NN (notE f) := fun env b env' q i hi => by
  unfold notE at q
  cases h1 : toT f env with
  | ok t e => simp only [h1] at q; cases q; exact nn_toT h env _ _ h1 i hi
  | err c e => simp only [h1] at q; cases q
  | no => simp only [h1] at q; cases q
theorem nn_andE {f g : Ev} (h : NN f) (h' : NN g) : NN (andE f g) := fun env b env' q i hi => by
  unfold andE at q
  cases h1 : toT f env with
  | ok t e =>
    simp only [h1] at q
    cases t with
    | true => exact nn_toT h env _ _ h1 i (h' e b env' q i hi)
    | false => cases q; exact nn_toT h env _ _ h1 i hi
  | err c e => simp only [h1] at q; cases q
  | no => simp only [h1] at q; cases q
theorem nn_orE {f g : Ev} (h : NN f) (h' : NN g) : NN (orE f g) := fun env b env' q i hi => by
  unfold orE at q
  cases h1 : toT f env with
  | ok t e =>
    simp only [h1] at q
    cases t with
    | false => exact nn_toT h env _ _ h1 i (h' e b env' q i hi)
    | true => cases q; exact nn_toT h env _ _ h1 i hi
  | err c e => simp only [h1] at q; cases q
  | no => simp only [h1] at q; cases q
theorem nn_if {c : Tv} {f g : Ev} (hc : NN c) (h : NN f) (h' : NN g) : NN (ifE c f g) := fun env b env' q i hi => by
  unfold ifE at q
  cases h1 : c env with
  | ok t e =>
    simp only [h1] at q
    cases t with
    | false => exact hc env _ _ h1 i (h' e b env' q i hi)
    | true => exact hc env _ _ h1 i (h e b env' q i hi)
  | err c e => simp only [h1] at q; cases q
  | no => simp only [h1] at q; cases q
theorem nn_chain {g g' : D → D → Option Vl} {fa fb fc : Ev} (ha : NN fa) (hb : NN fb) (hc : NN fc) : NN (chainE g g' fa fb fc) := by
  refine nn_bnd ha fun d => nn_bnd hb fun d' env b env' q i hi => ?_
  cases h1 : dBool (g d d') with
  | none => simp only [h1] at q; cases q
  | some t =>
    simp only [h1] at q
    cases t with
    | false => cases q; exact hi
    | true => exact nn_bnd hc (fun d2 => nn_out (g' d' d2)) env b env' q i hi
end

/-! ### the rules -/
section
variable {X : Cx} {ξ : Addr × Nat} {W : WX} {cr : Nat → Value} {pos : Pos} {a b c e : Expr} {fa fb fc : Ev} {es : List Expr}
theorem je_var (i : Nat) {x : Str} (hN : X.N[i]? = some x := by rfl) (hv : Vis X.env.scope x := by first | exact Or.inl rfl | exact Or.inr (Or.inl rfl) | exact Or.inr (Or.inr rfl)) (hd : (x == ("__debug__" : Str)) = false := by decide)
    (hcd : (x == ("__classdict__" : Str)) = false := by decide) : JE X ξ W cr (.Name x pos) (varE i) := ⟨_, pv i hN hv hd hcd, se_var i, nn_var i⟩
theorem je_int {i : Int} {j : Nat} : JE X ξ W cr (.Constant (.int i) j pos) (cE (.int i)) := ⟨_, pe_int, se_c (fun _ => .int i), nn_ok _⟩
theorem je_bool {i : Bool} {j : Nat} : JE X ξ W cr (.Constant (.bool i) j pos) (cE (.bool i)) := ⟨_, pe_bl, se_c (fun _ => .bl i), nn_ok _⟩
theorem je_none {j : Nat} : JE X ξ W cr (.Constant .none j pos) (cE .none) := ⟨_, pe_non, se_c (fun _ => .non), nn_ok _⟩
theorem je_str {i : Str} {j : Nat} : JE X ξ W cr (.Constant (.str i) j pos) (cE (.str i)) := ⟨_, pe_str, se_c (fun _ => .str i), nn_ok _⟩
theorem je_op {op : Operator} {r : R2} {g : D → D → Option Vl} (ho : OpR X (binaryOp op) r) (hg : Op2 r g) (ha : JE X ξ W cr a fa) (hb : JE X ξ W cr b fb) : JE X ξ W cr (.BinOp a op b pos) (op2 g fa fb) :=
  let ⟨_, a1, a2, a3⟩ := ha; let ⟨_, b1, b2, b3⟩ := hb; ⟨_, pe_op ho a1 b1, se_op2 hg a2 b2, nn_op2 a3 b3⟩
theorem je_un {op : UnaryOp} {r : V → Hp → VK → Prop} {g : D → Option Vl} (ho : UnR X (unaryOp op) r) (hg : Op1 r g) (ha : JE X ξ W cr a fa) : JE X ξ W cr (.UnaryOp op a pos) (op1 g fa) :=
  let ⟨_, a1, a2, a3⟩ := ha; ⟨_, pe_un ho a1, se_op1 hg a2, nn_op1 a3⟩
theorem je_cmp {op : CmpOp} {r : R2} {g : D → D → Option Vl} (ho : OpR X (compareOp op) r) (hg : Op2 r g) (ha : JE X ξ W cr a fa) (hb : JE X ξ W cr b fb) (hm : behindInMarks op b = false) : JE X ξ W cr (.Compare a [op] [b] pos) (op2 g fa fb) :=
  let ⟨_, a1, a2, a3⟩ := ha; let ⟨_, b1, b2, b3⟩ := hb; ⟨_, pe_cmpR ho a1 b1 hm, se_op2 hg a2 b2, nn_op2 a3 b3⟩
theorem jt_cmp {op : CmpOp} {r : R2} {g : D → D → Option Vl} (ho : OpR X (compareOp op) r) (hg : Op2 r g) (ha : JE X ξ W cr a fa) (hb : JE X ξ W cr b fb) (hm : behindInMarks op b = false) : JT X ξ W cr (.Compare a [op] [b] pos) (toT (op2 g fa fb)) :=
  let ⟨_, a1, a2, a3⟩ := ha; let ⟨_, b1, b2, b3⟩ := hb; ⟨_, pt_cmpR ho a1 b1 hm, st_test (se_op2 hg a2 b2), nn_toT (nn_op2 a3 b3)⟩
theorem je_chain {op op' : CmpOp} {r r' : R2} {g g' : D → D → Option Vl} (ho : OpR X (compareOp op) r) (hg : Op2 r g) (ho' : OpR X (compareOp op') r') (hg' : Op2 r' g') (ha : JE X ξ W cr a fa) (hb : JE X ξ W cr b fb) (hc : JE X ξ W cr c fc)
    (hm : lastMarks [op, op'] [b, c] = false := by with_unfolding_all rfl) : JE X ξ W cr (.Compare a [op, op'] [b, c] pos) (chainE g g' fa fb fc) :=
  let ⟨_, a1, a2, a3⟩ := ha; let ⟨_, b1, b2, b3⟩ := hb; let ⟨_, c1, c2, c3⟩ := hc; ⟨_, pe_chain ho ho' a1 b1 c1 hm, se_chain hg hg' a2 b2 c2, nn_chain a3 b3 c3⟩
theorem jt_chain {op op' : CmpOp} {r r' : R2} {g g' : D → D → Option Vl} (ho : OpR X (compareOp op) r) (hg : Op2 r g) (ho' : OpR X (compareOp op') r') (hg' : Op2 r' g') (ha : JE X ξ W cr a fa) (hb : JE X ξ W cr b fb) (hc : JE X ξ W cr c fc)
    (hm : lastMarks [op, op'] [b, c] = false := by with_unfolding_all rfl) : JT X ξ W cr (.Compare a [op, op'] [b, c] pos) (toT (chainE g g' fa fb fc)) :=
  let ⟨_, a1, a2, a3⟩ := ha; let ⟨_, b1, b2, b3⟩ := hb; let ⟨_, c1, c2, c3⟩ := hc; ⟨_, pt_chain ho ho' a1 b1 c1 hm, st_test (se_chain hg hg' a2 b2 c2), nn_toT (nn_chain a3 b3 c3)⟩
theorem jt_val (ha : JE X ξ W cr a fa) (he : ∀ whole, isTrue a X.env whole = (do let v ← whole; standAt a.pos; holding [v] (truthy v)) := by intro _; rfl) : JT X ξ W cr a (toT fa) :=
  let ⟨_, a1, a2, a3⟩ := ha; ⟨_, pt_val a1 he, st_B a2, nn_toT a3⟩
theorem jt_not {f : Tv} (ha : JT X ξ W cr a f) : JT X ξ W cr (.UnaryOp .Not a pos) (notT f) := let ⟨_, a1, a2, a3⟩ := ha; ⟨_, pt_not a1, st_not a2, nn_not a3⟩
theorem jw_and1 {f : Tv} (ha : JT X ξ W cr a f) : JW X ξ W cr (.BoolOp .And [a] pos) f := let ⟨_, a1, a2, a3⟩ := ha; ⟨_, pw_and1 a1, a2, a3⟩
theorem jw_or1 {f : Tv} (ha : JT X ξ W cr a f) : JW X ξ W cr (.BoolOp .Or [a] pos) f := let ⟨_, a1, a2, a3⟩ := ha; ⟨_, pw_or1 a1, a2, a3⟩
theorem jw_and {f g : Tv} (ha : JT X ξ W cr a f) (hb : JW X ξ W cr (.BoolOp .And (b :: es) pos) g) : JW X ξ W cr (.BoolOp .And (a :: b :: es) pos) (andT f g) :=
  let ⟨_, a1, a2, a3⟩ := ha; let ⟨_, b1, b2, b3⟩ := hb; ⟨_, pw_and a1 b1, st_and a2 b2, nn_and a3 b3⟩
theorem jw_or {f g : Tv} (ha : JT X ξ W cr a f) (hb : JW X ξ W cr (.BoolOp .Or (b :: es) pos) g) : JW X ξ W cr (.BoolOp .Or (a :: b :: es) pos) (orT f g) :=
  let ⟨_, a1, a2, a3⟩ := ha; let ⟨_, b1, b2, b3⟩ := hb; ⟨_, pw_or a1 b1, st_or a2 b2, nn_or a3 b3⟩
theorem JW.t {f : Tv} (h : JW X ξ W cr a f) : JT X ξ W cr a f := let ⟨_, a1, a2, a3⟩ := h; ⟨_, a1.pt, a2, a3⟩
theorem je_not (ha : JE X ξ W cr a fa) : JE X ξ W cr (.UnaryOp .Not a pos) (notE fa) := let ⟨_, a1, a2, a3⟩ := ha; ⟨_, pe_not a1, se_not a2, nn_notE a3⟩
theorem je_one {op : BoolOp} (ha : JE X ξ W cr a fa) : JE X ξ W cr (.BoolOp op [a] pos) fa := let ⟨_, a1, a2, a3⟩ := ha; ⟨_, pe_one a1, a2, a3⟩
theorem je_and (ha : JE X ξ W cr a fa) (hb : JE X ξ W cr (.BoolOp .And (b :: es) pos) fb) : JE X ξ W cr (.BoolOp .And (a :: b :: es) pos) (andE fa fb) :=
  let ⟨_, a1, a2, a3⟩ := ha; let ⟨_, b1, b2, b3⟩ := hb; ⟨_, pe_and a1 b1, se_and a2 b2, nn_andE a3 b3⟩
theorem je_or (ha : JE X ξ W cr a fa) (hb : JE X ξ W cr (.BoolOp .Or (b :: es) pos) fb) : JE X ξ W cr (.BoolOp .Or (a :: b :: es) pos) (orE fa fb) :=
  let ⟨_, a1, a2, a3⟩ := ha; let ⟨_, b1, b2, b3⟩ := hb; ⟨_, pe_or a1 b1, se_or a2 b2, nn_orE a3 b3⟩
theorem je_if {f : Tv} (hc : JT X ξ W cr c f) (ha : JE X ξ W cr a fa) (hb : JE X ξ W cr b fb) : JE X ξ W cr (.IfExp c a b pos) (ifE f fa fb) :=
  let ⟨_, c1, c2, c3⟩ := hc; let ⟨_, a1, a2, a3⟩ := ha; let ⟨_, b1, b2, b3⟩ := hb; ⟨_, pe_ifExp c1 a1 b1, se_if c2 a2 b2, nn_if c3 a3 b3⟩
theorem ja_nil : JA X ξ W cr [] (args []) := ⟨_, pa_nil, sa_nil, nn_args0⟩
theorem ja_cons {m : Bool} {r : List (Bool × Ev)} (ha : JE X ξ W cr e fa) (hr : JA X ξ W cr es (args r)) (hs : starEach (e :: es) X.env = (false, eval e X.env) :: starEach es X.env := by rfl) : JA X ξ W cr (e :: es) (args ((m, fa) :: r)) :=
  let ⟨_, a1, a2, a3⟩ := ha; let ⟨_, b1, b2, b3⟩ := hr; ⟨_, pa_cons a1 b1 hs, sa_cons a2 b2, nn_args1 a3 b3⟩
end
end Q
namespace Q
open PySem L2
/-! ### statements -/
inductive RS where
  | nx (e : En) | rt (v : Vl) | bk (e : En) | ct (e : En) | err (c : Nat) (e : En) | no
abbrev Sv := En → RS
def SS (ξ : Addr × Nat) (W : WX) (cr : Nat → Value) (ts : TS) (f : Sv) : Prop := ∀ (F0 H0 : Hp) (env : En) (σ : St) (F H : Hp) (De : Ends), Sim ξ F0 H0 env σ F H → f env ≠ .no →
  (∀ e', f env = .nx e' → ∀ σ' F' H', Sim ξ F0 H0 e' σ' F' H' → Same F F' → De.nx σ' H') →
  (∀ vl, f env = .rt vl → ∀ v F' H', Res F0 H0 F' H' v vl → De.rt v H') →
  (∀ e', f env = .bk e' → ∀ σ' F' H', Sim ξ F0 H0 e' σ' F' H' → Same F F' → De.bk σ' H') →
  (∀ e', f env = .ct e' → ∀ σ' F' H', Sim ξ F0 H0 e' σ' F' H' → Same F F' → De.ct σ' H') →
  (∀ c e', f env = .err c e' → ∀ σ' F' H', Sim ξ F0 H0 e' σ' F' H' → W (cr c) none σ' H') → ts De σ H
def JS (X : Cx) (ξ : Addr × Nat) (W : WX) (cr : Nat → Value) (st : Stmt) (f : Sv) : Prop := ∃ ts, PS X st ts ∧ SS ξ W cr ts f
def JSs (X : Cx) (ξ : Addr × Nat) (W : WX) (cr : Nat → Value) (st : List Stmt) (f : Sv) : Prop := ∃ ts, PSs X st ts ∧ SS ξ W cr ts f

def skipS : Sv := fun env => .nx env
def seqS (f g : Sv) : Sv := fun env => match f env with
  | .nx e => g e
  | r => r
def put (i : Nat) (vl : Vl) (env : En) : Option En := match vl with
  | .v d => some (env.set i (.v d))
  | .f ds => some (env.set i (.o ds))
  | .ft => some (env.set i (.t []))
  | .a j => match gt env j with
    | .v d => some (env.set i (.v d))
    | .o ds => some ((env.set j (.v (.list ds))).set i (.v (.list ds)))
    | .b ds => some (env.set i (.b ds))
    | _ => none
def asgS (i : Nat) (f : Ev) : Sv := fun env => match f env with
  | .ok vl e => match put i vl e with
    | some e' => .nx e'
    | none => .no
  | .err c e => .err c e
  | .no => .no
def dropS (f : Ev) : Sv := fun env => match f env with
  | .ok _ e => .nx e
  | .err c e => .err c e
  | .no => .no
def ifS (c : Tv) (f g : Sv) : Sv := fun env => match c env with
  | .ok true e => f e
  | .ok false e => g e
  | .err c e => .err c e
  | .no => .no
def back (env : En) : Vl → Option Vl
  | .v d => some (.v d)
  | .f ds => some (.f ds)
  | .ft => none
  | .a i => match gt env i with
    | .v d => some (.v d)
    | .o ds => some (.f ds)
    | _ => none
def retS (f : Ev) : Sv := fun env => match f env with
  | .ok vl e => match back e vl with
    | some v => .rt v
    | none => .no
  | .err c e => .err c e
  | .no => .no
def retN : Sv := fun _ => .rt (.v .none)
def bkS : Sv := fun e => .bk e
def ctS : Sv := fun e => .ct e
def errS (c : Nat) : Sv := fun e => .err c e
def LIM : Nat := 16777216
theorem LIM_eq : LIM = sizeLine := by decide
def appS (i : Nat) (f : Ev) : Sv := fun env => match gt env i with
  | .o _ => match argE true f env with
    | .ok a e => match gt e i with
      | .o ds => if ds.length < LIM then .nx (e.set i (.o (ds ++ [a.d]))) else .no
      | _ => .no
    | .err c e => .err c e
    | .no => .no
  | _ => .no
/-- x[k] = e of a list of the slot's own; the value first, then the place -/
def setS (i : Nat) (fi fv : Ev) : Sv := fun env => match argE true fv env with
  | .ok a e => match gt e i with
    | .o _ => match bnd fi (fun k e' => R.ok k e') e with
      | .ok (.int k) e' => match gt e' i with
        | .o ds => match ixN ds.length k with
          | some j => .nx (e'.set i (.o (ds.set j a.d)))
          | none => .no
        | _ => .no
      | .err c e' => .err c e'
      | _ => .no
    | _ => .no
  | .err c e => .err c e
  | .no => .no
def whl (c : Tv) (b : Sv) : Nat → Sv
  | 0 => fun _ => .no
  | n + 1 => fun env => match c env with
    | .ok true e => match b e with
      | .nx e' => whl c b n e'
      | .ct e' => whl c b n e'
      | .bk e' => .nx e'
      | r => r
    | .ok false e => .nx e
    | .err c e => .err c e
    | .no => .no
open Classical in
noncomputable def whileS (c : Tv) (b : Sv) : Sv := fun env => if h : ∃ n, whl c b n env ≠ .no then whl c b (Classical.choose h) env else .no
theorem whl_succ {c : Tv} {b : Sv} : ∀ {n : Nat} {env : En}, whl c b n env ≠ .no → whl c b (n + 1) env = whl c b n env
  | 0, _, h => absurd rfl h
  | n + 1, env, h => by
    have e1 : whl c b (n + 1) env = match c env with
      | .ok true e => match b e with
        | .nx e' => whl c b n e'
        | .ct e' => whl c b n e'
        | .bk e' => .nx e'
        | r => r
      | .ok false e => .nx e
      | .err c e => .err c e
      | .no => .no := rfl
    have e2 : whl c b (n + 2) env = match c env with
      | .ok true e => match b e with
        | .nx e' => whl c b (n + 1) e'
        | .ct e' => whl c b (n + 1) e'
        | .bk e' => .nx e'
        | r => r
      | .ok false e => .nx e
      | .err c e => .err c e
      | .no => .no := rfl
    rw [e1] at h ⊢
    rw [e2]
    cases hc : c env with
    | ok t e =>
      cases t with
      | false => rfl
      | true =>
        simp only [hc] at h ⊢
        cases hb : b e with
        | nx e' => simp only [hb] at h ⊢; exact whl_succ h
        | ct e' => simp only [hb] at h ⊢; exact whl_succ h
        | bk e' => rfl
        | rt v => rfl
        | err c e => rfl
        | no => rfl
    | err c e => rfl
    | no => rfl
theorem whl_le {c : Tv} {b : Sv} {n m : Nat} {env : En} (h : whl c b n env ≠ .no) (l : n ≤ m) : whl c b m env = whl c b n env := by
  induction m with
  | zero => rw [Nat.le_zero.mp l]
  | succ m ih =>
    by_cases q : n = m + 1
    · rw [q]
    · have e := ih (by omega)
      rw [whl_succ (by rw [e]; exact h), e]
theorem while_of {c : Tv} {b : Sv} {n : Nat} {env : En} (h : whl c b n env ≠ .no) : whileS c b env = whl c b n env := by
  have hx : ∃ n, whl c b n env ≠ .no := ⟨n, h⟩
  unfold whileS
  rw [dif_pos hx]
  have h2 := Classical.choose_spec hx
  rcases Nat.le_total n (Classical.choose hx) with l | l
  · exact whl_le h l
  · exact (whl_le h2 l).symm
theorem while_ne {c : Tv} {b : Sv} {env : En} (h : whileS c b env ≠ .no) : ∃ n, whl c b n env = whileS c b env := by
  by_cases hx : ∃ n, whl c b n env ≠ .no
  · obtain ⟨n, q⟩ := hx
    exact ⟨n, (while_of q).symm⟩
  · unfold whileS at h
    rw [dif_neg hx] at h
    exact absurd rfl h
/-- one turn of a while -/
theorem while_turn (c : Tv) (b : Sv) (env : En) : whileS c b env = match c env with
    | .ok true e => match b e with
      | .nx e' => whileS c b e'
      | .ct e' => whileS c b e'
      | .bk e' => .nx e'
      | r => r
    | .ok false e => .nx e
    | .err c e => .err c e
    | .no => .no := by
  have e1 : ∀ n, whl c b (n + 1) env = match c env with
      | .ok true e => match b e with
        | .nx e' => whl c b n e'
        | .ct e' => whl c b n e'
        | .bk e' => .nx e'
        | r => r
      | .ok false e => .nx e
      | .err c e => .err c e
      | .no => .no := fun _ => rfl
  by_cases hx : whileS c b env = .no
  · rw [hx]
    have all : ∀ n, whl c b n env = .no := fun n => by
      cases q : whl c b n env with
      | no => rfl
      | _ => have := while_of (c := c) (b := b) (n := n) (env := env) (by rw [q]; intro z; cases z); rw [hx, q] at this; cases this
    cases hc : c env with
    | ok t e =>
      cases t with
      | false => have := all 1; rw [e1, hc] at this; cases this
      | true =>
        simp only
        have all2 : ∀ n, (match b e with
          | .nx e' => whl c b n e'
          | .ct e' => whl c b n e'
          | .bk e' => .nx e'
          | r => r) = RS.no := fun n => by have := all (n + 1); rw [e1, hc] at this; exact this
        cases hb : b e with
        | nx e' =>
          simp only [hb] at all2 ⊢
          by_cases z : whileS c b e' = .no
          · exact z.symm
          · obtain ⟨n, hn⟩ := while_ne z; rw [← hn, all2]
        | ct e' =>
          simp only [hb] at all2 ⊢
          by_cases z : whileS c b e' = .no
          · exact z.symm
          · obtain ⟨n, hn⟩ := while_ne z; rw [← hn, all2]
        | bk e' => have := all2 0; rw [hb] at this; cases this
        | rt v => have := all2 0; rw [hb] at this; cases this
        | err c e => have := all2 0; rw [hb] at this; cases this
        | no => rfl
    | err c e => have := all 1; rw [e1, hc] at this; cases this
    | no => rfl
  · obtain ⟨n, hn⟩ := while_ne hx
    have hne : whl c b n env ≠ .no := by rw [hn]; exact hx
    rw [← hn, ← whl_succ hne, e1]
    rw [← whl_succ hne, e1] at hne
    cases hc : c env with
    | ok t e =>
      cases t with
      | false => rfl
      | true =>
        simp only [hc] at hne ⊢
        cases hb : b e with
        | nx e' => simp only [hb] at hne ⊢; exact (while_of hne).symm
        | ct e' => simp only [hb] at hne ⊢; exact (while_of hne).symm
        | bk e' => rfl
        | rt v => rfl
        | err c e => rfl
        | no => rfl
    | err c e => rfl
    | no => rfl

/-! ### what is walked -/
abbrev Iv := En → R (List D)
def ItOk (F1 H0 : Hp) (J : It) (ds : List D) : Prop := ∀ F H, Same F1 F → Same F H → Same H0 H →
  (∀ i d, ds[i]? = some d → J.go i H ∧ ∀ x H', J.yld i H x H' → ∃ F', Gr F H F' H' ∧ Rp F' x d) ∧ J.stop ds.length H
def SI (ξ : Addr × Nat) (W : WX) (cr : Nat → Value) (wi : TI) (f : Iv) : Prop := ∀ (F0 H0 : Hp) (env : En) (σ : St) (F H : Hp) (Rr : It → Hp → Prop), Sim ξ F0 H0 env σ F H → f env ≠ .no →
  (∀ ds env', f env = .ok ds env' → ∀ J F' H', Sim ξ F0 H0 env' σ F' H' → Same F F' → Same H H' → ItOk F' H0 J ds → Rr J H') →
  (∀ c env', f env = .err c env' → ∀ F' H', Sim ξ F0 H0 env' σ F' H' → W (cr c) none σ H') → wi σ H Rr
def JI (X : Cx) (ξ : Addr × Nat) (W : WX) (cr : Nat → Value) (tg iter : Expr) (f : Iv) : Prop := ∃ wi, PI X tg iter wi ∧ SI ξ W cr wi f ∧ NN f
/-- a target takes data that stand still -/
abbrev Bv := D → En → Option En
def SG (ξ : Addr × Nat) (g : TG) (bd : Bv) : Prop := ∀ (F0 H0 : Hp) (e e' : En) (σ : St) (F H : Hp) (v : V) (d : D) (Qq : St → Hp → Prop), Sim ξ F0 H0 e σ F H → Rp F v d → bd d e = some e' → (∀ σ', Sim ξ F0 H0 e' σ' F H → Qq σ' H) → g v σ H Qq
def JG (X : Cx) (ξ : Addr × Nat) (tg : Expr) (bd : Bv) : Prop := ∃ g, PG X tg g ∧ SG ξ g bd
def SGs (ξ : Addr × Nat) (g : TGs) (bd : List D → En → Option En) : Prop := ∀ (F0 H0 : Hp) (e e' : En) (σ : St) (F H : Hp) (vs : List V) (ds : List D) (Qq : St → Hp → Prop), Sim ξ F0 H0 e σ F H → RpAll F vs ds → bd ds e = some e' → (∀ σ', Sim ξ F0 H0 e' σ' F H → Qq σ' H) → g vs σ H Qq
def JGs (X : Cx) (ξ : Addr × Nat) (tgs : List Expr) (bd : List D → En → Option En) : Prop := ∃ g, PGs X tgs g ∧ SGs ξ g bd
def bdN (i : Nat) : Bv := fun d e => some (e.set i (.v d))
def bdA : List Bv → List D → En → Option En
  | [], [], e => some e
  | b :: bs, d :: ds, e => match b d e with
    | some e' => bdA bs ds e'
    | none => none
  | _, _, _ => none
def bdT (bs : List Bv) : Bv := fun d e => match d with
  | .tuple ds => bdA bs ds e
  | _ => none
def forL (bd : Bv) (b : Sv) : List D → Sv
  | [] => fun e => .nx e
  | d :: ds => fun e => match bd d e with
    | some e1 => match b e1 with
      | .nx e2 => forL bd b ds e2
      | .ct e2 => forL bd b ds e2
      | .bk e2 => .nx e2
      | r => r
    | none => .no
def forS (src : Iv) (bd : Bv) (b : Sv) : Sv := fun env => match src env with
  | .ok ds e => forL bd b ds e
  | .err c e => .err c e
  | .no => .no
/-- a, b = e -/
def unpS (f : Ev) (bd : Bv) : Sv := fun env => match argE true f env with
  | .ok a e => match bd a.d e with
    | some e' => .nx e'
    | none => .no
  | .err c e => .err c e
  | .no => .no

section
variable {ξ : Addr × Nat} {F0 H0 F H F' H' F2 H2 : Hp} {env env' : En} {σ : St} {v : V} {d : D} {W : WX} {cr : Nat → Value}
theorem sim_put (s : Sim ξ F0 H0 env σ F H) (i : Nat) {x : Sl} (h : SlOk ξ F0 H0 F H x (some v)) (hn : x.own = true → ∀ j, (gt env j).own = true → σ[j]? ≠ some (some v)) : Sim ξ F0 H0 (env.set i x) (σ.set i (some v)) F H where
  f := s.f
  h := s.h
  fh := s.fh
  n := s.n
  len := by rw [List.length_set, List.length_set]; exact s.len
  sl := fun j => by
    rw [gt_set]
    by_cases hij : i = j ∧ i < env.length
    · obtain ⟨rfl, hl⟩ := hij
      rw [if_pos ⟨rfl, hl⟩, List.getElem?_set_self (by rw [← s.len]; exact hl)]
      exact h
    · rw [if_neg hij, List.getElem?_set]
      by_cases h1 : i = j
      · subst h1
        rw [if_pos rfl, if_neg (by rw [← s.len]; exact fun z => hij ⟨rfl, z⟩)]
        have := s.sl i
        rw [show σ[i]? = none from List.getElem?_eq_none (by rw [← s.len]; exact Nat.le_of_not_lt fun z => hij ⟨rfl, z⟩)] at this
        exact this
      · rw [if_neg h1]; exact s.sl j
  sep := fun j k a hj hk ej ek => by
    rw [gt_set] at hj hk
    rw [List.getElem?_set] at ej ek
    have hlen := s.len
    by_cases h1 : i = j
    · subst h1
      by_cases h2 : i = k
      · exact h2
      · rw [if_neg h2] at ek
        rw [if_neg (fun z => h2 z.1)] at hk
        rw [if_pos rfl] at ej
        by_cases hl : i < σ.length
        · rw [if_pos hl] at ej
          cases ej
          rw [if_pos ⟨rfl, by rw [hlen]; exact hl⟩] at hj
          exact absurd ek (hn hj k hk)
        · rw [if_neg hl] at ej; cases ej
    · rw [if_neg h1] at ej
      rw [if_neg (fun z => h1 z.1)] at hj
      by_cases h2 : i = k
      · subst h2
        rw [if_pos rfl] at ek
        by_cases hl : i < σ.length
        · rw [if_pos hl] at ek
          cases ek
          rw [if_pos ⟨rfl, by rw [hlen]; exact hl⟩] at hk
          exact absurd ej (hn hk j hj)
        · rw [if_neg hl] at ek; cases ek
      · rw [if_neg h2] at ek
        rw [if_neg (fun z => h2 z.1)] at hk
        exact s.sep j k a hj hk ej ek
theorem put_ok (s : Sim ξ F0 H0 env σ F H) {vl : Vl} {i : Nat} (h : VlOk H0 env σ F H v vl) (e : put i vl env = some env') : ∃ F', Sim ξ F0 H0 env' (σ.set i (some v)) F' H ∧ Same F F' := by
  cases vl with
  | v d => cases e; exact ⟨F, sim_put s i ⟨v, rfl, h⟩ (fun z => by cases z), .refl _⟩
  | f ds =>
    cases e
    obtain ⟨a, vs, rfl, h1, h2, h3, h4, h5⟩ := h
    exact ⟨F, sim_put s i ⟨a, vs, rfl, h1, h2, h3, h4⟩ (fun _ j hj => h5 j hj), .refl _⟩
  | ft =>
    cases e
    obtain ⟨a, rfl, h1, h2, h3, h5⟩ := h
    exact ⟨F, sim_put s i ⟨a, [], rfl, h1, h2, h3, trivial⟩ (fun _ j hj => h5 j hj), .refl _⟩
  | a j =>
    have g : σ[j]? = some (some v) := h
    have q := s.sl j
    rw [join_get g] at q
    unfold put at e
    cases hs : gt env j with
    | v x =>
      simp only [hs] at e; cases e
      rw [hs] at q
      obtain ⟨v', e1, e2⟩ := q; cases e1
      exact ⟨F, sim_put s i ⟨v, rfl, e2⟩ (fun z => by cases z), .refl _⟩
    | o ds =>
      simp only [hs] at e; cases e
      rw [hs] at q
      obtain ⟨a, vs, e1, _⟩ := q; cases e1
      obtain ⟨vs, q1, q2, q3, q4⟩ := s.freeze hs g
      exact ⟨_, sim_put q4 i ⟨_, rfl, q2⟩ (fun z => by cases z), q3⟩
    | b ds =>
      simp only [hs] at e; cases e
      rw [hs] at q
      exact ⟨F, sim_put s i q (fun z => by cases z), .refl _⟩
    | un => simp only [hs] at e; cases e
    | t kvs => simp only [hs] at e; cases e
    | x c => simp only [hs] at e; cases e
theorem back_ok (s : Sim ξ F0 H0 env σ F H) {vl vl' : Vl} (h : VlOk H0 env σ F H v vl) (e : back env vl = some vl') : Res F0 H0 F H v vl' := by
  have g : Gr F0 H0 F H := ⟨s.f, s.h, s.fh, s.n⟩
  cases vl with
  | v d => cases e; exact ⟨g, h⟩
  | f ds =>
    cases e
    obtain ⟨a, vs, rfl, h1, h2, h3, h4, h5⟩ := h
    exact ⟨g, a, vs, rfl, h1, h2, h3, h4⟩
  | ft => cases e
  | a j =>
    have gj : σ[j]? = some (some v) := h
    have q := s.sl j
    rw [join_get gj] at q
    unfold back at e
    cases hs : gt env j with
    | v x =>
      simp only [hs] at e; cases e
      rw [hs] at q
      obtain ⟨v', e1, e2⟩ := q; cases e1
      exact ⟨g, e2⟩
    | o ds =>
      simp only [hs] at e; cases e
      rw [hs] at q
      obtain ⟨a, vs, e1, e2, e3, e4, e5⟩ := q; cases e1
      exact ⟨g, a, vs, rfl, e2, e3, e4, e5⟩
    | b ds => simp only [hs] at e; cases e
    | un => simp only [hs] at e; cases e
    | t kvs => simp only [hs] at e; cases e
    | x c => simp only [hs] at e; cases e
/-- a slot's own list is changed -/
theorem sim_mut (s : Sim ξ F0 H0 env σ F H) {i : Nat} {ds ds' : List D} {a : Addr} {vs' : List V} (hi : gt env i = .o ds) (e : σ[i]? = some (some (.ref a))) (h : RpAll F vs' ds') : Sim ξ F0 H0 (env.set i (.o ds')) σ F (upd H a (.lst vs')) := by
  have q := s.sl i
  rw [join_get e, hi] at q
  obtain ⟨b, vs, e1, q1, q2, q3, q4⟩ := q
  cases e1
  have hlt : i < env.length := gt_lt (by rw [hi]; intro z; cases z)
  have keepF : ∀ {G : Hp}, G a = none → Same G H → Same G (upd H a (.lst vs')) := fun {G} hG hs b o eb => by
    rw [upd_ne (ne_of_none eb hG)]
    exact hs _ _ eb
  have ow : ∀ j, (gt (env.set i (.o ds')) j).own = true → (gt env j).own = true := fun j z => by
    rw [gt_set] at z
    by_cases h : i = j ∧ i < env.length
    · rw [← h.1, hi]; rfl
    · rw [if_neg h] at z; exact z
  refine ⟨s.f, keepF q2 s.h, keepF q1 s.fh, s.n, by rw [List.length_set]; exact s.len, fun j => ?_, fun j k b hj hk => s.sep j k b (ow j hj) (ow k hk)⟩
  rw [gt_set]
  by_cases hij : i = j
  · subst hij
    rw [if_pos ⟨rfl, hlt⟩, join_get e]
    exact ⟨a, vs', rfl, q1, q2, upd_same, h⟩
  · rw [if_neg (fun z => hij z.1)]
    have qj := s.sl j
    have nej : ∀ b, (gt env j).own = true → (σ[j]?).join = some (.ref b) → b ≠ a := fun b ho eb z => by
      subst z
      exact hij (s.sep i j b (by rw [hi]; rfl) ho e (slot_get s eb))
    cases hs : gt env j with
    | un => trivial
    | v d => rw [hs] at qj; exact qj
    | o es => rw [hs] at qj; obtain ⟨b, ws, e1, e2, e3, e4, e5⟩ := qj; exact ⟨b, ws, e1, e2, e3, by rw [upd_ne (nej b (by rw [hs]; rfl) e1)]; exact e4, e5⟩
    | b es => rw [hs] at qj; exact qj
    | t es => rw [hs] at qj; obtain ⟨b, ws, e1, e2, e3, e4, e5⟩ := qj; exact ⟨b, ws, e1, e2, e3, by rw [upd_ne (nej b (by rw [hs]; rfl) e1)]; exact e4, e5⟩
    | x c => rw [hs] at qj; exact qj
theorem sim_own (s : Sim ξ F0 H0 env σ F H) {i : Nat} {ds : List D} (hi : gt env i = .o ds) : ∃ a vs, σ[i]? = some (some (.ref a)) ∧ F a = none ∧ H0 a = none ∧ H a = some (.lst vs) ∧ RpAll F vs ds := by
  have q := s.sl i
  rw [hi] at q
  obtain ⟨a, vs, e1, e2, e3, e4, e5⟩ := q
  exact ⟨a, vs, slot_get s e1, e2, e3, e4, e5⟩

theorem argE_s {f : Ev} {env e : En} {d : D} (z : argE true f env = R.ok (Ar.c d) e) : False := by
  have un : argE true f env = match f env with
    | .ok vl e => match still e vl with
      | some (d, e') => .ok (.s d) e'
      | none => .no
    | .err c e => .err c e
    | .no => .no := rfl
  rw [un] at z
  cases h : f env with
  | ok vl e1 =>
    simp only [h] at z
    cases h2 : still e1 vl with
    | none => simp only [h2] at z; cases z
    | some p => simp only [h2] at z; cases z
  | err c e1 => simp only [h] at z; cases z
  | no => simp only [h] at z; cases z
theorem ss_skip : SS ξ W cr tNext skipS := fun _ _ env σ F H De s _ nx _ _ _ _ => nx env rfl σ F H s (.refl _)
theorem ss_seq {t u : TS} {f g : Sv} (h : SS ξ W cr t f) (h' : SS ξ W cr u g) : SS ξ W cr (tSeq t u) (seqS f g) := fun F0 H0 env σ F H De s ne nx rt bk ct er => by
  have un : seqS f g env = match f env with
    | .nx e => g e
    | r => r := rfl
  refine h F0 H0 env σ F H _ s (fun z => ne (by rw [un]; simp only [z])) (fun e' h1 σ' F' H' s1 f1 => ?_) (fun vl h1 => rt vl (by rw [un]; simp only [h1])) (fun e' h1 => bk e' (by rw [un]; simp only [h1])) (fun e' h1 => ct e' (by rw [un]; simp only [h1])) fun c e' h1 => er c e' (by rw [un]; simp only [h1])
  have e : seqS f g env = g e' := by rw [un]; simp only [h1]
  exact h' F0 H0 e' σ' F' H' De s1 (by rw [← e]; exact ne) (fun x hx a b c y z => nx x (e.trans hx) a b c y (f1.trans z)) (fun x hx => rt x (e.trans hx)) (fun x hx a b c y z => bk x (e.trans hx) a b c y (f1.trans z)) (fun x hx a b c y z => ct x (e.trans hx) a b c y (f1.trans z)) fun c x hx => er c x (e.trans hx)
theorem ss_asg {te : TE} {f : Ev} {i : Nat} (h : SE ξ W cr te f) : SS ξ W cr (tAsg te (gName i)) (asgS i f) := fun F0 H0 env σ F H De s ne nx rt bk ct er => by
  have un : asgS i f env = match f env with
    | .ok vl e => match put i vl e with
      | some e' => .nx e'
      | none => .no
    | .err c e => .err c e
    | .no => .no := rfl
  refine h F0 H0 env σ F H _ s (fun z => ne (by rw [un]; simp only [z])) (fun vl e1 h1 v F1 H1 s1 f1 _ ok1 => ?_) fun c e1 h1 F1 H1 s1 => er c e1 (by rw [un]; simp only [h1]) σ F1 H1 s1
  cases hp : put i vl e1 with
  | none => exact absurd (by rw [un]; simp only [h1, hp]) ne
  | some e2 =>
    obtain ⟨F2, s2, f2⟩ := put_ok s1 ok1 hp
    exact nx e2 (by rw [un]; simp only [h1, hp]) _ F2 H1 s2 (f1.trans f2)
theorem ss_drop {te : TE} {f : Ev} (h : SE ξ W cr te f) : SS ξ W cr (tDrop te) (dropS f) := fun F0 H0 env σ F H De s ne nx rt bk ct er =>
  h F0 H0 env σ F H _ s (fun z => ne (by unfold dropS; simp only [z])) (fun vl e1 h1 v F1 H1 s1 f1 _ ok1 => nx e1 (by unfold dropS; simp only [h1]) σ F1 H1 s1 f1) fun c e1 h1 F1 H1 s1 => er c e1 (by unfold dropS; simp only [h1]) σ F1 H1 s1
theorem ss_if {t : TT} {ta tb : TS} {c : Tv} {f g : Sv} (hc : ST ξ W cr t c) (ha : SS ξ W cr ta f) (hb : SS ξ W cr tb g) : SS ξ W cr (tIfS t ta tb) (ifS c f g) := fun F0 H0 env σ F H De s ne nx rt bk ct er => by
  refine hc F0 H0 env σ F H _ s (fun z => ne (by unfold ifS; simp only [z])) (fun b e1 h1 F1 H1 s1 f1 _ => ?_) fun x e1 h1 F1 H1 s1 => er x e1 (by unfold ifS; simp only [h1]) σ F1 H1 s1
  cases b with
  | true =>
    have e : ifS c f g env = f e1 := by unfold ifS; simp only [h1]
    exact ha F0 H0 e1 σ F1 H1 De s1 (by rw [← e]; exact ne) (fun x hx a b c y z => nx x (e.trans hx) a b c y (f1.trans z)) (fun x hx => rt x (e.trans hx)) (fun x hx a b c y z => bk x (e.trans hx) a b c y (f1.trans z)) (fun x hx a b c y z => ct x (e.trans hx) a b c y (f1.trans z)) fun c x hx => er c x (e.trans hx)
  | false =>
    have e : ifS c f g env = g e1 := by unfold ifS; simp only [h1]
    exact hb F0 H0 e1 σ F1 H1 De s1 (by rw [← e]; exact ne) (fun x hx a b c y z => nx x (e.trans hx) a b c y (f1.trans z)) (fun x hx => rt x (e.trans hx)) (fun x hx a b c y z => bk x (e.trans hx) a b c y (f1.trans z)) (fun x hx a b c y z => ct x (e.trans hx) a b c y (f1.trans z)) fun c x hx => er c x (e.trans hx)
theorem ss_ret {te : TE} {f : Ev} (h : SE ξ W cr te f) : SS ξ W cr (tRet te) (retS f) := fun F0 H0 env σ F H De s ne nx rt bk ct er => by
  have un : retS f env = match f env with
    | .ok vl e => match back e vl with
      | some v => .rt v
      | none => .no
    | .err c e => .err c e
    | .no => .no := rfl
  refine h F0 H0 env σ F H _ s (fun z => ne (by rw [un]; simp only [z])) (fun vl e1 h1 v F1 H1 s1 _ _ ok1 => ?_) fun c e1 h1 F1 H1 s1 => er c e1 (by rw [un]; simp only [h1]) σ F1 H1 s1
  cases hp : back e1 vl with
  | none => exact absurd (by rw [un]; simp only [h1, hp]) ne
  | some vl' => exact rt vl' (by rw [un]; simp only [h1, hp]) v F1 H1 (back_ok s1 ok1 hp)
theorem ss_retN : SS ξ W cr tRetN retN := fun F0 H0 env σ F H De s _ _ rt _ _ _ => rt (.v .none) rfl .non F H ⟨⟨s.f, s.h, s.fh, s.n⟩, .non⟩
theorem ss_bk : SS ξ W cr tBreak bkS := fun _ _ env σ F H De s _ _ _ bk _ _ => bk env rfl σ F H s (.refl _)
theorem ss_ct : SS ξ W cr tCont ctS := fun _ _ env σ F H De s _ _ _ _ ct _ => ct env rfl σ F H s (.refl _)
theorem ss_app {K : PySem.W.Frag} {te : TE} {f : Ev} {i : Nat} (h : SE ξ W cr te f) : SS ξ W cr (tDrop (tBM K "list" rAppend (tVar i) (tCons te tNil))) (appS i f) := fun F0 H0 env σ F H De s ne nx rt bk ct er => by
  have un : appS i f env = match gt env i with
    | .o _ => match argE true f env with
      | .ok a e => match gt e i with
        | .o ds => if ds.length < LIM then .nx (e.set i (.o (ds ++ [a.d]))) else .no
        | _ => .no
      | .err c e => .err c e
      | .no => .no
    | _ => .no := rfl
  cases hs : gt env i with
  | o ds0 =>
    simp only [hs] at un
    obtain ⟨a, vs, e1, e2, e3, e4, e5⟩ := sim_own s hs
    refine ⟨.ref a, e1, .inl ⟨rfl, _, SqL.of e4⟩, ?_⟩
    refine se_arg (m := true) h s (fun z => ne (by rw [un]; simp only [z])) (fun x e' h1 v F1 H1 s1 f1 g1 a1 => ?_) fun c e' h1 F1 H1 s1 => er c e' (by rw [un]; simp only [h1]) σ F1 H1 s1
    cases hs1 : gt e' i with
    | o ds =>
      by_cases hl : ds.length < LIM
      · obtain ⟨b, ws, g1', g2, g3, g4, g5⟩ := sim_own s1 hs1
        rw [e1] at g1'; cases g1'
        have hd : Rp F1 v x.d := by
          cases x with
          | s d => exact a1
          | c d =>
            have z : argE true f env = R.ok (Ar.c d) e' := h1
            exact (argE_s z).elim
        exact ⟨a, ws, v, rfl, rfl, g4, by rw [g5.length, ← LIM_eq]; exact hl, nx _ (by rw [un]; simp only [h1, hs1, if_pos hl]) σ F1 _ (sim_mut s1 hs1 e1 (g5.append (.cons hd .nil))) f1⟩
      · exact absurd (by rw [un]; simp only [h1, hs1, if_neg hl]) ne
    | un => exact absurd (by rw [un]; simp only [h1, hs1]) ne
    | v d => exact absurd (by rw [un]; simp only [h1, hs1]) ne
    | b ds => exact absurd (by rw [un]; simp only [h1, hs1]) ne
    | t ds => exact absurd (by rw [un]; simp only [h1, hs1]) ne
    | x ds => exact absurd (by rw [un]; simp only [h1, hs1]) ne
  | un => exact absurd (by rw [un]; simp only [hs]) ne
  | v d => exact absurd (by rw [un]; simp only [hs]) ne
  | b ds => exact absurd (by rw [un]; simp only [hs]) ne
  | t ds => exact absurd (by rw [un]; simp only [hs]) ne
  | x ds => exact absurd (by rw [un]; simp only [hs]) ne
theorem ss_while {t : TT} {tb : TS} {c : Tv} {b : Sv} (hc : ST ξ W cr t c) (hb : SS ξ W cr tb b) : SS ξ W cr (tWhile t tb) (whileS c b) := fun F0 H0 env σ F H De s ne nx rt bk ct er => by
  obtain ⟨n, hn⟩ := while_ne ne
  generalize hr : whileS c b env = r at hn ne nx rt bk ct er
  refine ⟨fun m σ' H' => ∃ e F', Sim ξ F0 H0 e σ' F' H' ∧ Same F F' ∧ whl c b m e = r, ⟨n, env, F, s, .refl _, hn⟩, ?_⟩
  rintro m σ' H' ⟨e, F', s', f', hw⟩
  cases m with
  | zero => exact absurd hw.symm ne
  | succ m =>
    have un : whl c b (m + 1) e = match c e with
      | .ok true e => match b e with
        | .nx e' => whl c b m e'
        | .ct e' => whl c b m e'
        | .bk e' => .nx e'
        | r => r
      | .ok false e => .nx e
      | .err c e => .err c e
      | .no => .no := rfl
    rw [un] at hw
    refine hc F0 H0 e σ' F' H' _ s' (fun z => ne (by rw [z] at hw; exact hw.symm)) (fun t e1 h1 F1 H1 s1 f1 _ => ?_) fun x e1 h1 F1 H1 s1 => ?_
    · cases t with
      | false => rw [h1] at hw; exact nx e1 hw.symm σ' F1 H1 s1 (f'.trans f1)
      | true =>
        simp only [h1] at hw
        have f2 := f'.trans f1
        refine ⟨fun σ2 H2 => ∃ e F', Sim ξ F0 H0 e σ2 F' H2 ∧ Same F F' ∧ whl c b m e = r, fun σ2 H2 q => ⟨m, Nat.lt_succ_self m, q⟩, ?_⟩
        refine hb F0 H0 e1 σ' F1 H1 _ s1 (fun z => ne (by rw [z] at hw; exact hw.symm)) (fun e2 h2 σ2 F2 H2 s2 f3 => ⟨e2, F2, s2, f2.trans f3, by rw [h2] at hw; exact hw⟩) (fun vl h2 => ?_) (fun e2 h2 σ2 F2 H2 s2 f3 => ?_) (fun e2 h2 σ2 F2 H2 s2 f3 => ⟨e2, F2, s2, f2.trans f3, by rw [h2] at hw; exact hw⟩) fun x e2 h2 => ?_
        · rw [h2] at hw; exact rt vl hw.symm
        · rw [h2] at hw; exact nx e2 hw.symm σ2 F2 H2 s2 (f2.trans f3)
        · rw [h2] at hw; exact er x e2 hw.symm
    · rw [h1] at hw; exact er x e1 hw.symm σ' F1 H1 s1
theorem forL_cons {bd : Bv} {b : Sv} {d : D} {ds : List D} {e : En} : forL bd b (d :: ds) e = match bd d e with
    | some e1 => match b e1 with
      | .nx e2 => forL bd b ds e2
      | .ct e2 => forL bd b ds e2
      | .bk e2 => .nx e2
      | r => r
    | none => .no := rfl
theorem ss_for {wi : TI} {g : TG} {tb : TS} {src : Iv} {bd : Bv} {b : Sv} (hi : SI ξ W cr wi src) (hg : SG ξ g bd) (hb : SS ξ W cr tb b) : SS ξ W cr (tFor wi g tb) (forS src bd b) := fun F0 H0 env σ F H De s ne nx rt bk ct er => by
  have un : forS src bd b env = match src env with
    | .ok ds e => forL bd b ds e
    | .err c e => .err c e
    | .no => .no := rfl
  refine hi F0 H0 env σ F H _ s (fun z => ne (by rw [un]; simp only [z])) (fun ds e1 h1 J F1 H1 s1 f1 _ it => ?_) fun c e1 h1 F1 H1 s1 => er c e1 (by rw [un]; simp only [h1]) σ F1 H1 s1
  simp only [h1] at un
  generalize hr : forS src bd b env = r at un ne nx rt bk ct er
  refine ⟨fun i m σ' H' => m = ds.length - i ∧ i ≤ ds.length ∧ ∃ e F', Sim ξ F0 H0 e σ' F' H' ∧ Same F1 F' ∧ forL bd b (ds.drop i) e = r, ⟨ds.length, rfl, Nat.zero_le _, e1, F1, s1, .refl _, un.symm⟩, ?_⟩
  rintro i m σ' H' ⟨rfl, hi', e, F', s', f', hw⟩
  obtain ⟨go, st⟩ := it F' H' f' s'.fh s'.h
  by_cases hl : i < ds.length
  · have hd : ds[i]? = some ds[i] := List.getElem?_eq_getElem hl
    rw [List.drop_eq_getElem_cons hl, forL_cons] at hw
    obtain ⟨g1, g2⟩ := go i _ hd
    refine .inr ⟨g1, fun σ2 H2 => ∃ e F2, Sim ξ F0 H0 e σ2 F2 H2 ∧ Same F1 F2 ∧ forL bd b (ds.drop (i + 1)) e = r, fun σ2 H2 q => ⟨ds.length - (i + 1), by omega, rfl, hl, q⟩, fun x H2 hy => ?_⟩
    obtain ⟨F2, gr, rp⟩ := g2 x H2 hy
    cases hbd : bd ds[i] e with
    | none => rw [hbd] at hw; exact absurd hw.symm ne
    | some e2 =>
      simp only [hbd] at hw
      refine hg F0 H0 e e2 σ' F2 H2 x _ _ (s'.grow gr) rp hbd fun σ3 s3 => ?_
      have f3 : Same F1 F2 := f'.trans gr.f
      refine hb F0 H0 e2 σ3 F2 H2 _ s3 (fun z => ne (by rw [z] at hw; exact hw.symm)) (fun e3 h2 σ4 F4 H4 s4 f4 => ⟨e3, F4, s4, f3.trans f4, by rw [h2] at hw; exact hw⟩) (fun vl h2 => ?_) (fun e3 h2 σ4 F4 H4 s4 f4 => ?_) (fun e3 h2 σ4 F4 H4 s4 f4 => ⟨e3, F4, s4, f3.trans f4, by rw [h2] at hw; exact hw⟩) fun x e3 h2 => ?_
      · rw [h2] at hw; exact rt vl hw.symm
      · rw [h2] at hw; exact nx e3 hw.symm σ4 F4 H4 s4 ((f1.trans f3).trans f4)
      · rw [h2] at hw; exact er x e3 hw.symm
  · have : i = ds.length := by omega
    subst this
    rw [List.drop_eq_nil_of_le (Nat.le_refl _)] at hw
    exact .inl ⟨st, nx e hw.symm σ' F' H' s' (f1.trans f')⟩
end
end Q
namespace Q
noncomputable section
open PySem L2
section
variable {ξ : Addr × Nat} {F0 H0 F H F' H' F2 H2 : Hp} {env env' : En} {σ : St} {v : V} {d : D} {W : WX} {cr : Nat → Value}
theorem ss_setL {te ti : TE} {fv fi : Ev} {i : Nat} (h : SE ξ W cr te fv) (h' : SE ξ W cr ti fi) : SS ξ W cr (tAsg te (gSub (tVar i) ti rSetL)) (setS i fi fv) := fun F0 H0 env σ F H De s ne nx rt bk ct er => by
  have un : setS i fi fv env = match argE true fv env with
    | .ok a e => match gt e i with
      | .o _ => match bnd fi (fun k e' => R.ok k e') e with
        | .ok (.int k) e' => match gt e' i with
          | .o ds => match ixN ds.length k with
            | some j => .nx (e'.set i (.o (ds.set j a.d)))
            | none => .no
          | _ => .no
        | .err c e' => .err c e'
        | _ => .no
      | _ => .no
    | .err c e => .err c e
    | .no => .no := rfl
  refine se_arg (m := true) h s (fun z => ne (by rw [un]; simp only [z])) (fun x e' h1 v F1 H1 s1 f1 g1 a1 => ?_) fun c e' h1 F1 H1 s1 => er c e' (by rw [un]; simp only [h1]) σ F1 H1 s1
  have hd : Rp F1 v x.d := by
    cases x with
    | s d => exact a1
    | c d => exact (argE_s h1).elim
  cases hs : gt e' i with
  | o ds0 =>
    obtain ⟨a, vs, e1, _⟩ := sim_own s1 hs
    simp only [h1, hs] at un
    refine ⟨.ref a, e1, ?_⟩
    refine se_bnd (k := fun k e' => R.ok k e') h' s1 (fun z => ne (by rw [un]; simp only [z])) (fun k e2 h2 w F2 H2 s2 f2 g2 c2 => ?_) fun c e2 h2 F2 H2 s2 => er c e2 (by rw [un]; simp only [h2]) σ F2 H2 s2
    simp only [h2] at un
    cases k with
    | int k =>
      cases c2
      cases hs2 : gt e2 i with
      | o ds =>
        cases hx : ixN ds.length k with
        | some j =>
          obtain ⟨b, ws, q1, q2, q3, q4, q5⟩ := sim_own s2 hs2
          rw [e1] at q1; cases q1
          exact ⟨a, ws, k, j, rfl, rfl, q4, by rw [q5.length]; exact hx, nx _ (by rw [un]; simp only [hs2, hx]) σ F2 _ (sim_mut s2 hs2 e1 (q5.set j (Rp.mono f2 hd))) (f1.trans f2)⟩
        | none => exact absurd (by rw [un]; simp only [hs2, hx]) ne
      | un => exact absurd (by rw [un]; simp only [hs2]) ne
      | v d => exact absurd (by rw [un]; simp only [hs2]) ne
      | b ds => exact absurd (by rw [un]; simp only [hs2]) ne
      | t ds => exact absurd (by rw [un]; simp only [hs2]) ne
      | x ds => exact absurd (by rw [un]; simp only [hs2]) ne
    | none => exact absurd un ne
    | bool b => exact absurd un ne
    | str b => exact absurd un ne
    | list b => exact absurd un ne
    | tuple b => exact absurd un ne
    | dict b => exact absurd un ne
  | un => exact absurd (by rw [un]; simp only [h1, hs]) ne
  | v d => exact absurd (by rw [un]; simp only [h1, hs]) ne
  | b ds => exact absurd (by rw [un]; simp only [h1, hs]) ne
  | t ds => exact absurd (by rw [un]; simp only [h1, hs]) ne
  | x ds => exact absurd (by rw [un]; simp only [h1, hs]) ne
theorem sg_name {i : Nat} : SG ξ (gName i) (bdN i) := fun _ _ _ _ _ _ _ v _ _ s r e q => by
  cases e
  exact q _ (sim_put s i ⟨v, rfl, r⟩ fun z => by cases z)
theorem sgs_nil : SGs ξ gNil (bdA []) := fun F0 H0 e e' σ F H vs ds Qq s r h q => by
  cases r with
  | nil => cases h; exact ⟨rfl, q _ s⟩
  | cons a b => cases h
theorem sgs_cons {t : TG} {u : TGs} {b : Bv} {bs : List Bv} (h : SG ξ t b) (h' : SGs ξ u (bdA bs)) : SGs ξ (gCons t u) (bdA (b :: bs)) := fun F0 H0 e e' σ F H vs ds Qq s r hb q => by
  cases r with
  | nil => cases hb
  | @cons v vs d ds a a' =>
    have hb' : (match b d e with
      | some e' => bdA bs ds e'
      | none => none) = some e' := hb
    cases h1 : b d e with
    | none => rw [h1] at hb'; cases hb'
    | some e1 =>
      rw [h1] at hb'
      exact ⟨v, vs, rfl, h F0 H0 e e1 σ F H v d _ s a h1 fun σ1 s1 => h' F0 H0 e1 e' σ1 F H vs ds Qq s1 a' hb' q⟩
theorem bdA_len : ∀ {bs : List Bv} {ds : List D} {e e' : En}, bdA bs ds e = some e' → ds.length = bs.length
  | [], [], _, _, _ => rfl
  | [], _ :: _, _, _, h => by cases h
  | _ :: _, [], _, _, h => by cases h
  | b :: bs, d :: ds, e, e', h => by
    have hb' : (match b d e with
      | some e' => bdA bs ds e'
      | none => none) = some e' := h
    cases h1 : b d e with
    | none => rw [h1] at hb'; cases hb'
    | some e1 => rw [h1] at hb'; exact congrArg (· + 1) (bdA_len hb')
theorem sg_tup {K : PySem.W.Frag} {t : TGs} {bs : List Bv} (h : SGs ξ t (bdA bs)) : SG ξ (gTup K bs.length t) (bdT bs) := fun F0 H0 e e' σ F H v d Qq s r hb q => by
  cases r with
  | tup hr ha => exact ⟨_, _, rfl, .inl (rd_mono s.fh (Rd.of hr)), by rw [ha.length]; exact bdA_len hb, h F0 H0 e e' σ F H _ _ Qq s ha hb q⟩
  | _ => cases hb
theorem ss_unp {te : TE} {f : Ev} {g : TG} {bd : Bv} (h : SE ξ W cr te f) (hg : SG ξ g bd) : SS ξ W cr (tAsg te g) (unpS f bd) := fun F0 H0 env σ F H De s ne nx rt bk ct er => by
  have un : unpS f bd env = match argE true f env with
    | .ok a e => match bd a.d e with
      | some e' => .nx e'
      | none => .no
    | .err c e => .err c e
    | .no => .no := rfl
  refine se_arg (m := true) h s (fun z => ne (by rw [un]; simp only [z])) (fun x e' h1 v F1 H1 s1 f1 g1 a1 => ?_) fun c e' h1 F1 H1 s1 => er c e' (by rw [un]; simp only [h1]) σ F1 H1 s1
  have hd : Rp F1 v x.d := by
    cases x with
    | s d => exact a1
    | c d => exact (argE_s h1).elim
  cases hb : bd x.d e' with
  | none => exact absurd (by rw [un]; simp only [h1, hb]) ne
  | some e2 => exact hg F0 H0 e' e2 σ F1 H1 v _ _ s1 hd hb fun σ2 s2 => nx e2 (by rw [un]; simp only [h1, hb]) σ2 F1 H1 s2 f1
/-! ### what is walked: a list, a tuple, a range -/
def itL (f : Ev) : Iv := fun env => match f env with
  | .ok (.a i) e => match gt e i with
    | .b ds => .ok ds e
    | .o ds => .ok ds (e.set i (.v (.list ds)))
    | .v (.list ds) => .ok ds e
    | _ => .no
  | .ok (.v (.list ds)) e => .ok ds e
  | .ok (.f ds) e => .ok ds e
  | .ok _ _ => .no
  | .err c e => .err c e
  | .no => .no
def itT (f : Ev) : Iv := fun env => match f env with
  | .ok (.v (.tuple ds)) e => .ok ds e
  | .ok _ _ => .no
  | .err c e => .err c e
  | .no => .no
theorem rd_sq {K : PySem.W.Frag} {a : Addr} {vs : List V} (h : Rd H a (.lst vs)) : SqL K H a vs := .inl h
theorem rd_inj {a : Addr} {vs ws : List V} (h : Rd H a (.lst vs)) (h' : Rd H a (.lst ws)) : vs = ws := by
  rcases h with h | ⟨o, h⟩ <;> rcases h' with h' | ⟨o', h'⟩ <;> rw [h] at h' <;> cases h' <;> rfl
/-- the list at a stands still: it is read off F1, or off the entry -/
theorem it_list {K : PySem.W.Frag} {F1 H0 : Hp} {a : Addr} {vs : List V} {ds : List D} (hr : Rd F1 a (.lst vs) ∨ Rd H0 a (.lst vs)) (ha : RpAll F1 vs ds) : ItOk F1 H0 (Itl K a) ds := fun F H f g h => by
  have r : Rd H a (.lst vs) := by
    rcases hr with r | r
    · exact rd_mono (f.trans g) r
    · exact rd_mono h r
  refine ⟨fun i d hd => ?_, vs, rd_sq r, by rw [ha.length]; exact Nat.le_refl _⟩
  obtain ⟨v, h1, h2⟩ := ha.get hd
  refine ⟨⟨vs, v, rd_sq r, h1⟩, fun x H' hy => ?_⟩
  obtain ⟨rfl, q⟩ := hy
  have e := q vs (rd_sq r)
  rw [h1] at e; cases e
  exact ⟨F, Gr.refl g, Rp.mono f h2⟩
theorem it_tup {K : PySem.W.Frag} {F1 H0 : Hp} {a : Addr} {vs : List V} {ds : List D} (hr : Rd F1 a (.tup vs)) (ha : RpAll F1 vs ds) : ItOk F1 H0 (Itt K a) ds := fun F H f g h => by
  have r : Rd H a (.tup vs) := rd_mono (f.trans g) hr
  refine ⟨fun i d hd => ?_, vs, .inl r, by rw [ha.length]; exact Nat.le_refl _⟩
  obtain ⟨v, h1, h2⟩ := ha.get hd
  refine ⟨⟨vs, v, .inl r, h1⟩, fun x H' hy => ?_⟩
  obtain ⟨rfl, q⟩ := hy
  have e := q vs (.inl r)
  rw [h1] at e; cases e
  exact ⟨F, Gr.refl g, Rp.mono f h2⟩
theorem si_list {K : PySem.W.Frag} {tl : TE} {f : Ev} (h : SE ξ W cr tl f) : SI ξ W cr (iList K tl) (itL f) := fun F0 H0 env σ F H Rr s ne ok er => by
  have un : itL f env = match f env with
    | .ok (.a i) e => match gt e i with
      | .b ds => .ok ds e
      | .o ds => .ok ds (e.set i (.v (.list ds)))
      | .v (.list ds) => .ok ds e
      | _ => .no
    | .ok (.v (.list ds)) e => .ok ds e
    | .ok (.f ds) e => .ok ds e
    | .ok _ _ => .no
    | .err c e => .err c e
    | .no => .no := rfl
  refine h F0 H0 env σ F H _ s (fun z => ne (by rw [un]; simp only [z])) (fun vl e1 h1 v F1 H1 s1 f1 g1 ok1 => ?_) fun c e1 h1 => er c e1 (by rw [un]; simp only [h1])
  have vv : ∀ ds, Rp F1 v (.list ds) → itL f env = .ok ds e1 → ∃ a, v = .ref a ∧ (∃ xs, SqL K H1 a xs) ∧ Rr (Itl K a) H1 := fun ds hv hu => by
    cases hv with
    | lst hr ha => exact ⟨_, rfl, ⟨_, rd_sq (rd_mono s1.fh hr)⟩, ok ds e1 hu _ F1 H1 s1 f1 g1 (it_list (.inl hr) ha)⟩
  cases vl with
  | v d =>
    cases d with
    | list ds => exact vv ds ok1 (by rw [un]; simp only [h1])
    | none => exact absurd (by rw [un]; simp only [h1]) ne
    | bool b => exact absurd (by rw [un]; simp only [h1]) ne
    | int b => exact absurd (by rw [un]; simp only [h1]) ne
    | str b => exact absurd (by rw [un]; simp only [h1]) ne
    | tuple b => exact absurd (by rw [un]; simp only [h1]) ne
    | dict b => exact absurd (by rw [un]; simp only [h1]) ne
  | f ds =>
    obtain ⟨a, vs, rfl, q1, q0, q2, q3, q4⟩ := ok1
    obtain ⟨r1, r2, r3⟩ := s1.keep q1 q0 q2 q3 q4
    exact ⟨a, rfl, ⟨vs, SqL.of q2⟩, ok ds e1 (by rw [un]; simp only [h1]) _ _ H1 r3 (f1.trans r2) g1 (it_list (.inl (Rd.of upd_same)) (RpAll.mono r2 q3))⟩
  | a i =>
    have gi : σ[i]? = some (some v) := ok1
    have q := s1.sl i
    rw [join_get gi] at q
    cases hs : gt e1 i with
    | b ds =>
      rw [hs] at q
      obtain ⟨a, vs, e, r1, r2⟩ := q; cases e
      exact ⟨a, rfl, ⟨vs, rd_sq (rd_mono s1.h r1)⟩, ok ds e1 (by rw [un]; simp only [h1, hs]) _ F1 H1 s1 f1 g1 (it_list (.inr r1) r2)⟩
    | o ds =>
      rw [hs] at q
      obtain ⟨a, vs, e, q1, q0, q2, q3⟩ := q; cases e
      obtain ⟨vs', r1, r2, r3, r4⟩ := s1.freeze hs gi
      rw [q2] at r1; cases r1
      exact ⟨a, rfl, ⟨vs, SqL.of q2⟩, ok ds _ (by rw [un]; simp only [h1, hs]) _ _ H1 r4 (f1.trans r3) g1 (it_list (.inl (Rd.of upd_same)) (RpAll.mono r3 q3))⟩
    | v d =>
      rw [hs] at q
      obtain ⟨v', e, q2⟩ := q; cases e
      cases d with
      | list ds => exact vv ds q2 (by rw [un]; simp only [h1, hs])
      | none => exact absurd (by rw [un]; simp only [h1, hs]) ne
      | bool b => exact absurd (by rw [un]; simp only [h1, hs]) ne
      | int b => exact absurd (by rw [un]; simp only [h1, hs]) ne
      | str b => exact absurd (by rw [un]; simp only [h1, hs]) ne
      | tuple b => exact absurd (by rw [un]; simp only [h1, hs]) ne
      | dict b => exact absurd (by rw [un]; simp only [h1, hs]) ne
    | un => exact absurd (by rw [un]; simp only [h1, hs]) ne
    | t kvs => exact absurd (by rw [un]; simp only [h1, hs]) ne
    | x c => exact absurd (by rw [un]; simp only [h1, hs]) ne
  | ft => exact absurd (by rw [un]; simp only [h1]) ne
theorem si_tup {K : PySem.W.Frag} {tl : TE} {f : Ev} (h : SE ξ W cr tl f) : SI ξ W cr (iTup K tl) (itT f) := fun F0 H0 env σ F H Rr s ne ok er => by
  have un : itT f env = match f env with
    | .ok (.v (.tuple ds)) e => .ok ds e
    | .ok _ _ => .no
    | .err c e => .err c e
    | .no => .no := rfl
  refine h F0 H0 env σ F H _ s (fun z => ne (by rw [un]; simp only [z])) (fun vl e1 h1 v F1 H1 s1 f1 g1 ok1 => ?_) fun c e1 h1 => er c e1 (by rw [un]; simp only [h1])
  cases vl with
  | v d =>
    cases d with
    | tuple ds =>
      cases ok1 with
      | tup hr ha => exact ⟨_, rfl, ⟨_, .inl (rd_mono s1.fh (Rd.of hr))⟩, ok ds e1 (by rw [un]; simp only [h1]) _ F1 H1 s1 f1 g1 (it_tup (Rd.of hr) ha)⟩
    | none => exact absurd (by rw [un]; simp only [h1]) ne
    | bool b => exact absurd (by rw [un]; simp only [h1]) ne
    | int b => exact absurd (by rw [un]; simp only [h1]) ne
    | str b => exact absurd (by rw [un]; simp only [h1]) ne
    | list b => exact absurd (by rw [un]; simp only [h1]) ne
    | dict b => exact absurd (by rw [un]; simp only [h1]) ne
  | f ds => exact absurd (by rw [un]; simp only [h1]) ne
  | a i => exact absurd (by rw [un]; simp only [h1]) ne
  | ft => exact absurd (by rw [un]; simp only [h1]) ne
/-- lo, lo + c, .. n of them -/
def rgL (lo c : Int) (n : Nat) : List D := (List.range n).map fun (k : Nat) => .int (lo + (k : Int) * c)
theorem rgL_get {lo c : Int} {n i : Nat} {d : D} (h : (rgL lo c n)[i]? = some d) : i < n ∧ d = .int (lo + (i : Int) * c) := by
  unfold rgL at h
  rw [List.getElem?_map] at h
  by_cases hi : i < n
  · rw [List.getElem?_range hi] at h
    cases h; exact ⟨hi, rfl⟩
  · rw [List.getElem?_eq_none (by rw [List.length_range]; omega)] at h; cases h
theorem rgL_len (lo c : Int) (n : Nat) : (rgL lo c n).length = n := by unfold rgL; rw [List.length_map, List.length_range]
theorem it_range {F1 H0 : Hp} (lo : Int) (n : Nat) : ItOk F1 H0 (Itr lo n) (rgL lo 1 n) := fun F H f g h => by
  refine ⟨fun i d hd => ?_, by rw [rgL_len]; exact Nat.le_refl n⟩
  obtain ⟨h1, rfl⟩ := rgL_get hd
  refine ⟨h1, fun x H' hy => ?_⟩
  obtain ⟨rfl, rfl⟩ := hy
  exact ⟨F, Gr.refl g, by rw [Int.mul_one]; exact .int _⟩
def i62 (i : Int) : Prop := -(2 ^ 62) ≤ i ∧ i < 2 ^ 62
/-- nothing unfolds it -/
instance {i : Int} : Decidable (i62 i) := Classical.propDecidable _
def itR1 (f : Ev) : Iv := bnd f fun d e => match d with
  | .int j => if i62 j then .ok (rgL 0 1 j.toNat) e else .no
  | _ => .no
theorem si_range1 {te : TE} {f : Ev} (h : SE ξ W cr te f) : SI ξ W cr (iRng1 (tCons te tNil)) (itR1 f) := fun F0 H0 env σ F H Rr s ne ok er => by
  refine se_bnd (k := fun d e => match d with
    | .int j => if i62 j then .ok (rgL 0 1 j.toNat) e else .no
    | _ => .no) h s ne (fun d e1 h1 v F1 H1 s1 f1 g1 c1 => ?_) er
  have h2 : itR1 f env = _ := h1
  cases d with
  | int j =>
    cases c1
    by_cases hj : i62 j
    · simp only [if_pos hj] at h2
      exact ⟨j, rfl, hj.1, hj.2, ok _ e1 h2 _ F1 H1 s1 f1 g1 (it_range 0 j.toNat)⟩
    · simp only [if_neg hj] at h2; exact absurd h2 ne
  | _ => exact absurd h2 ne
def rg2 : D → D → En → R (List D)
  | .int i, .int j, e => if i62 i ∧ i62 j then .ok (rgL i 1 (j - i).toNat) e else .no
  | _, _, _ => .no
def itR2 (f g : Ev) : Iv := bnd f fun d => bnd g fun d' e => rg2 d d' e
theorem si_range2 {te te' : TE} {f g : Ev} (h : SE ξ W cr te f) (h' : SE ξ W cr te' g) : SI ξ W cr (iRng2 (tCons te (tCons te' tNil))) (itR2 f g) := fun F0 H0 env σ F H Rr s ne ok er => by
  refine se_bnd (k := fun d => bnd g fun d' e => rg2 d d' e) h s ne (fun d e1 h1 v F1 H1 s1 f1 g1 c1 => ?_) er
  have h0 : itR2 f g env = bnd g (fun d' e => rg2 d d' e) e1 := h1
  refine se_bnd (k := fun d' e => rg2 d d' e) h' s1 (fun z => ne (by rw [h0, z])) (fun d' e2 h2 v' F2 H2 s2 f2 g2 c2 => ?_) fun c e2 h2 => er c e2 (by rw [h0, h2])
  have h3 : itR2 f g env = rg2 d d' e2 := by rw [h0, h2]
  cases d with
  | int i =>
    cases d' with
    | int j =>
      cases c1
      cases c2
      have h4 : itR2 f g env = if i62 i ∧ i62 j then .ok (rgL i 1 (j - i).toNat) e2 else .no := h3
      by_cases hj : i62 i ∧ i62 j
      · rw [if_pos hj] at h4
        exact ⟨i, j, rfl, ⟨hj.1.1, hj.1.2, hj.2.1, hj.2.2⟩, ok _ e2 h4 _ F2 H2 s2 (f1.trans f2) (g1.trans g2) (it_range i (j - i).toNat)⟩
      · rw [if_neg hj] at h4; exact absurd h4 ne
    | _ => exact absurd h3 ne
  | _ => exact absurd h3 ne
theorem nn_itL {f : Ev} (h : NN f) : NN (itL f) := fun env a env' q i hi => by
  have un : itL f env = match f env with
    | .ok (.a i) e => match gt e i with
      | .b ds => .ok ds e
      | .o ds => .ok ds (e.set i (.v (.list ds)))
      | .v (.list ds) => .ok ds e
      | _ => .no
    | .ok (.v (.list ds)) e => .ok ds e
    | .ok (.f ds) e => .ok ds e
    | .ok _ _ => .no
    | .err c e => .err c e
    | .no => .no := rfl
  rw [un] at q
  cases h1 : f env with
  | ok vl e =>
    simp only [h1] at q
    have hh := h env vl e h1 i
    cases vl with
    | v d => cases d <;> simp only at q <;> cases q; exact hh hi
    | f ds => cases q; exact hh hi
    | ft => cases q
    | a j =>
      simp only at q
      cases hs : gt e j with
      | o ds => simp only [hs] at q; cases q; exact hh (sp_set rfl hi)
      | b ds => simp only [hs] at q; cases q; exact hh hi
      | v d => simp only [hs] at q; cases d <;> simp only at q <;> cases q; exact hh hi
      | un => simp only [hs] at q; cases q
      | t kvs => simp only [hs] at q; cases q
      | x c => simp only [hs] at q; cases q
  | err c e => simp only [h1] at q; cases q
  | no => simp only [h1] at q; cases q
theorem nn_itT {f : Ev} (h : NN f) : NN (itT f) := fun env a env' q i hi => by
  have un : itT f env = match f env with
    | .ok (.v (.tuple ds)) e => .ok ds e
    | .ok _ _ => .no
    | .err c e => .err c e
    | .no => .no := rfl
  rw [un] at q
  cases h1 : f env with
  | ok vl e =>
    simp only [h1] at q
    have hh := h env vl e h1 i
    cases vl with
    | v d => cases d <;> simp only at q <;> cases q; exact hh hi
    | _ => cases q
  | err c e => simp only [h1] at q; cases q
  | no => simp only [h1] at q; cases q
theorem nn_itR1 {f : Ev} (h : NN f) : NN (itR1 f) := nn_bnd h fun d env a env' q i hi => by
  cases d with
  | int j =>
    have q' : (if i62 j then R.ok (rgL 0 1 j.toNat) env else .no) = R.ok a env' := q
    by_cases hj : i62 j
    · rw [if_pos hj] at q'; cases q'; exact hi
    · rw [if_neg hj] at q'; cases q'
  | _ => cases q
theorem nn_itR2 {f g : Ev} (h : NN f) (h' : NN g) : NN (itR2 f g) := nn_bnd h fun d => nn_bnd h' fun d' env a env' q i hi => by
  cases d with
  | int j =>
    cases d' with
    | int k =>
      have q' : (if i62 j ∧ i62 k then R.ok (rgL j 1 (k - j).toNat) env else .no) = R.ok a env' := q
      by_cases hj : i62 j ∧ i62 k
      · rw [if_pos hj] at q'; cases q'; exact hi
      · rw [if_neg hj] at q'; cases q'
    | _ => cases q
  | _ => cases q
/-! ### comprehensions -/
def wipeE (env : En) : List Nat → En
  | [] => env
  | v :: vs => (wipeE env vs).set v .un
/-- the slots at vs as they were in env -/
def giveE (env : En) (e : En) : List Nat → En
  | [] => e
  | v :: vs => (giveE env e vs).set v (gt env v)
def lcL (bd : Bv) (c : Tv) (f : Ev) (vs : List Nat) : List D → List D → En → R (List D)
  | [], acc, e => .ok acc e
  | d :: ds, acc, e => match bd d e with
    | some e1 => match c e1 with
      | .ok true e2 => match argE true f e2 with
        | .ok a e3 => lcL bd c f vs ds (acc ++ [a.d]) (wipeE e3 vs)
        | .err c e3 => .err c e3
        | .no => .no
      | .ok false e2 => lcL bd c f vs ds acc (wipeE e2 vs)
      | .err c e2 => .err c e2
      | .no => .no
    | none => .no
def lcE (src : Iv) (bd : Bv) (c : Tv) (f : Ev) (vs : List Nat) : Ev := fun env => match src env with
  | .ok ds e => if ds.length ≤ LIM ∧ ∀ i ∈ vs, (gt e i).own = false then match lcL bd c f vs ds [] (wipeE e vs) with
      | .ok es e' => .ok (.f es) (giveE e e' vs)
      | _ => .no
    else .no
  | .err c e => .err c e
  | .no => .no
def tt : Tv := fun e => .ok true e
theorem giveE_len (env e : En) : ∀ vs, (giveE env e vs).length = e.length
  | [] => rfl
  | v :: vs => by unfold giveE; rw [List.length_set, giveE_len env e vs]
theorem wipeE_len (e : En) : ∀ vs, (wipeE e vs).length = e.length
  | [] => rfl
  | v :: vs => by unfold wipeE; rw [List.length_set, wipeE_len e vs]
theorem gt_ge {e : En} {i : Nat} (h : ¬ i < e.length) : gt e i = .un := by
  unfold gt; rw [List.getD_eq_getElem?_getD, List.getElem?_eq_none (Nat.le_of_not_lt h)]; rfl
theorem gt_wipe (e : En) (i : Nat) : ∀ vs, gt (wipeE e vs) i = if i ∈ vs then .un else gt e i
  | [] => by simp [wipeE]
  | v :: vs => by
    unfold wipeE
    rw [gt_set, gt_wipe e i vs, wipeE_len]
    by_cases h1 : v = i
    · subst h1
      by_cases h2 : v < e.length
      · simp [h2]
      · rw [if_neg (fun z => h2 z.2), gt_ge h2]; simp
    · have h3 : ¬ i = v := fun z => h1 z.symm
      rw [if_neg (fun z => h1 z.1)]
      simp [h3]
theorem gt_give (env e : En) (i : Nat) (hl : env.length = e.length) : ∀ vs, gt (giveE env e vs) i = if i ∈ vs then gt env i else gt e i
  | [] => by simp [giveE]
  | v :: vs => by
    unfold giveE
    rw [gt_set, gt_give env e i hl vs, giveE_len]
    by_cases h1 : v = i
    · subst h1
      by_cases h2 : v < e.length
      · simp [h2]
      · rw [if_neg (fun z => h2 z.2), gt_ge h2, gt_ge (by rw [hl]; exact h2)]; simp
    · have h3 : ¬ i = v := fun z => h1 z.symm
      rw [if_neg (fun z => h1 z.1)]
      simp [h3]
theorem wipe_ne {σ : St} {vs : List Nat} {j : Nat} (h : j ∉ vs) : (wipe σ vs)[j]? = σ[j]? := by
  induction vs with
  | nil => rfl
  | cons v vs ih =>
    unfold wipe
    rw [List.getElem?_set_ne (fun z => h (by rw [z]; exact List.mem_cons_self)), ih (fun z => h (List.mem_cons_of_mem _ z))]
/-- the slots at vs forgotten; σ' is σ but at vs -/
theorem sim_wipe {vs : List Nat} {σ' : St} (s : Sim ξ F0 H0 env σ F H) (hl : σ'.length = σ.length) (hσ : ∀ j, j ∉ vs → σ'[j]? = σ[j]?) : Sim ξ F0 H0 (wipeE env vs) σ' F H := by
  refine ⟨s.f, s.h, s.fh, s.n, by rw [wipeE_len, hl]; exact s.len, fun j => ?_, fun j k a hj hk ej ek => ?_⟩
  · rw [gt_wipe]
    by_cases h : j ∈ vs
    · rw [if_pos h]; trivial
    · rw [if_neg h, hσ j h]; exact s.sl j
  · rw [gt_wipe] at hj hk
    by_cases h : j ∈ vs
    · rw [if_pos h] at hj; cases hj
    · by_cases h' : k ∈ vs
      · rw [if_pos h'] at hk; cases hk
      · rw [if_neg h] at hj; rw [if_neg h'] at hk; rw [hσ j h] at ej; rw [hσ k h'] at ek
        exact s.sep j k a hj hk ej ek
theorem SlOk.growF {x : Sl} {w : Option V} (ho : x.own = false) (f : Same F F') (h : SlOk ξ F0 H0 F H x w) : SlOk ξ F0 H0 F' H' x w := by
  cases x with
  | un => trivial
  | v d => obtain ⟨v, e, q⟩ := h; exact ⟨v, e, Rp.mono f q⟩
  | o ds => cases ho
  | b ds => obtain ⟨a, vs, e, q1, q2⟩ := h; exact ⟨a, vs, e, q1, RpAll.mono f q2⟩
  | t ds => cases ho
  | x c => exact h
theorem sim_give {vs : List Nat} {σ' : St} (s : Sim ξ F0 H0 env' σ' F' H') (s0 : Sim ξ F0 H0 env σ F H) (hl : σ'.length = σ.length) (hσ : ∀ j, j ∉ vs → σ'[j]? = σ[j]?) (f : Same F F') (ho : ∀ i ∈ vs, (gt env i).own = false) : Sim ξ F0 H0 (giveE env env' vs) σ F' H' := by
  have le : env.length = env'.length := by rw [s0.len, s.len, hl]
  refine ⟨s.f, s.h, s.fh, s.n, by rw [giveE_len, s.len, hl], fun j => ?_, fun j k a hj hk ej ek => ?_⟩
  · rw [gt_give env env' j le]
    by_cases h : j ∈ vs
    · rw [if_pos h]; exact SlOk.growF (ho j h) f (s0.sl j)
    · rw [if_neg h, ← hσ j h]; exact s.sl j
  · rw [gt_give env env' j le] at hj
    rw [gt_give env env' k le] at hk
    by_cases h : j ∈ vs
    · rw [if_pos h, ho j h] at hj; cases hj
    · by_cases h' : k ∈ vs
      · rw [if_pos h', ho k h'] at hk; cases hk
      · rw [if_neg h] at hj; rw [if_neg h'] at hk; rw [← hσ j h] at ej; rw [← hσ k h'] at ek
        exact s.sep j k a hj hk ej ek
/-- a new cell that no slot and no data know may change -/
theorem sim_free (s : Sim ξ F0 H0 env σ F H) {p : Addr} {o : HO} (h1 : F p = none) (h0 : H0 p = none) (hn : ∀ i, (gt env i).own = true → σ[i]? ≠ some (some (.ref p))) : Sim ξ F0 H0 env σ F (upd H p o) := by
  have keepF : ∀ {G : Hp}, G p = none → Same G H → Same G (upd H p o) := fun {G} hG hs b x eb => by
    rw [upd_ne (ne_of_none eb hG)]
    exact hs _ _ eb
  refine ⟨s.f, keepF h0 s.h, keepF h1 s.fh, s.n, s.len, fun j => ?_, s.sep⟩
  have qj := s.sl j
  have nej : ∀ b, (gt env j).own = true → (σ[j]?).join = some (.ref b) → b ≠ p := fun b ho eb z => by
    subst z
    exact hn j ho (slot_get s eb)
  cases hs : gt env j with
  | un => trivial
  | v d => rw [hs] at qj; exact qj
  | o es => rw [hs] at qj; obtain ⟨b, ws, e1, e2, e3, e4, e5⟩ := qj; exact ⟨b, ws, e1, e2, e3, by rw [upd_ne (nej b (by rw [hs]; rfl) e1)]; exact e4, e5⟩
  | b es => rw [hs] at qj; exact qj
  | t es => rw [hs] at qj; obtain ⟨b, ws, e1, e2, e3, e4, e5⟩ := qj; exact ⟨b, ws, e1, e2, e3, by rw [upd_ne (nej b (by rw [hs]; rfl) e1)]; exact e4, e5⟩
  | x c => rw [hs] at qj; exact qj
end
end
end Q
namespace Q
noncomputable section
open PySem L2
/-! ### comprehensions: the proof -/
def W0 : WX := fun _ _ _ _ => False
section
variable {ξ : Addr × Nat} {F0 H0 F H F' H' F2 H2 : Hp} {env env' : En} {σ : St} {v : V} {d : D} {W : WX} {cr : Nat → Value}
/-- a target takes over no thing of its own -/
def BN (bd : Bv) : Prop := ∀ d e e', bd d e = some e' → ∀ i, (gt e' i).sp = true → (gt e i).sp = true
theorem bn_name {i : Nat} : BN (bdN i) := fun d e e' h j hj => by cases h; exact sp_set rfl hj
theorem bn_all : ∀ {bs : List Bv}, (∀ b ∈ bs, BN b) → ∀ ds e e', bdA bs ds e = some e' → ∀ i, (gt e' i).sp = true → (gt e i).sp = true
  | [], _, [], e, e', h, i, hi => by cases h; exact hi
  | [], _, _ :: _, _, _, h, _, _ => by cases h
  | _ :: _, _, [], _, _, h, _, _ => by cases h
  | b :: bs, hb, d :: ds, e, e', h, i, hi => by
    have h' : (match b d e with
      | some e' => bdA bs ds e'
      | none => none) = some e' := h
    cases h1 : b d e with
    | none => exact absurd h' (by rw [h1]; simp)
    | some e1 =>
      rw [h1] at h'
      exact hb b List.mem_cons_self d e e1 h1 i (bn_all (fun b z => hb b (List.mem_cons_of_mem _ z)) ds e1 e' h' i hi)
theorem bn_tup {bs : List Bv} (h : ∀ b ∈ bs, BN b) : BN (bdT bs) := fun d e e' q i hi => by
  cases d with
  | tuple ds => exact bn_all h ds e e' q i hi
  | _ => cases q
theorem wipe_own {e : En} {vs : List Nat} {i : Nat} (h : (gt (wipeE e vs) i).sp = true) : (gt e i).sp = true := by
  rw [gt_wipe] at h
  by_cases q : i ∈ vs
  · rw [if_pos q] at h; cases h
  · rw [if_neg q] at h; exact h
theorem lcL_cons {bd : Bv} {c : Tv} {f : Ev} {vs : List Nat} {d : D} {ds acc : List D} {e : En} : lcL bd c f vs (d :: ds) acc e = match bd d e with
    | some e1 => match c e1 with
      | .ok true e2 => match argE true f e2 with
        | .ok a e3 => lcL bd c f vs ds (acc ++ [a.d]) (wipeE e3 vs)
        | .err c e3 => .err c e3
        | .no => .no
      | .ok false e2 => lcL bd c f vs ds acc (wipeE e2 vs)
      | .err c e2 => .err c e2
      | .no => .no
    | none => .no := rfl
theorem nn_lcL {bd : Bv} {c : Tv} {f : Ev} {vs : List Nat} (hb : BN bd) (hc : NN c) (hf : NN f) : ∀ (ds acc : List D), NN (lcL bd c f vs ds acc)
  | [], acc => nn_ok acc
  | d :: ds, acc => fun env a env' h i hi => by
    rw [lcL_cons] at h
    cases h1 : bd d env with
    | none => simp only [h1] at h; cases h
    | some e1 =>
      simp only [h1] at h
      cases h2 : c e1 with
      | ok t e2 =>
        simp only [h2] at h
        cases t with
        | false => exact hb d env e1 h1 i (hc e1 _ e2 h2 i (wipe_own (nn_lcL hb hc hf ds acc _ a env' h i hi)))
        | true =>
          simp only at h
          cases h3 : argE true f e2 with
          | ok b e3 =>
            simp only [h3] at h
            exact hb d env e1 h1 i (hc e1 _ e2 h2 i (nn_arg hf e2 b e3 h3 i (wipe_own (nn_lcL hb hc hf ds _ _ a env' h i hi))))
          | err c e3 => simp only [h3] at h; cases h
          | no => simp only [h3] at h; cases h
      | err c e2 => simp only [h2] at h; cases h
      | no => simp only [h2] at h; cases h
theorem wipe_wipe_len (σ σ' : St) (vs : List Nat) (h : wipe σ' vs = wipe σ vs) : σ'.length = σ.length := by
  have hl := congrArg (·.length) h
  simpa only [wipe_length] using hl
theorem wipe_eq_at {σ σ' : St} {vs : List Nat} (h : wipe σ' vs = wipe σ vs) {j : Nat} (hj : j ∉ vs) : σ'[j]? = σ[j]? := by
  rw [← wipe_ne (σ := σ') hj, h, wipe_ne hj]
/-- a target that stores within vs alone -/
def SGw (ξ : Addr × Nat) (g : TG) (bd : Bv) (vs : List Nat) : Prop := ∀ (F0 H0 : Hp) (e e' : En) (σ : St) (F H : Hp) (v : V) (d : D) (Qq : St → Hp → Prop), Sim ξ F0 H0 e σ F H → Rp F v d → bd d e = some e' → (∀ σ', Sim ξ F0 H0 e' σ' F H → wipe σ' vs = wipe σ vs → Qq σ' H) → g v σ H Qq
def SGsw (ξ : Addr × Nat) (g : TGs) (bd : List D → En → Option En) (vs : List Nat) : Prop := ∀ (F0 H0 : Hp) (e e' : En) (σ : St) (F H : Hp) (ws : List V) (ds : List D) (Qq : St → Hp → Prop), Sim ξ F0 H0 e σ F H → RpAll F ws ds → bd ds e = some e' → (∀ σ', Sim ξ F0 H0 e' σ' F H → wipe σ' vs = wipe σ vs → Qq σ' H) → g ws σ H Qq
theorem wipe_get (σ : St) : ∀ (vs : List Nat) (j : Nat), (wipe σ vs)[j]? = if j ∈ vs ∧ j < σ.length then some none else σ[j]?
  | [], j => by simp [wipe]
  | v :: vs, j => by
    unfold wipe
    rw [List.getElem?_set, wipe_get σ vs j, wipe_length]
    by_cases h : v = j
    · subst h
      by_cases h2 : v < σ.length
      · simp [h2]
      · simp [h2]
    · have h3 : ¬ j = v := fun z => h z.symm
      simp [h, h3]
theorem wipe_set {σ : St} {vs : List Nat} {i : Nat} {x : Option V} (h : i ∈ vs) : wipe (σ.set i x) vs = wipe σ vs := by
  refine List.ext_getElem? (fun j => ?_)
  rw [wipe_get, wipe_get, List.length_set, List.getElem?_set]
  by_cases q : i = j
  · subst q
    by_cases h2 : i < σ.length
    · simp [h, h2]
    · simp [h2]
  · simp [q]
theorem sgw_name {i : Nat} {vs : List Nat} (h : i ∈ vs) : SGw ξ (gName i) (bdN i) vs := fun _ _ _ _ _ _ _ v _ _ s r e q => by
  cases e
  exact q _ (sim_put s i ⟨v, rfl, r⟩ fun z => by cases z) (wipe_set h)
theorem sgsw_nil {vs : List Nat} : SGsw ξ gNil (bdA []) vs := fun F0 H0 e e' σ F H ws ds Qq s r h q => by
  cases r with
  | nil => cases h; exact ⟨rfl, q _ s rfl⟩
  | cons a b => cases h
theorem sgsw_cons {t : TG} {u : TGs} {b : Bv} {bs : List Bv} {vs : List Nat} (h : SGw ξ t b vs) (h' : SGsw ξ u (bdA bs) vs) : SGsw ξ (gCons t u) (bdA (b :: bs)) vs := fun F0 H0 e e' σ F H ws ds Qq s r hb q => by
  cases r with
  | nil => cases hb
  | @cons v ws d ds a a' =>
    have hb' : (match b d e with
      | some e' => bdA bs ds e'
      | none => none) = some e' := hb
    cases h1 : b d e with
    | none => rw [h1] at hb'; cases hb'
    | some e1 =>
      rw [h1] at hb'
      exact ⟨v, ws, rfl, h F0 H0 e e1 σ F H v d _ s a h1 fun σ1 s1 w1 => h' F0 H0 e1 e' σ1 F H ws ds Qq s1 a' hb' fun σ2 s2 w2 => q σ2 s2 (w2.trans w1)⟩
theorem sgw_tup {K : PySem.W.Frag} {t : TGs} {bs : List Bv} {vs : List Nat} (h : SGsw ξ t (bdA bs) vs) : SGw ξ (gTup K bs.length t) (bdT bs) vs := fun F0 H0 e e' σ F H v d Qq s r hb q => by
  cases r with
  | tup hr ha => exact ⟨_, _, rfl, .inl (rd_mono s.fh (Rd.of hr)), by rw [ha.length]; exact bdA_len hb, h F0 H0 e e' σ F H _ _ Qq s ha hb q⟩
  | _ => cases hb
theorem not_sp (s : Sim ξ F0 H0 env σ F H) {p : Addr} (hp : H p = none) : ∀ i, (gt env i).sp = true → σ[i]? ≠ some (some (.ref p)) := fun i h e => by
  have q := s.sl i
  rw [join_get e] at q
  cases hs : gt env i with
  | o ds => exact not_own s hp i (by rw [hs]; rfl) e
  | t ds => exact not_own s hp i (by rw [hs]; rfl) e
  | b ds =>
    rw [hs] at q; obtain ⟨b, vs, e1, e2, _⟩ := q; cases e1
    rcases rd_mono s.h e2 with z | ⟨o, z⟩ <;> rw [hp] at z <;> cases z
  | un => rw [hs] at h; cases h
  | v d => rw [hs] at h; cases h
  | x c => rw [hs] at h; cases h
theorem own_sp {x : Sl} (h : x.own = true) : x.sp = true := by cases x <;> first | rfl | cases h
/-- for a while the cell p stands still, too -/
theorem sim_in (s : Sim ξ F0 H0 env σ F H) {p : Addr} {o : HO} (h0 : H0 p = none) (h1 : F p = none) (h2 : H p = some o) (hn : ∀ i, (gt env i).own = true → σ[i]? ≠ some (some (.ref p))) : Sim ξ F0 (upd H0 p o) env σ F H := by
  refine ⟨s.f, fun a u e => ?_, s.fh, fun a u e => ?_, s.len, fun j => ?_, s.sep⟩
  · by_cases q : a = p
    · subst q; rw [upd_same] at e; rw [h2]; exact e
    · rw [upd_ne q] at e; exact s.h _ _ e
  · have q : a ≠ p := ne_of_none e h1
    rw [upd_ne q]; exact s.n a u e
  · have qj := s.sl j
    have nej : ∀ b, (gt env j).own = true → (σ[j]?).join = some (.ref b) → b ≠ p := fun b ho eb z => by
      subst z
      exact hn j ho (slot_get s eb)
    cases hs : gt env j with
    | un => trivial
    | v d => rw [hs] at qj; exact qj
    | o es => rw [hs] at qj; obtain ⟨b, ws, e1, e2, e3, e4, e5⟩ := qj; exact ⟨b, ws, e1, e2, by rw [upd_ne (nej b (by rw [hs]; rfl) e1)]; exact e3, e4, e5⟩
    | b es => rw [hs] at qj; obtain ⟨b, ws, e1, e2, e3⟩ := qj; exact ⟨b, ws, e1, rd_mono (same_new h0) e2, e3⟩
    | t es => rw [hs] at qj; obtain ⟨b, ws, e1, e2, e3, e4, e5⟩ := qj; exact ⟨b, ws, e1, e2, by rw [upd_ne (nej b (by rw [hs]; rfl) e1)]; exact e3, e4, e5⟩
    | x c => rw [hs] at qj; exact qj
theorem sim_out {p : Addr} {o : HO} (s : Sim ξ F0 (upd H0 p o) env σ F H) (h0 : H0 p = none) (hn : ∀ i, (gt env i).sp = true → σ[i]? ≠ some (some (.ref p))) : Sim ξ F0 H0 env σ F H := by
  have back : ∀ {a : Addr}, upd H0 p o a = none → H0 a = none := fun {a} e => by
    by_cases q : a = p
    · subst q; exact h0
    · rw [upd_ne q] at e; exact e
  refine ⟨s.f, (same_new h0).trans s.h, s.fh, fun a u e => ?_, s.len, fun j => ?_, s.sep⟩
  · rcases s.n a u e with q | q | ⟨q, r⟩
    · exact .inl q
    · exact .inr (.inl (back q))
    · by_cases z : a = p
      · subst z; exact .inr (.inl h0)
      · rw [upd_ne z] at r; exact .inr (.inr ⟨q, r⟩)
  · have qj := s.sl j
    cases hs : gt env j with
    | un => trivial
    | v d => rw [hs] at qj; exact qj
    | o es => rw [hs] at qj; obtain ⟨b, ws, e1, e2, e3, e4, e5⟩ := qj; exact ⟨b, ws, e1, e2, back e3, e4, e5⟩
    | b es =>
      rw [hs] at qj; obtain ⟨b, ws, e1, e2, e3⟩ := qj
      have hb : b ≠ p := fun z => by subst z; exact hn j (by rw [hs]; rfl) (slot_get s e1)
      refine ⟨b, ws, e1, ?_, e3⟩
      rcases e2 with z | ⟨u, z⟩ <;> rw [upd_ne hb] at z
      · exact .inl z
      · exact .inr ⟨u, z⟩
    | t es => rw [hs] at qj; obtain ⟨b, ws, e1, e2, e3, e4, e5⟩ := qj; exact ⟨b, ws, e1, e2, back e3, e4, e5⟩
    | x c => rw [hs] at qj; exact qj
theorem sim_in_F {p : Addr} {o : HO} (s : Sim ξ F0 (upd H0 p o) env σ F H) (h : F0 p = none) (hp : ¬ Pl o := by exact npl_lst) : F p = none := by
  cases z : F p with
  | none => rfl
  | some u =>
    rcases s.n p u z with q | q | ⟨q, r⟩
    · rw [h] at q; cases q
    · rw [upd_same] at q; cases q
    · rw [upd_same] at r; cases r; exact absurd q hp
/-- where the list that is made stands, between two turns -/
structure LcAt (ξ : Addr × Nat) (F0 H0 : Hp) (σ : St) (F1 H1 : Hp) (e1 : En) (vs : List Nat) (p : Addr) (i : Nat) (e : En) (acc : List D) (H' : Hp) : Prop where
  ex : ∃ xs F', Sim ξ F0 H0 e (wipe σ vs) F' H' ∧ Same F1 F' ∧ F' p = none ∧ H' p = some (.lst xs) ∧ RpAll F' xs acc
  len : acc.length ≤ i
  own : ∀ i, (gt e i).sp = true → (gt e1 i).sp = true ∧ i ∉ vs
  same : Same H1 H'
theorem se_lc {wi : TI} {g : TG} {tq : TT} {te : TE} {src : Iv} {bd : Bv} {c : Tv} {f : Ev} {vs : List Nat} (hi : SI ξ W cr wi src) (hg : SGw ξ g bd vs) (hbn : BN bd) (hc : ST ξ W0 cr tq c) (hcn : NN c) (hf : SE ξ W0 cr te f) (hfn : NN f) :
    SE ξ W cr (tLc wi g tq te vs) (lcE src bd c f vs) := fun F0 H0 env σ F H Qq s ne ok er => by
  have un : lcE src bd c f vs env = match src env with
    | .ok ds e => if ds.length ≤ LIM ∧ ∀ i ∈ vs, (gt e i).own = false then match lcL bd c f vs ds [] (wipeE e vs) with
        | .ok es e' => .ok (.f es) (giveE e e' vs)
        | _ => .no
      else .no
    | .err c e => .err c e
    | .no => .no := rfl
  refine hi F0 H0 env σ F H _ s (fun z => ne (by rw [un]; simp only [z])) (fun ds e1 h1 J F1 H1 s1 f1 g1 it => ?_) fun c e1 h1 => er c e1 (by rw [un]; simp only [h1])
  simp only [h1] at un
  by_cases hl : ds.length ≤ LIM ∧ ∀ i ∈ vs, (gt e1 i).own = false
  · rw [if_pos hl] at un
    intro Dl hD
    have s2 : Sim ξ F0 H0 e1 σ F1 (upd H1 Dl (.lst [])) := s1.grow (Gr.cell s1.fh hD)
    have no1 : ∀ i, (gt e1 i).sp = true → σ[i]? ≠ some (some (.ref Dl)) := not_sp s1 hD
    have fD : F1 Dl = none := s1.fh.free hD
    have f0D : F0 Dl = none := s1.f.free fD
    have hD0 : H0 Dl = none := s1.h.free hD
    cases hr : lcL bd c f vs ds [] (wipeE e1 vs) with
    | err x e' => simp only [hr] at un; exact absurd un ne
    | no => simp only [hr] at un; exact absurd un ne
    | ok es ef =>
      simp only [hr] at un
      have wown : ∀ {e' : En}, (∀ i, (gt e' i).sp = true → (gt e1 i).sp = true) → ∀ i, (gt (wipeE e' vs) i).sp = true → (gt e1 i).sp = true ∧ i ∉ vs := fun {e'} ho i hi => ⟨ho i (wipe_own hi), fun z => by rw [gt_wipe, if_pos z] at hi; cases hi⟩
      refine ⟨fun i m H' => m = ds.length - i ∧ i ≤ ds.length ∧ ∃ e acc, LcAt ξ F0 H0 σ F1 H1 e1 vs Dl i e acc H' ∧ lcL bd c f vs (ds.drop i) acc e = .ok es ef,
        ⟨ds.length, rfl, Nat.zero_le _, wipeE e1 vs, [], ⟨⟨[], F1, sim_wipe s2 (wipe_length σ vs) (fun j hj => wipe_ne hj), .refl _, fD, upd_same, .nil⟩, Nat.le_refl _, wown fun _ z => z, same_new hD⟩, hr⟩, ?_⟩
      rintro i m H' ⟨rfl, hi', e, acc, ⟨⟨xs, F', s', f', fD', hDx, hxs⟩, hacc, hown, hsame⟩, hw⟩
      obtain ⟨go, st⟩ := it F' H' f' s'.fh s'.h
      have noD : ∀ {e' : En}, (∀ i, (gt e' i).sp = true → (gt e1 i).sp = true ∧ i ∉ vs) → ∀ i, (gt e' i).sp = true → (wipe σ vs)[i]? ≠ some (some (.ref Dl)) := fun {e'} ho i hi z => by
        obtain ⟨q1, q2⟩ := ho i hi
        rw [wipe_ne q2] at z
        exact no1 i q1 z
      by_cases hlt : i < ds.length
      · have hd : ds[i]? = some ds[i] := List.getElem?_eq_getElem hlt
        rw [List.drop_eq_getElem_cons hlt, lcL_cons] at hw
        obtain ⟨q1, q2⟩ := go i _ hd
        refine .inr ⟨q1, fun H2 => ∃ e acc, LcAt ξ F0 H0 σ F1 H1 e1 vs Dl (i + 1) e acc H2 ∧ lcL bd c f vs (ds.drop (i + 1)) acc e = .ok es ef, fun H2 q => ⟨ds.length - (i + 1), by omega, rfl, hlt, q⟩, fun x H2 hy => ?_⟩
        obtain ⟨F2, gr, rp⟩ := q2 x H2 hy
        cases hbd : bd ds[i] e with
        | none => simp only [hbd] at hw; cases hw
        | some e2 =>
          simp only [hbd] at hw
          have fD2 : F2 Dl = none := none_of gr fD' hDx npl_lst
          have hD2 : H2 Dl = some (.lst xs) := gr.h _ _ hDx
          have sIn : Sim ξ F0 (upd H0 Dl (.lst xs)) e (wipe σ vs) F2 H2 := sim_in (s'.grow gr) hD0 fD2 hD2 fun i hi => noD hown i (own_sp hi)
          refine hg F0 (upd H0 Dl (.lst xs)) e e2 (wipe σ vs) F2 H2 x _ _ sIn rp hbd fun σ3 s3 w3 => ?_
          have wid : wipe σ3 vs = wipe σ vs := by
            rw [w3]
            refine List.ext_getElem? (fun j => ?_)
            rw [wipe_get, wipe_length]
            by_cases hj : j ∈ vs ∧ j < σ.length
            · rw [if_pos hj, wipe_get, if_pos hj]
            · rw [if_neg hj]
          refine ⟨wid, ?_⟩
          have l3 : (wipe σ vs).length = σ3.length := by rw [← wid, wipe_length]
          have at3 : ∀ j, j ∉ vs → (wipe σ vs)[j]? = σ3[j]? := fun j hj => by rw [← wid, wipe_ne hj]
          have f2 : Same F1 F2 := f'.trans gr.f
          have own2 : ∀ i, (gt e2 i).sp = true → (gt e1 i).sp = true := fun i hi => (hown i (hbn _ _ _ hbd i hi)).1
          have fin : ∀ {e3 : En} {F3 H3 : Hp}, Sim ξ F0 (upd H0 Dl (.lst xs)) e3 σ3 F3 H3 → (∀ i, (gt e3 i).sp = true → (gt e1 i).sp = true) → Sim ξ F0 H0 (wipeE e3 vs) (wipe σ vs) F3 H3 ∧ F3 Dl = none ∧ H3 Dl = some (.lst xs) := fun {e3 F3 H3} sx ho =>
            ⟨sim_out (sim_wipe sx l3 at3) hD0 (noD (wown ho)), sim_in_F sx f0D, sx.h _ _ upd_same⟩
          refine hc F0 _ e2 σ3 F2 H2 _ s3 (fun z => by simp only [z] at hw; cases hw) (fun b e3 h3 F3 H3 s3' f3 g3 => ?_) fun x e3 h3 => by simp only [h3] at hw; cases hw
          simp only [h3] at hw
          have own3 : ∀ i, (gt e3 i).sp = true → (gt e1 i).sp = true := fun i hi => own2 i (hcn _ _ _ h3 i hi)
          cases b with
          | false =>
            obtain ⟨sf, fd3, hd3⟩ := fin s3' own3
            exact ⟨wipeE e3 vs, acc, ⟨⟨xs, F3, sf, f2.trans f3, fd3, hd3, RpAll.mono (gr.f.trans f3) hxs⟩, by omega, wown own3, hsame.trans (gr.h.trans g3)⟩, hw⟩
          | true =>
            simp only at hw
            refine se_arg (m := true) hf s3' (fun z => by simp only [z] at hw; cases hw) (fun a e4 h4 y F4 H4 s4 f4 g4 a4 => ?_) fun x e4 h4 => by simp only [h4] at hw; cases hw
            simp only [h4] at hw
            have own4 : ∀ i, (gt e4 i).sp = true → (gt e1 i).sp = true := fun i hi => own3 i (nn_arg hfn _ _ _ h4 i hi)
            obtain ⟨sf, fd4, hd4⟩ := fin s4 own4
            have hy : Rp F4 y a.d := by
              cases a with
              | s d => exact a4
              | c d => exact (argE_s h4).elim
            have hx4 : RpAll F4 xs acc := RpAll.mono ((gr.f.trans f3).trans f4) hxs
            have hsame4 : Same H1 (upd H4 Dl (.lst (xs ++ [y]))) := fun b o z => by
              rw [upd_ne (ne_of_none z hD)]
              exact g4 _ _ (g3 _ _ (gr.h _ _ (hsame _ _ z)))
            refine ⟨xs, hd4, by rw [hx4.length, ← LIM_eq]; omega, wipeE e4 vs, acc ++ [a.d], ⟨⟨xs ++ [y], F4, sim_free sf fd4 hD0 (fun i hi => noD (wown own4) i (own_sp hi)), (f2.trans f3).trans f4, fd4, upd_same, hx4.append (.cons hy .nil)⟩, by rw [List.length_append, List.length_singleton]; omega, wown own4, hsame4⟩, hw⟩
      · have : i = ds.length := by omega
        subst this
        rw [List.drop_eq_nil_of_le (Nat.le_refl _)] at hw
        obtain ⟨rfl, rfl⟩ : es = acc ∧ ef = e := by
          have hw' : R.ok acc e = R.ok es ef := hw
          injection hw' with a b
          exact ⟨a.symm, b.symm⟩
        have hlen : e1.length = ef.length := by rw [s2.len, s'.len, wipe_length]
        refine .inl ⟨st, ok (.f es) _ un (.ref Dl) F' H' (sim_give s' s2 (wipe_length σ vs) (fun j hj => wipe_ne hj) f' hl.2) (f1.trans f') (g1.trans hsame) ⟨Dl, xs, rfl, fD', hD0, hDx, hxs, fun j hj => ?_⟩⟩
        rw [gt_give e1 ef j hlen] at hj
        by_cases hjv : j ∈ vs
        · rw [if_pos hjv, hl.2 j hjv] at hj; cases hj
        · rw [if_neg hjv] at hj
          exact no1 j (hown j (own_sp hj)).1
  · rw [if_neg hl] at un; exact absurd un ne
theorem gt_giveA (env e : En) (i : Nat) : ∀ vs, gt (giveE env e vs) i = if i ∈ vs ∧ i < e.length then gt env i else gt e i
  | [] => by simp [giveE]
  | v :: vs => by
    unfold giveE
    rw [gt_set, gt_giveA env e i vs, giveE_len]
    by_cases h1 : v = i
    · subst h1
      by_cases h2 : v < e.length <;> simp [h2]
    · have h3 : ¬ i = v := fun z => h1 z.symm
      rw [if_neg (fun z => h1 z.1)]
      simp [h3]
theorem nn_lc {src : Iv} {bd : Bv} {c : Tv} {f : Ev} {vs : List Nat} (hs : NN src) (hb : BN bd) (hc : NN c) (hf : NN f) : NN (lcE src bd c f vs) := fun env a env' q i hi => by
  unfold lcE at q
  cases h1 : src env with
  | ok ds e =>
    simp only [h1] at q
    split at q
    · cases h2 : lcL bd c f vs ds [] (wipeE e vs) with
      | ok es e' =>
        simp only [h2] at q; cases q
        rw [gt_giveA] at hi
        by_cases hv : i ∈ vs ∧ i < e'.length
        · rw [if_pos hv] at hi; exact hs env _ _ h1 i hi
        · rw [if_neg hv] at hi; exact hs env _ _ h1 i (wipe_own (nn_lcL hb hc hf ds [] _ _ _ h2 i hi))
      | err c e' => simp only [h2] at q; cases q
      | no => simp only [h2] at q; cases q
    · cases q
  | err c e => simp only [h1] at q; cases q
  | no => simp only [h1] at q; cases q
end
end
end Q
namespace Q
noncomputable section
open PySem L2
/-! ### the rules: expressions over lists and tuples, comprehensions -/
def teOf (ξ : Addr × Nat) (W : WX) (cr : Nat → Value) (f : Ev) : TE := fun σ H Qq => ∃ F0 H0 env F, Sim ξ F0 H0 env σ F H ∧ f env ≠ .no ∧
  (∀ vl env', f env = .ok vl env' → ∀ v F' H', Sim ξ F0 H0 env' σ F' H' → Same F F' → Same H H' → VlOk H0 env' σ F' H' v vl → Qq v H') ∧
  (∀ c env', f env = .err c env' → ∀ F' H', Sim ξ F0 H0 env' σ F' H' → W (cr c) none σ H')
def ttOf (ξ : Addr × Nat) (W : WX) (cr : Nat → Value) (f : Tv) : TT := fun σ H Qq => ∃ F0 H0 env F, Sim ξ F0 H0 env σ F H ∧ f env ≠ .no ∧
  (∀ b env', f env = .ok b env' → ∀ F' H', Sim ξ F0 H0 env' σ F' H' → Same F F' → Same H H' → Qq b H') ∧
  (∀ c env', f env = .err c env' → ∀ F' H', Sim ξ F0 H0 env' σ F' H' → W (cr c) none σ H')
def tgOf (ξ : Addr × Nat) (bd : Bv) (vs : List Nat) : TG := fun v σ H Qq => ∃ F0 H0 e e' F d, Sim ξ F0 H0 e σ F H ∧ Rp F v d ∧ bd d e = some e' ∧ ∀ σ', Sim ξ F0 H0 e' σ' F H → wipe σ' vs = wipe σ vs → Qq σ' H
def tsOf (ξ : Addr × Nat) (W : WX) (cr : Nat → Value) (f : Sv) : TS := fun De σ H => ∃ F0 H0 env F, Sim ξ F0 H0 env σ F H ∧ f env ≠ .no ∧
  (∀ e', f env = .nx e' → ∀ σ' F' H', Sim ξ F0 H0 e' σ' F' H' → Same F F' → De.nx σ' H') ∧
  (∀ vl, f env = .rt vl → ∀ v F' H', Res F0 H0 F' H' v vl → De.rt v H') ∧
  (∀ e', f env = .bk e' → ∀ σ' F' H', Sim ξ F0 H0 e' σ' F' H' → Same F F' → De.bk σ' H') ∧
  (∀ e', f env = .ct e' → ∀ σ' F' H', Sim ξ F0 H0 e' σ' F' H' → Same F F' → De.ct σ' H') ∧
  (∀ c e', f env = .err c e' → ∀ σ' F' H', Sim ξ F0 H0 e' σ' F' H' → W (cr c) none σ' H')
section
variable {X : Cx} {ξ : Addr × Nat} {W : WX} {cr : Nat → Value} {pos : Pos} {a b c e : Expr} {fa fb fc f : Ev} {es : List Expr}
theorem se_of : SE ξ W cr (teOf ξ W cr f) f := fun F0 H0 env σ F H Qq s ne ok er => ⟨F0, H0, env, F, s, ne, ok, er⟩
theorem st_of {f : Tv} : ST ξ W cr (ttOf ξ W cr f) f := fun F0 H0 env σ F H Qq s ne ok er => ⟨F0, H0, env, F, s, ne, ok, er⟩
theorem sg_of {bd : Bv} {vs : List Nat} : SGw ξ (tgOf ξ bd vs) bd vs := fun F0 H0 e e' σ F H v d Qq s r h q => ⟨F0, H0, e, e', F, d, s, r, h, q⟩
theorem ss_of {f : Sv} : SS ξ W cr (tsOf ξ W cr f) f := fun F0 H0 env σ F H De s ne nx rt bk ct er => ⟨F0, H0, env, F, s, ne, nx, rt, bk, ct, er⟩
theorem JE.pe (h : JE X ξ W cr e f) : PE X e (teOf ξ W cr f) := by
  obtain ⟨te, h1, h2, _⟩ := h
  exact ⟨fun pins s σ H Q I ⟨F0, H0, env, F, q1, q2, q3, q4⟩ => h1.run pins s σ H Q I (h2 F0 H0 env σ F H Q q1 q2 q3 q4)⟩
theorem JT.pt {f : Tv} (h : JT X ξ W cr e f) : PT X e (ttOf ξ W cr f) := by
  obtain ⟨te, h1, h2, _⟩ := h
  exact ⟨fun pins s σ H Q I ⟨F0, H0, env, F, q1, q2, q3, q4⟩ => h1.run pins s σ H Q I (h2 F0 H0 env σ F H Q q1 q2 q3 q4)⟩
theorem JSs.ps {sts : List Stmt} {f : Sv} (h : JSs X ξ W cr sts f) : PSs X sts (tsOf ξ W cr f) := by
  obtain ⟨te, h1, h2⟩ := h
  exact ⟨fun pins s σ H De I ⟨F0, H0, env, F, q1, q2, q3, q4, q5, q6, q7⟩ => h1.run pins s σ H De I (h2 F0 H0 env σ F H De q1 q2 q3 q4 q5 q6 q7)⟩
def JGw (X : Cx) (ξ : Addr × Nat) (tg : Expr) (bd : Bv) (vs : List Nat) : Prop := (∃ g, PG X tg g ∧ SGw ξ g bd vs) ∧ BN bd
def JGsw (X : Cx) (ξ : Addr × Nat) (tgs : List Expr) (bs : List Bv) (vs : List Nat) : Prop := (∃ g, PGs X tgs g ∧ SGsw ξ g (bdA bs) vs) ∧ ∀ b ∈ bs, BN b
theorem JGw.pg {tg : Expr} {bd : Bv} {vs : List Nat} (h : JGw X ξ tg bd vs) : PG X tg (tgOf ξ bd vs) := by
  obtain ⟨⟨g, h1, h2⟩, _⟩ := h
  refine ⟨fun pins s σ H v u Qq I r hw => ?_⟩
  obtain ⟨F0, H0, e, e', F, d, q1, q2, q3, q4⟩ := hw
  exact h1.run pins s σ H v u Qq I r (h2 F0 H0 e e' σ F H v d Qq q1 q2 q3 q4)
theorem jgw_name (i : Nat) {x : Str} {vs : List Nat} (hN : X.N.Nodup) (hi : X.N[i]? = some x) (hx : Loc X.env.scope x) (hv : i ∈ vs) (hf : X.fn x = true ∨ X.env.scope.names.lookup x = some .local := by first | exact .inl rfl | exact .inr rfl | assumption) : JGw X ξ (.Name x pos) (bdN i) vs :=
  ⟨⟨_, pg_name hN hi hx hf, sgw_name hv⟩, bn_name⟩
theorem jgsw_nil {vs : List Nat} : JGsw X ξ [] [] vs := ⟨⟨_, pgs_nil, sgsw_nil⟩, fun b h => by cases h⟩
theorem jgsw_cons {t : Expr} {ts : List Expr} {b : Bv} {bs : List Bv} {vs : List Nat} (h : JGw X ξ t b vs) (h' : JGsw X ξ ts bs vs) (hs : (assignEach (t :: ts) X.env).map (·.2) = assign t X.env :: (assignEach ts X.env).map (·.2) := by rfl) : JGsw X ξ (t :: ts) (b :: bs) vs := by
  obtain ⟨⟨g, h1, h2⟩, h3⟩ := h
  obtain ⟨⟨g', k1, k2⟩, k3⟩ := h'
  refine ⟨⟨_, pgs_cons h1 k1 hs, sgsw_cons h2 k2⟩, fun x hx => ?_⟩
  rcases List.mem_cons.mp hx with rfl | hy
  · exact h3
  · exact k3 x hy
theorem jgw_tup {k : Nat} {bs : List Bv} {vs : List Nat} (hc : X.calm = true) (h : JGsw X ξ es bs vs)
    (hn : (assignEach es X.env).length = bs.length := by rfl) (hst : (assignEach es X.env).findIdx? (·.1) = none := by rfl) : JGw X ξ (.Tuple es k pos) (bdT bs) vs := by
  obtain ⟨⟨g, h1, h2⟩, h3⟩ := h
  exact ⟨⟨_, pg_tup hc h1 hn hst, sgw_tup h2⟩, bn_tup h3⟩
theorem jg_name (i : Nat) {x : Str} (hN : X.N.Nodup) (hi : X.N[i]? = some x) (hx : Loc X.env.scope x) (hf : X.fn x = true ∨ X.env.scope.names.lookup x = some .local := by first | exact .inl rfl | exact .inr rfl | assumption) : JG X ξ (.Name x pos) (bdN i) := ⟨_, pg_name hN hi hx hf, sg_name⟩
theorem jgs_nil : JGs X ξ [] (bdA []) := ⟨_, pgs_nil, sgs_nil⟩
theorem jgs_cons {t : Expr} {ts : List Expr} {b : Bv} {bs : List Bv} (h : JG X ξ t b) (h' : JGs X ξ ts (bdA bs)) (hs : (assignEach (t :: ts) X.env).map (·.2) = assign t X.env :: (assignEach ts X.env).map (·.2) := by rfl) : JGs X ξ (t :: ts) (bdA (b :: bs)) := let ⟨_, a1, a2⟩ := h; let ⟨_, b1, b2⟩ := h'; ⟨_, pgs_cons a1 b1 hs, sgs_cons a2 b2⟩
theorem jg_tup {k : Nat} {bs : List Bv} (hc : X.calm = true) (h : JGs X ξ es (bdA bs))
    (hn : (assignEach es X.env).length = bs.length := by rfl) (hst : (assignEach es X.env).findIdx? (·.1) = none := by rfl) : JG X ξ (.Tuple es k pos) (bdT bs) := let ⟨_, a1, a2⟩ := h; ⟨_, pg_tup hc a1 hn hst, sg_tup a2⟩
theorem ji_list {tg : Expr} (h : JE X ξ W cr e f) : JI X ξ W cr tg e (itL f) := let ⟨_, a1, a2, a3⟩ := h; ⟨_, pi_list a1, si_list a2, nn_itL a3⟩
theorem ji_tup {tg : Expr} (h : JE X ξ W cr e f) : JI X ξ W cr tg e (itT f) := let ⟨_, a1, a2, a3⟩ := h; ⟨_, pi_tup a1, si_tup a2, nn_itT a3⟩
def itQ (f : Ev) : Iv := fun env => match itT f env with
  | .no => itL f env
  | r => r
theorem ji_seq {tg : Expr} (h : JE X ξ W cr e f) : JI X ξ W cr tg e (itQ f) := by
  obtain ⟨te, a1, a2, a3⟩ := h
  have p1 : PI X tg e (iTup X.K te) := pi_tup a1
  have p2 : PI X tg e (iList X.K te) := pi_list a1
  refine ⟨fun σ H R => iTup X.K te σ H R ∨ iList X.K te σ H R, ⟨fun pins s σ H R I h => h.elim (p1.run pins s σ H R I) (p2.run pins s σ H R I)⟩, fun F0 H0 env σ F H Rr s ne ok er => ?_, fun env a env' q i hi => ?_⟩
  · have un : itQ f env = match itT f env with
      | .no => itL f env
      | r => r := rfl
    by_cases ht : itT f env = .no
    · have e1 : itQ f env = itL f env := by rw [un, ht]
      exact .inr (si_list a2 F0 H0 env σ F H Rr s (by rw [← e1]; exact ne) (fun ds e q => ok ds e (e1.trans q)) fun c e q => er c e (e1.trans q))
    · have e1 : itQ f env = itT f env := by
        rw [un]
        cases q : itT f env <;> first | rfl | exact absurd q ht
      exact .inl (si_tup a2 F0 H0 env σ F H Rr s ht (fun ds e q => ok ds e (e1.trans q)) fun c e q => er c e (e1.trans q))
  · unfold itQ at q
    cases h1 : itT f env with
    | ok ds e => simp only [h1] at q; exact nn_itT a3 env a env' (h1.trans q) i hi
    | err c e => simp only [h1] at q; cases q
    | no => simp only [h1] at q; exact nn_itL a3 env a env' q i hi
theorem ji_range1 {tg : Expr} {p : Pos} (hg : Gl X "range") (hm : X.mg "range" = none) (h : JE X ξ W cr e f) (hs : starEach [e] X.env = [(false, eval e X.env)] := by rfl) : JI X ξ W cr tg (.Call (.Name "range" p) [e] [] pos) (itR1 f) :=
  let ⟨_, a1, a2, a3⟩ := h; ⟨_, pi_range1 hg hm (pa_cons a1 pa_nil hs) hs, si_range1 a2, nn_itR1 a3⟩
theorem ji_range2 {tg : Expr} {p : Pos} (hg : Gl X "range") (hm : X.mg "range" = none) (h : JE X ξ W cr a fa) (h' : JE X ξ W cr b fb) (hs : starEach [a, b] X.env = [(false, eval a X.env), (false, eval b X.env)] := by rfl) (hs2 : starEach [b] X.env = [(false, eval b X.env)] := by rfl) :
    JI X ξ W cr tg (.Call (.Name "range" p) [a, b] [] pos) (itR2 fa fb) :=
  let ⟨_, a1, a2, a3⟩ := h; let ⟨_, b1, b2, b3⟩ := h'; ⟨_, pi_range2 hg hm (pa_cons a1 (pa_cons b1 pa_nil hs2) (by rw [hs, hs2])) hs hs2, si_range2 a2 b2, nn_itR2 a3 b3⟩
def JTs (X : Cx) (ξ : Addr × Nat) (W : WX) (cr : Nat → Value) (ifs : List Expr) (c : Tv) : Prop := PTs X ifs (ttOf ξ W cr c) ∧ NN c
theorem jts_nil : JTs X ξ W cr [] tt := by
  refine ⟨⟨fun pins s σ H Q I hw => pts_nil.run pins s σ H Q I ?_⟩, nn_ok true⟩
  obtain ⟨F0, H0, env, F, q1, q2, q3, q4⟩ := hw
  exact q3 true env rfl F H q1 (.refl _) (.refl _)
theorem jts_one {c : Expr} {t : Tv} (h : JT X ξ W cr c t) : JTs X ξ W cr [c] t := ⟨pts_one h.pt, h.choose_spec.2.2⟩
theorem je_lc {elt tg iter : Expr} {ifs : List Expr} {scope : Scope} {own : List (Str × Nat)} {src : Iv} {bd : Bv} {t : Tv} (hc : X.calm = true) (hN : X.N.Nodup) (hi : JI X ξ W cr tg iter src) (ok : BlkOk X.N X.env.scope scope own)
    (hg : ∀ (s : Shared) (H : Hp) (C : Addr) (cl : List (Str × Addr)) (fp : List Addr), JGw (X.blk s H scope (compEnvC scope cl C X.env) fp) ξ tg bd (own.map (·.2)))
    (ht : ∀ (s : Shared) (H : Hp) (C : Addr) (cl : List (Str × Addr)) (fp : List Addr), JTs (X.blk s H scope (compEnvC scope cl C X.env) fp) ξ W0 cr ifs t)
    (he : ∀ (s : Shared) (H : Hp) (C : Addr) (cl : List (Str × Addr)) (fp : List Addr), JE (X.blk s H scope (compEnvC scope cl C X.env) fp) ξ W0 cr elt f) (hs : ∀ x, foldedSetIterable iter X.env x = pure x := by intro _; rfl) :
    JE X ξ W cr (.ListComp elt [⟨tg, iter, ifs, 0⟩] scope pos) (lcE src bd t f (own.map (·.2))) := by
  obtain ⟨wi, i1, i2, i3⟩ := hi
  have bn : BN bd := (hg X.s_0 X.H_0 0 [] []).2
  have tn : NN t := (ht X.s_0 X.H_0 0 [] []).2
  have en : NN f := (he X.s_0 X.H_0 0 [] []).choose_spec.2.2
  exact ⟨_, pe_lc hc hN i1 ok (fun s H C cl fp => (hg s H C cl fp).pg) (fun s H C cl fp => (ht s H C cl fp).1) (fun s H C cl fp => (he s H C cl fp).pe) hs, se_lc i2 sg_of bn st_of tn se_of en, nn_lc i3 bn tn en⟩

/-! ### statements -/
theorem jss_nil : JSs X ξ W cr [] skipS := ⟨_, pss_nil, ss_skip⟩
theorem jss_cons {st : Stmt} {rest : List Stmt} {f g : Sv} (h : JS X ξ W cr st f) (h' : JSs X ξ W cr rest g) : JSs X ξ W cr (st :: rest) (seqS f g) := let ⟨_, a1, a2⟩ := h; let ⟨_, b1, b2⟩ := h'; ⟨_, pss_cons a1 b1, ss_seq a2 b2⟩
theorem jss_one {st : Stmt} {f : Sv} (h : JS X ξ W cr st f) : JSs X ξ W cr [st] f := let ⟨_, a1, a2⟩ := h; ⟨_, pss_one a1, a2⟩
theorem js_pass : JS X ξ W cr (.Pass pos) skipS := ⟨_, ps_pass, ss_skip⟩
theorem js_break : JS X ξ W cr (.Break pos) bkS := ⟨_, ps_break, ss_bk⟩
theorem js_continue : JS X ξ W cr (.Continue pos) ctS := ⟨_, ps_continue, ss_ct⟩
theorem js_set (i : Nat) {x : Str} {pos' : Pos} (hN : X.N.Nodup) (hi : X.N[i]? = some x) (hx : Loc X.env.scope x) (he : JE X ξ W cr e f) (hs : swapsWith e (some (.Name x pos')) pos.line X.env = pure false := by rfl)
    (hf : X.fn x = true ∨ X.env.scope.names.lookup x = some .local := by first | exact .inl rfl | exact .inr rfl | assumption) : JS X ξ W cr (.Assign [.Name x pos'] e pos) (asgS i f) := let ⟨_, a1, a2, _⟩ := he; ⟨_, ps_set hN hi hx a1 hs hf, ss_asg a2⟩
theorem js_setLc (i : Nat) {y : Str} {py spos : Pos} {elt tg iter : Expr} {ifs : List Expr} {scope : Scope} {own : List (Str × Nat)} {src : Iv} {bd : Bv} {t : Tv} (hc : X.calm = true) (hN : X.N.Nodup) (hy : X.N[i]? = some y) (hyl : X.env.scope.names.lookup y = some .local)
    (hsw : swapsWith (.ListComp elt [⟨tg, iter, ifs, 0⟩] scope pos) (some (.Name y py)) spos.line X.env = pure true) (hi : JI X ξ W cr tg iter src) (ok : BlkOk X.N X.env.scope scope own)
    (hg : ∀ (s : Shared) (H : Hp) (C : Addr) (cl : List (Str × Addr)) (fp : List Addr), JGw (X.blk s H scope (compEnvC scope cl C X.env) fp) ξ tg bd (own.map (·.2)))
    (ht : ∀ (s : Shared) (H : Hp) (C : Addr) (cl : List (Str × Addr)) (fp : List Addr), JTs (X.blk s H scope (compEnvC scope cl C X.env) fp) ξ W0 cr ifs t)
    (he : ∀ (s : Shared) (H : Hp) (C : Addr) (cl : List (Str × Addr)) (fp : List Addr), JE (X.blk s H scope (compEnvC scope cl C X.env) fp) ξ W0 cr elt f) (hs : ∀ x, foldedSetIterable iter X.env x = pure x := by intro _; rfl) :
    JS X ξ W cr (.Assign [.Name y py] (.ListComp elt [⟨tg, iter, ifs, 0⟩] scope pos) spos) (asgS i (lcE src bd t f (own.map (·.2)))) := by
  obtain ⟨wi, i1, i2, i3⟩ := hi
  have bn : BN bd := (hg X.s_0 X.H_0 0 [] []).2
  have tn : NN t := (ht X.s_0 X.H_0 0 [] []).2
  have en : NN f := (he X.s_0 X.H_0 0 [] []).choose_spec.2.2
  exact ⟨_, ps_setLc hc hN hy hyl hsw i1 ok (fun s H C cl fp => (hg s H C cl fp).pg) (fun s H C cl fp => (ht s H C cl fp).1) (fun s H C cl fp => (he s H C cl fp).pe) hs, ss_asg (se_lc i2 sg_of bn st_of tn se_of en)⟩
theorem js_unp {tg : Expr} {bd : Bv} (he : JE X ξ W cr e f) (hg : JG X ξ tg bd) (hs : swapsWithSole [tg] e pos.line X.env = pure false := by rfl) (hw : swappedStores [tg] e X.env = pure none := by rfl) (h1 : (assignEach [tg] X.env).map (·.2) = [assign tg X.env] := by rfl) : JS X ξ W cr (.Assign [tg] e pos) (unpS f bd) :=
  let ⟨_, a1, a2, _⟩ := he; let ⟨_, b1, b2⟩ := hg; ⟨_, ps_asg a1 b1 hs hw h1, ss_unp a2 b2⟩
theorem js_expr (he : JE X ξ W cr e f) (hs : swapsWith e none pos.line X.env = pure false := by rfl) : JS X ξ W cr (.Expr e pos) (dropS f) := let ⟨_, a1, a2, _⟩ := he; ⟨_, ps_expr a1 hs, ss_drop a2⟩
theorem js_ret (he : JE X ξ W cr e f) : JS X ξ W cr (.Return (some e) pos) (retS f) := let ⟨_, a1, a2, _⟩ := he; ⟨_, ps_ret a1, ss_ret a2⟩
theorem js_retN : JS X ξ W cr (.Return none pos) retN := ⟨_, ps_retN, ss_retN⟩
theorem js_if {c : Expr} {s1 s2 : List Stmt} {t : Tv} {f g : Sv} (hc : JT X ξ W cr c t) (ha : JSs X ξ W cr s1 f) (hb : JSs X ξ W cr s2 g) : JS X ξ W cr (.If c s1 s2 pos) (ifS t f g) := let ⟨_, c1, c2, _⟩ := hc; let ⟨_, a1, a2⟩ := ha; let ⟨_, b1, b2⟩ := hb; ⟨_, ps_if c1 a1 b1, ss_if c2 a2 b2⟩
theorem js_while {c : Expr} {body : List Stmt} {t : Tv} {f : Sv} (hp : PassesOwn (model X.prog X.w) X.A X.env X.xe) (hc : JT X ξ W cr c t) (hb : JSs X ξ W cr body f) : JS X ξ W cr (.While c body [] pos) (whileS t f) := let ⟨_, c1, c2, _⟩ := hc; let ⟨_, b1, b2⟩ := hb; ⟨_, ps_while hp c1 b1, ss_while c2 b2⟩
theorem js_for {tg iter : Expr} {body : List Stmt} {src : Iv} {bd : Bv} {g : Sv} (hp : PassesOwn (model X.prog X.w) X.A X.env X.xe) (hc : X.calm = true) (hi : JI X ξ W cr tg iter src) (hg : JG X ξ tg bd) (hb : JSs X ξ W cr body g) (hs : ∀ x, foldedSetIterable iter X.env x = pure x := by intro _; rfl) : JS X ξ W cr (.For tg iter body [] pos) (forS src bd g) :=
  let ⟨_, i1, i2, _⟩ := hi; let ⟨_, g1, g2⟩ := hg; let ⟨_, b1, b2⟩ := hb; ⟨_, ps_for hp hc i1 g1 b1 hs, ss_for i2 g2 b2⟩
theorem js_app (i : Nat) {x : Str} {apos p pos' : Pos} (hN : X.N[i]? = some x := by rfl) (hv : Vis X.env.scope x := by first | exact Or.inl rfl | exact Or.inr (Or.inl rfl) | exact Or.inr (Or.inr rfl)) (he : JE X ξ W cr e f) (hd : (x == ("__debug__" : Str)) = false := by decide)
    (hcd : (x == ("__classdict__" : Str)) = false := by decide) (hs1 : starEach [e] X.env = (false, eval e X.env) :: starEach [] X.env := by rfl)
    (hb : ∀ {tr : TE} {ta : TA}, PE X (.Name x p) tr → PA X [e] ta → PE X (.Call (.Attribute (.Name x p) "append" apos) [e] [] pos') (tBM X.K "list" rAppend tr ta))
    (hs : swapsWith (.Call (.Attribute (.Name x p) "append" apos) [e] [] pos') none pos.line X.env = pure false := by rfl) : JS X ξ W cr (.Expr (.Call (.Attribute (.Name x p) "append" apos) [e] [] pos') pos) (appS i f) := by
  obtain ⟨_, a1, a2, _⟩ := he
  exact ⟨_, ps_expr (hb (pv i hN hv hd hcd) (pa_cons a1 pa_nil hs1)) hs, ss_app a2⟩
theorem js_setL (i : Nat) {x : Str} {ix : Expr} {fi : Ev} {p spos : Pos} (hN : X.N[i]? = some x := by rfl) (hv : Vis X.env.scope x := by first | exact Or.inl rfl | exact Or.inr (Or.inl rfl) | exact Or.inr (Or.inr rfl)) (hi : JE X ξ W cr ix fi) (he : JE X ξ W cr e f) (hd : (x == ("__debug__" : Str)) = false := by decide)
    (hcd : (x == ("__classdict__" : Str)) = false := by decide) (hg : ∀ {to ti : TE}, PE X (.Name x p) to → PE X ix ti → PG X (.Subscript (.Name x p) ix spos) (gSub to ti rSetL))
    (hs : swapsWithSole [.Subscript (.Name x p) ix spos] e pos.line X.env = pure false := by rfl) (hw : swappedStores [.Subscript (.Name x p) ix spos] e X.env = pure none := by rfl) (h1 : (assignEach [.Subscript (.Name x p) ix spos] X.env).map (·.2) = [assign (.Subscript (.Name x p) ix spos) X.env] := by rfl) : JS X ξ W cr (.Assign [.Subscript (.Name x p) ix spos] e pos) (setS i fi f) := by
  obtain ⟨_, a1, a2, _⟩ := he
  obtain ⟨_, b1, b2, _⟩ := hi
  exact ⟨_, ps_asg a1 (hg (pv i hN hv hd hcd) b1) hs hw h1, ss_setL a2 b2⟩

/-! ### defs and their calls -/
end
inductive Ro where
  | ok (v : Vl) | err (c : Nat) | no
abbrev Fv := List Sl → Ro
def runDef (n : Nat) (body : Sv) : Fv := fun sl => match body (sl ++ List.replicate (n - sl.length) .un) with
  | .rt v => .ok v
  | .nx _ => .ok (.v .none)
  | .err c _ => .err c
  | _ => .no
def Ar.sl : Ar → Sl
  | .s d => .v d
  | .c (.list ds) => .b ds
  | .c d => .v d
def callE (m : Fv) (fs : List (Bool × Ev)) : Ev := fun env => match args fs env with
  | .ok as e => match m (as.map Ar.sl) with
    | .ok vl => .ok vl e
    | .err c => .err c e
    | .no => .no
  | .err c e => .err c e
  | .no => .no
/-- the arguments as a callee finds them -/
def SlA (F H : Hp) (v : V) : Sl → Prop
  | .v d => Rp F v d
  | .b ds => ∃ a vs, v = .ref a ∧ Rd H a (.lst vs) ∧ RpAll F vs ds
  | _ => False
inductive SlsA (F H : Hp) : List V → List Sl → Prop
  | nil : SlsA F H [] []
  | cons {v : V} {x : Sl} {vs : List V} {xs : List Sl} : SlA F H v x → SlsA F H vs xs → SlsA F H (v :: vs) (x :: xs)
def spOf (cr : Nat → Value) (np : Nat) (m : Fv) : Sp := fun vs H Qq E => ∃ F sl, vs.length = np ∧ Same F H ∧ SlsA F H vs sl ∧ m sl ≠ .no ∧ (∀ vl, m sl = .ok vl → ∀ v F' H', Res F H F' H' v vl → Qq v H') ∧ (∀ c, m sl = .err c → ∀ H', Same H H' → E (cr c) none H')
section
variable {ξ : Addr × Nat} {F0 H0 F H F' H' F2 H2 : Hp} {env env' : En} {σ : St} {v : V} {d : D} {W : WX} {cr : Nat → Value}
theorem args_len : ∀ {fs : List (Bool × Ev)} {env e : En} {as : List Ar}, args fs env = .ok as e → as.length = fs.length
  | [], _, _, _, h => by cases h; rfl
  | (m, f) :: r, env, e, as, h => by
    have un : args ((m, f) :: r) env = match argE m f env with
      | .ok a e => match args r e with
        | .ok as e' => .ok (a :: as) e'
        | .err c e' => .err c e'
        | .no => .no
      | .err c e => .err c e
      | .no => .no := rfl
    rw [un] at h
    cases q1 : argE m f env with
    | ok a e1 =>
      simp only [q1] at h
      cases q2 : args r e1 with
      | ok as' e2 => simp only [q2] at h; cases h; exact congrArg (· + 1) (args_len q2)
      | err c e2 => simp only [q2] at h; cases h
      | no => simp only [q2] at h; cases h
    | err c e1 => simp only [q1] at h; cases h
    | no => simp only [q1] at h; cases h
theorem arsOk_len : ∀ {vs : List V} {as : List Ar}, ArsOk F H vs as → vs.length = as.length
  | _, _, .nil => rfl
  | _, _, .cons _ h => congrArg (· + 1) (arsOk_len h)
theorem arsOk_sl : ∀ {vs : List V} {as : List Ar}, ArsOk F H vs as → SlsA F H vs (as.map Ar.sl)
  | _, _, .nil => .nil
  | _, _, .cons (a := a) h hs => .cons (by
    cases a with
    | s d => exact h
    | c d =>
      cases d with
      | list ds => exact h
      | _ => exact h) (arsOk_sl hs)
theorem slsA_len : ∀ {vs : List V} {xs : List Sl}, SlsA F H vs xs → vs.length = xs.length
  | _, _, .nil => rfl
  | _, _, .cons _ h => congrArg (· + 1) (slsA_len h)
theorem se_call {m : Fv} {fs : List (Bool × Ev)} {ta : TA} {np : Nat} (ha : SA ξ W cr ta (args fs)) (hl : fs.length = np) : SE ξ W cr (tCallS (spOf cr np m) (WE W) ta) (callE m fs) := fun F0 H0 env σ F H Qq s ne ok er => by
  have un : callE m fs env = match args fs env with
    | .ok as e => match m (as.map Ar.sl) with
      | .ok vl => .ok vl e
      | .err c => .err c e
      | .no => .no
    | .err c e => .err c e
    | .no => .no := rfl
  refine ha F0 H0 env σ F H _ s (fun z => ne (by rw [un]; simp only [z])) (fun as e1 h1 vs F1 H1 s1 f1 g1 a1 => ?_) fun c e1 h1 => er c e1 (by rw [un]; simp only [h1])
  simp only [h1] at un
  refine ⟨F1, as.map Ar.sl, by rw [arsOk_len a1, args_len h1]; exact hl, s1.fh, arsOk_sl a1, fun z => ne (by rw [un]; simp only [z]), fun vl hv v F2 H2 res => ?_, fun c hc H2 g2 => ?_⟩
  · obtain ⟨s2, ok2⟩ := res.ok s1
    exact ok vl e1 (by rw [un]; simp only [hv]) v F2 H2 s2 (f1.trans res.1.f) (g1.trans res.1.h) ok2
  · exact er c e1 (by rw [un]; simp only [hc]) F1 H2 (s1.grow ⟨.refl _, g2, s1.fh.trans g2, fun _ _ e => .inl e⟩)
theorem nn_call {m : Fv} {fs : List (Bool × Ev)} (h : NN (args fs)) : NN (callE m fs) := fun env a env' q i hi => by
  unfold callE at q
  cases h1 : args fs env with
  | ok as e =>
    simp only [h1] at q
    cases h2 : m (as.map Ar.sl) with
    | ok vl => simp only [h2] at q; cases q; exact h env _ _ h1 i hi
    | err c => simp only [h2] at q; cases q
    | no => simp only [h2] at q; cases q
  | err c e => simp only [h1] at q; cases q
  | no => simp only [h1] at q; cases q
theorem je_call {X : Cx} {k : Nat} {f : Addr} {fd : FuncData} {ps : List Str} {m : Fv} {fs : List (Bool × Ev)} {x : Str} {p pos : Pos} {e : Expr} {es : List Expr} (G : FnOk X.prog X.w X.K X.mg X.base (L2.CX X.prog X.w) k f fd ps (spOf cr ps.length m)) (tk : Takes X W) (hr : Room k X.A)
    (hm : X.mg x = some (.ref f)) (hk : PySem.W.keepIn X.K (.ref f) = true) (hb : Binds X.K fd ps []) (hg : Gl X x) (ha : JA X ξ W cr (e :: es) (args fs)) (hl : fs.length = ps.length) (hdb : (x == ("__debug__" : Str)) = false := by decide)
    (he : starEach (e :: es) X.env = (false, eval e X.env) :: starEach es X.env := by rfl) (hpl : (backTo pos (starEach es X.env)).any (·.1) = false := by rfl) : JE X ξ W cr (.Call (.Name x p) (e :: es) [] pos) (callE m fs) := by
  obtain ⟨_, a1, a2, a3⟩ := ha
  exact ⟨_, pe_callS G hr hg hm hk hb (fun σ => passAt tk σ) a1 hdb he hpl, se_call a2 hl, nn_call a3⟩
theorem slsA_get : ∀ {vs : List V} {xs : List Sl}, SlsA F H vs xs → ∀ i, SlOk ξ F H F H (gt xs i) vs[i]? ∧ (gt xs i).own = false
  | _, _, .nil, i => by
    have : gt [] i = .un := rfl
    rw [this]; exact ⟨trivial, rfl⟩
  | _, _, .cons (x := x) (v := v) h hs, 0 => by
    show SlOk ξ F H F H x (some v) ∧ x.own = false
    cases x with
    | v d => exact ⟨⟨v, rfl, h⟩, rfl⟩
    | b ds => obtain ⟨a, vs, rfl, q1, q2⟩ := h; exact ⟨⟨a, vs, rfl, q1, q2⟩, rfl⟩
    | _ => exact h.elim
  | _, _, .cons h hs, i + 1 => slsA_get hs i
theorem sim_start {vs : List V} {xs : List Sl} {N : List Str} (g : Same F H) (h : SlsA F H vs xs) (hl : vs.length ≤ N.length) : Sim ξ F H (xs ++ List.replicate (N.length - xs.length) .un) (L2.start N vs) F H := by
  have hl2 := slsA_len h
  have e1 : ∀ i, gt (xs ++ List.replicate (N.length - xs.length) Sl.un) i = gt xs i := fun i => by
    unfold gt
    rw [List.getD_eq_getElem?_getD, List.getD_eq_getElem?_getD, List.getElem?_append]
    by_cases q : i < xs.length
    · rw [if_pos q]
    · rw [if_neg q, List.getElem?_eq_none (Nat.le_of_not_lt q), List.getElem?_replicate]
      split <;> rfl
  have e2 : ∀ i, ((L2.start N vs)[i]?).join = vs[i]? := fun i => by
    unfold L2.start
    rw [List.getElem?_append, List.length_map]
    by_cases q : i < vs.length
    · rw [if_pos q, List.getElem?_map]
      rw [List.getElem?_eq_getElem q]; rfl
    · rw [if_neg q, List.getElem?_eq_none (Nat.le_of_not_lt q), List.getElem?_replicate]
      split <;> rfl
  refine ⟨.refl _, .refl _, g, fun _ _ e => .inl e, ?_, fun i => ?_, fun i j a hi => ?_⟩
  · unfold L2.start
    rw [List.length_append, List.length_append, List.length_map, List.length_replicate, List.length_replicate]; omega
  · rw [e1, e2]; exact (slsA_get h i).1
  · rw [e1, (slsA_get (ξ := ξ) h i).2] at hi; cases hi
/-- a def's body keeps the def's promise -/
theorem fn_ok {P : Program} {w : World} {K : PySem.W.Frag} {mg : Str → Option Value} {base : Heap} {x qual : Str} {st : Stmt} {f : Addr} {fd : FuncData} {N ps : List Str} {k : Nat} {b : Sv} (Fn : Fun K x qual st f fd) (S : FnScope N ps (defScope st)) (hN : ps.length ≤ N.length)
    (hbody : ∀ (cdv : Value) (A : Around) (outer : List Env) (s : Shared) (H : Hp) (E : XK), Room k (A.deeper (PyProof.Rows.envOfC qual (defScope st) s.heap.objs.size f cdv)) →
      ∃ ξ, JSs (cxOf (L2.CX P w) P w K mg base N qual (defScope st) f cdv A outer s H E) ξ (fun cls d _ H => E cls d H) cr (defBody st) b) :
    FnOk P w K mg base (L2.CX P w) (k + 1) f fd ps (spOf cr ps.length (runDef N.length b)) := by
  refine Fn.okX S (fun vs H Qq E h => h.choose_spec.choose_spec.1) (fun cdv A outer s H vs Qq E hr h => ?_)
  obtain ⟨ξ, ts, h1, h2⟩ := hbody cdv A outer s H E hr
  obtain ⟨F, sl, hl, g, hs, hne, hok, her⟩ := h
  have hsl : vs.length = sl.length := slsA_len hs
  have un : runDef N.length b sl = match b (sl ++ List.replicate (N.length - sl.length) .un) with
    | .rt v => .ok v
    | .nx _ => .ok (.v .none)
    | .err c _ => .err c
    | _ => .no := rfl
  refine ⟨ts, h1, h2 F H _ _ F H _ (sim_start g hs (by rw [hl]; exact hN)) (fun z => hne (by rw [un]; simp only [z])) (fun e' z σ' F' H' s' _ => ?_) (fun vl z v F' H' res => ?_) (fun e' z => ?_) (fun e' z => ?_) fun c e' z σ' F' H' s' => ?_⟩
  · exact hok (.v .none) (by rw [un]; simp only [z]) .non F' H' ⟨⟨s'.f, s'.h, s'.fh, s'.n⟩, .non⟩
  · exact hok vl (by rw [un]; simp only [z]) v F' H' res
  · exact absurd (by rw [un]; simp only [z]) hne
  · exact absurd (by rw [un]; simp only [z]) hne
  · exact her c (by rw [un]; simp only [z]) H' s'.h
end
end
end Q
namespace Q
noncomputable section
open PySem L2
/-! ### operations on data -/
def mulOk (i j : Int) : Prop := ((-(2 ^ 64) < i ∧ i < 2 ^ 64) ∨ (-(2 ^ 64) < j ∧ j < 2 ^ 64)) ∨ i.natAbs.log2 + j.natAbs.log2 < 100000000
instance {i j : Int} : Decidable (mulOk i j) := Classical.propDecidable _
def divOk (j : Int) : Prop := j ≠ 0 ∧ j.natAbs.log2 < 9000
instance {j : Int} : Decidable (divOk j) := inferInstanceAs (Decidable (_ ∧ _))
def powOk (i j : Int) : Prop := 0 ≤ j ∧ j ≤ 1000000 ∧ i.natAbs < 2 ^ 64
instance {i j : Int} : Decidable (powOk i j) := inferInstanceAs (Decidable (_ ∧ _))
def repOk (n : Nat) (k : Int) : Prop := -(2 ^ 63) ≤ k ∧ k < 2 ^ 63 ∧ n * k.toNat ≤ LIM
instance {n : Nat} {k : Int} : Decidable (repOk n k) := Classical.propDecidable _
def addD : D → D → Option Vl
  | .int a, .int b => some (.v (.int (a + b)))
  | .str a, .str b => if a.length + b.length ≤ LIM then some (.v (.str (a ++ b))) else none
  | .list a, .list b => if a.length + b.length ≤ LIM then some (.f (a ++ b)) else none
  | .tuple a, .tuple b => if a.length + b.length ≤ LIM then some (.v (.tuple (a ++ b))) else none
  | _, _ => none
def subD : D → D → Option Vl
  | .int a, .int b => some (.v (.int (a - b)))
  | _, _ => none
def mulD : D → D → Option Vl
  | .int a, .int b => if mulOk a b then some (.v (.int (a * b))) else none
  | .list a, .int k => if repOk a.length k then some (.f (List.replicate k.toNat a).flatten) else none
  | _, _ => none
def divD : D → D → Option Vl
  | .int a, .int b => if divOk b then some (.v (.int (a.fdiv b))) else none
  | _, _ => none
def modD : D → D → Option Vl
  | .int a, .int b => if b ≠ 0 then some (.v (.int (a.fmod b))) else none
  | _, _ => none
def powD : D → D → Option Vl
  | .int a, .int b => if powOk a b then some (.v (.int (a ^ b.toNat))) else none
  | _, _ => none
def negD : D → Option Vl
  | .int a => some (.v (.int (-a)))
  | _ => none
def cmpD (p : Int → Int → Bool) : D → D → Option Vl
  | .int a, .int b => some (.v (.bool (p a b)))
  | _, _ => none
def ltD : D → D → Option Vl := cmpD fun a b => decide (a < b)
def leD : D → D → Option Vl := cmpD fun a b => decide (a ≤ b)
def gtD : D → D → Option Vl := cmpD fun a b => decide (b < a)
def geD : D → D → Option Vl := cmpD fun a b => decide (b ≤ a)
def eqD (d e : D) : Option Vl := if (SeqAt.shaped d && SeqAt.shaped e) = true then some (.v (.bool (PyData.eqv d e))) else none
def neD (d e : D) : Option Vl := if (SeqAt.shaped d && SeqAt.shaped e) = true then some (.v (.bool (!PyData.eqv d e))) else none
def isNone : D → Bool
  | .none => true
  | _ => false
def isD : D → D → Option Vl
  | d, .none => some (.v (.bool (isNone d)))
  | .bool a, .bool b => some (.v (.bool (decide (a = b))))
  | _, _ => none
def isnD : D → D → Option Vl
  | d, .none => some (.v (.bool (!isNone d)))
  | .bool a, .bool b => some (.v (.bool (!decide (a = b))))
  | _, _ => none
def ixD : D → D → Option Vl
  | .list ds, .int i => (atI ds i).map .v
  | .tuple ds, .int i => (atI ds i).map .v
  | .str z, .int i => if z.length ≤ LIM then (atI z.cps.toList i).map fun c => .v (.str ⟨#[c]⟩) else none
  | _, _ => none
def lenD : List D → Option Vl
  | [.list ds] => some (.v (.int ds.length))
  | [.tuple ds] => some (.v (.int ds.length))
  | [.str z] => if z.length ≤ LIM then some (.v (.int z.length)) else none
  | _ => none
def absD : List D → Option Vl
  | [.int i] => some (.v (.int (if i < 0 then -i else i)))
  | _ => none
def max2D : List D → Option Vl
  | [.int i, .int j] => some (.v (.int (if j > i then j else i)))
  | _ => none
def min2D : List D → Option Vl
  | [.int i, .int j] => some (.v (.int (if j < i then j else i)))
  | _ => none
def intD : List D → Option Vl
  | [.int i] => some (.v (.int i))
  | [.bool k] => some (.v (.int (if k then 1 else 0)))
  | _ => none
def listD : List D → Option Vl
  | [.list ds] => some (.f ds)
  | [.tuple ds] => some (.f ds)
  | _ => none
def tupleD : List D → Option Vl
  | [.list ds] => some (.v (.tuple ds))
  | [.tuple ds] => some (.v (.tuple ds))
  | _ => none
def intsOf : List D → Option (List Int)
  | [] => some []
  | .int i :: r => (intsOf r).map (i :: ·)
  | _ => none
def sumD : List D → Option Vl
  | [.list ds] => (intsOf ds).map fun ns => .v (.int ns.sum)
  | _ => none
def tyN : D → String
  | .none => "NoneType"
  | .bool _ => "bool"
  | .int _ => "int"
  | .str _ => "str"
  | .list _ => "list"
  | .tuple _ => "tuple"
  | .dict _ => "dict"
def isiD (T : String) (d : D) : Bool := tyN d == T || (tyN d == "bool" && T == "int")
def isiE (T : String) (f : Ev) : Ev := bnd f fun d e => .ok (.v (.bool (isiD T d))) e
def optI : Option Ev → (Option Int → En → R Vl) → En → R Vl
  | none, k => k none
  | some f, k => bnd f fun d e => match d with
    | .int i => k (some i) e
    | _ => .no
def cutD (ds : List D) (lo hi : Option Int) : List D := (ds.drop (HT.sIx ds.length 0 lo)).take (HT.sIx ds.length ds.length hi - HT.sIx ds.length 0 lo)
def sliD (d : D) (lo hi : Option Int) : Option Vl := match d with
  | .list ds => some (.f (cutD ds lo hi))
  | .tuple ds => some (.v (.tuple (cutD ds lo hi)))
  | .str z => if z.length ≤ LIM then some (.v (.str (cutS z lo hi))) else none
  | _ => none
def sliE (f : Ev) (lo hi : Option Ev) : Ev := bnd f fun d => optI lo fun l => optI hi fun h e => out (sliD d l h) e
def tupE (fs : List Ev) : Ev := fun env => match args (fs.map fun f => (true, f)) env with
  | .ok as e => .ok (.v (.tuple (as.map Ar.d))) e
  | .err c e => .err c e
  | .no => .no
def lstE (fs : List Ev) : Ev := fun env => match args (fs.map fun f => (true, f)) env with
  | .ok as e => .ok (.f (as.map Ar.d)) e
  | .err c e => .err c e
  | .no => .no
def dicE : Ev := fun env => .ok .ft env

section
variable {X : Cx} {F H : Hp} {x y : V} {d e : D}
theorem rd_lst {pins : List (Addr × Obj)} {σ : St} {s : Shared} {a : Addr} {xs : List V} (I : Inv X pins σ H s) (h : Rd H a (.lst xs)) : ∃ (us : List Value) (k : Nat), Vals xs us ∧ xs.length = us.length ∧ s.heap.get? a = some { cls := .type "list", data := .seq us.toArray k } := by
  have ob : ObjOk X.prog X.w H s.heap a (.lst xs) := h.ok I.hok
  exact ⟨ob.2.choose, ob.2.choose_spec.choose, ob.2.choose_spec.choose_spec.1, ob.2.choose_spec.choose_spec.1.length, ob.2.choose_spec.choose_spec.2⟩
/-- xs + ys, two lists that may be read -/
def rCatQ : R2 := fun x y H Q => ∃ l b xs zs, (x = .ref l ∧ y = .ref b) ∧ (Rd H l (.lst xs) ∧ Rd H b (.lst zs)) ∧ xs.length + zs.length ≤ sizeLine ∧ ∀ p, H p = none → Q (.ref p) (upd H p (.lst (xs ++ zs)))
theorem op_catQ : OpR X (binaryOp .Add) rCatQ := fun pins s σ H x y v u Qq I rx ry h => by
  obtain ⟨l, b, xs, zs, ⟨ex, ey⟩, ⟨h1, h2⟩, size, go⟩ := h
  subst ex ey
  cases rx; cases ry
  obtain ⟨us, k1, r1, n1, g1⟩ := rd_lst I h1
  obtain ⟨ws, k2, r2, n2, g2⟩ := rd_lst I h2
  have new := I.lnew (t' := s.toks) (r1.append r2) (Nat.le_trans (Nat.le_of_eq List.length_append) size)
  refine PySem.P.add_list g1 g2 ?_ (by simp only [List.size_toArray]; omega)
  rw [show us.toArray ++ ws.toArray = (us ++ ws).toArray by simp]
  exact ⟨V.ref s.heap.objs.size, _, new, rfl, go _ I.fresh⟩
theorem rep_fold (us : List Value) (n : Nat) : (List.replicate n us.toArray).foldl (· ++ ·) #[] = (List.replicate n us).flatten.toArray := by
  rw [show (#[] : Array Value) = ([] : List Value).toArray from rfl, foldl_rep us n [], List.nil_append]
theorem rep_fold_if (us : List Value) (n : Nat) : (List.replicate (if us.toArray.isEmpty = true then 0 else n) us.toArray).foldl (· ++ ·) #[] = (List.replicate n us).flatten.toArray := by
  rw [rep_fold]
  cases us with
  | nil => simp
  | cons z zs => simp
/-- xs * k, a list that may be read -/
def rRepQ : R2 := fun x y H Q => ∃ l k xs, (x = .ref l ∧ y = .int k) ∧ Rd H l (.lst xs) ∧ (-(2 ^ 63) ≤ k ∧ k < 2 ^ 63 ∧ xs.length * k.toNat ≤ sizeLine) ∧ ∀ p, H p = none → Q (.ref p) (upd H p (.lst (List.replicate k.toNat xs).flatten))
theorem op_repQ : OpR X (binaryOp .Mult) rRepQ := fun pins s σ H x y v u Qq I rx ry h => by
  obtain ⟨l, k, xs, ⟨ex, ey⟩, h1, ⟨lo, hi, size⟩, go⟩ := h
  subst ex ey
  cases rx
  obtain ⟨tk, rfl⟩ := ry
  obtain ⟨us, n0, r1, n1, g1⟩ := rd_lst I h1
  have size' : us.toArray.size * k.toNat ≤ sizeLine := by simpa only [List.size_toArray, ← n1] using size
  have line : (sizeLine : Nat) ≤ (2 ^ 63 - 1) / 8 := by decide +kernel
  have new := I.lnew (t' := s.toks) (r1.rep k.toNat) (by rw [PyProof.Rows.lm_len_rep_flat]; rw [Nat.mul_comm]; exact size)
  have there : s.TypeIs (.ref l) "list" := ⟨_, g1, rfl⟩
  have step := PySem.AutoListH.list___mul___list_int_3 l us.toArray n0 k tk (by rw [fitsIndex_both lo hi]; decide) (by omega) (by rw [notLongL size']; decide)
  have inner := int___rmul___int_list k tk l us.toArray n0
  refine wpAny_binaryOp_repeat_ref (T := "list") (U := "int") (by decide) there (fun s' => PySem.typeIs_int s' k tk)
    noFill_list_mul PySem.F.fills_int_mul PySem.F.slot_int_rmul repeat_list PySem.F.slot_int_index.lookup ?_
  refine call_meets PySem.F.slot_int_rmul (PySem.typeIs_int s k tk) PySem.F.entry_int_rmul (PySem.F.args_int_rmul_2 _ _) inner ?_
  refine ⟨g1, rfl, there, call_meets PySem.F.slot_list_mul there PySem.F.entry_list_mul (PySem.F.args_list_mul_2 _ _) step ⟨g1, ?_⟩⟩
  rw [rep_fold_if]
  exact ⟨V.ref s.heap.objs.size, _, new, rfl, go _ I.fresh⟩
theorem op_fdivX : OpR X (binaryOp .FloorDiv) (rI (fun _ j => divOk j) fun i j => .int (i.fdiv j)) := opI fun _ _ _ _ _ _ _ hc q => PyProof.Rows.floordiv_int hc.1 q (.inl (PyProof.noPylong_of_log2 hc.2))
theorem op_mulQ : OpR X (binaryOp .Mult) (rI mulOk fun i j => .int (i * j)) := opI fun i j _ _ _ _ _ hc q => by
  rcases hc with hc | hc
  · exact PyProof.Rows.mul_int q (CMul.ok hc)
  · refine PyProof.Rows.mul_int q (CMulX.ok ?_)
    have few (z : Int) : Builtin.Int.intBits z ≤ z.natAbs.log2 + 1 := by
      unfold Builtin.Int.intBits
      split <;> omega
    have h1 := few i
    have h2 := few j
    unfold CMulX
    omega
theorem opl_add : OpR X (binaryOp .Add) (fun x y H Q => rI0 (fun i j => .int (i + j)) x y H Q ∨ (∃ i j, x = .str i ∧ y = .str j ∧ i.length + j.length ≤ sizeLine ∧ Q (.str (i ++ j)) H) ∨ rCatQ x y H Q ∨ rCatA X.K x y H Q) := op_add.or (op_add_str.or (op_catQ.or op_catA))
theorem ap_add {K : PySem.W.Frag} : Op2 (fun x y H Q => rI0 (fun i j => .int (i + j)) x y H Q ∨ (∃ i j, x = .str i ∧ y = .str j ∧ i.length + j.length ≤ sizeLine ∧ Q (.str (i ++ j)) H) ∨ rCatQ x y H Q ∨ rCatA K x y H Q) addD := fun F H x y d e vl Qq g hx hy h q => by
  cases d <;> cases e <;> try (cases h; done)
  · cases h; cases hx; cases hy
    exact .inl ⟨_, _, rfl, rfl, q _ F H (Res.val g (.int _))⟩
  · rename_i a b
    have h' : (if a.length + b.length ≤ LIM then some (Vl.v (.str (a ++ b))) else none) = some vl := h
    by_cases hl : a.length + b.length ≤ LIM
    · rw [if_pos hl] at h'; cases h'; cases hx; cases hy
      exact .inr (.inl ⟨_, _, rfl, rfl, by rw [← LIM_eq]; exact hl, q _ F H (Res.val g (.str _))⟩)
    · rw [if_neg hl] at h'; cases h'
  · rename_i a b
    have h' : (if a.length + b.length ≤ LIM then some (Vl.f (a ++ b)) else none) = some vl := h
    by_cases hl : a.length + b.length ≤ LIM
    · rw [if_pos hl] at h'; cases h'
      obtain ⟨p, vs, rfl, h1, h2⟩ := hx
      obtain ⟨p', ws, rfl, k1, k2⟩ := hy
      exact .inr (.inr (.inl ⟨_, _, _, _, ⟨rfl, rfl⟩, ⟨h1, k1⟩, by rw [h2.length, k2.length, ← LIM_eq]; exact hl, fun r hr => q _ F _ (Res.lst g hr (h2.append k2))⟩))
    · rw [if_neg hl] at h'; cases h'
  · rename_i a b
    have h' : (if a.length + b.length ≤ LIM then some (Vl.v (.tuple (a ++ b))) else none) = some vl := h
    by_cases hl : a.length + b.length ≤ LIM
    · rw [if_pos hl] at h'; cases h'
      cases hx with
      | @tup p vs _ h1 h2 =>
        cases hy with
        | @tup p' ws _ k1 k2 =>
          refine .inr (.inr (.inr ⟨p, p', vs, ws, rfl, rfl, .inl (rd_mono g (Rd.of h1)), .inl (rd_mono g (Rd.of k1)), by rw [h2.length, k2.length, ← LIM_eq]; exact hl, fun z => ?_, fun _ z => ?_, fun _ _ r hr => q _ _ _ (Res.tup g hr (h2.append k2))⟩))
          · subst z; cases h2; exact q _ F H (Res.val g (.tup k1 k2))
          · subst z; cases k2; rw [List.append_nil] at q; exact q _ F H (Res.val g (.tup h1 h2))
    · rw [if_neg hl] at h'; cases h'
theorem ap_I {C : Int → Int → Prop} [∀ i j, Decidable (C i j)] {f : Int → Int → Int} {h : D → D → Option Vl} (hh : ∀ i j, h (.int i) (.int j) = if C i j then some (.v (.int (f i j))) else none) (hn : ∀ d e, (∀ i j, ¬ (d = .int i ∧ e = .int j)) → h d e = none) : Op2 (rI C fun i j => .int (f i j)) h := fun F H x y d e vl Qq g hx hy hd q => by
  by_cases hi : ∃ i j, d = .int i ∧ e = .int j
  · obtain ⟨i, j, rfl, rfl⟩ := hi
    cases hx; cases hy
    rw [hh] at hd
    by_cases hc : C i j
    · rw [if_pos hc] at hd; cases hd
      exact ⟨i, j, rfl, rfl, hc, q _ F H (Res.val g (.int _))⟩
    · rw [if_neg hc] at hd; cases hd
  · rw [hn d e fun i j z => hi ⟨i, j, z⟩] at hd; cases hd
theorem ap_sub : Op2 (rI0 fun i j => .int (i - j)) subD := fun F H x y d e vl Qq g hx hy h q => by
  cases d <;> cases e <;> try (cases h; done)
  cases h; cases hx; cases hy
  exact ⟨_, _, rfl, rfl, q _ F H (Res.val g (.int _))⟩
theorem ap_mod : Op2 (rI (fun _ j => j ≠ 0) fun i j => .int (i.fmod j)) modD := ap_I (fun _ _ => rfl) fun d e z => by cases d <;> cases e <;> first | rfl | exact absurd ⟨rfl, rfl⟩ (z _ _)
theorem ap_div : Op2 (rI (fun _ j => divOk j) fun i j => .int (i.fdiv j)) divD := ap_I (fun _ _ => rfl) fun d e z => by cases d <;> cases e <;> first | rfl | exact absurd ⟨rfl, rfl⟩ (z _ _)
theorem ap_pow : Op2 (rI CPow fun i j => .int (i ^ j.toNat)) powD := ap_I (C := powOk) (fun _ _ => rfl) fun d e z => by cases d <;> cases e <;> first | rfl | exact absurd ⟨rfl, rfl⟩ (z _ _)
theorem opl_mul : OpR X (binaryOp .Mult) (fun x y H Q => rI mulOk (fun i j => .int (i * j)) x y H Q ∨ rRepQ x y H Q) := op_mulQ.or op_repQ
theorem ap_mul : Op2 (fun x y H Q => rI mulOk (fun i j => .int (i * j)) x y H Q ∨ rRepQ x y H Q) mulD := fun F H x y d e vl Qq g hx hy h q => by
  cases d <;> cases e <;> try (cases h; done)
  · rename_i a b
    have h' : (if mulOk a b then some (Vl.v (.int (a * b))) else none) = some vl := h
    by_cases hl : mulOk a b
    · rw [if_pos hl] at h'; cases h'; cases hx; cases hy
      exact .inl ⟨_, _, rfl, rfl, hl, q _ F H (Res.val g (.int _))⟩
    · rw [if_neg hl] at h'; cases h'
  · rename_i a b
    have h' : (if repOk a.length b then some (Vl.f (List.replicate b.toNat a).flatten) else none) = some vl := h
    by_cases hl : repOk a.length b
    · rw [if_pos hl] at h'; cases h'
      obtain ⟨p, vs, rfl, h1, h2⟩ := hx
      cases hy
      exact .inr ⟨p, b, vs, ⟨rfl, rfl⟩, h1, ⟨hl.1, hl.2.1, by rw [h2.length, ← LIM_eq]; exact hl.2.2⟩, fun r hr => q _ F _ (Res.lst g hr (h2.rep _))⟩
    · rw [if_neg hl] at h'; cases h'
theorem ap_neg : Op1 (rU fun i => .int (-i)) negD := fun F H x d vl Qq g hx h q => by
  cases d <;> try (cases h; done)
  cases h; cases hx
  exact ⟨_, rfl, q _ F H (Res.val g (.int _))⟩
theorem ap_cmp {p : Int → Int → Bool} : Op2 (rI0 fun i j => .bl (p i j)) (cmpD p) := fun F H x y d e vl Qq g hx hy h q => by
  cases d <;> cases e <;> try (cases h; done)
  cases h; cases hx; cases hy
  exact ⟨_, _, rfl, rfl, q _ F H (Res.val g (.bl _))⟩
theorem ap_lt : Op2 (rI0 fun i j => .bl (decide (i < j))) ltD := ap_cmp
theorem ap_le : Op2 (rI0 fun i j => .bl (decide (i ≤ j))) leD := ap_cmp
theorem ap_gt : Op2 (rI0 fun i j => .bl (decide (j < i))) gtD := ap_cmp
theorem ap_ge : Op2 (rI0 fun i j => .bl (decide (j ≤ i))) geD := ap_cmp
mutual
theorem Rp.dp {K : PySem.W.Frag} : ∀ {d : D} {v : V}, Rp H v d → PyData.canLay0 d = true → Dp K H v d
  | _, _, .non, _ => .non
  | _, _, .bl b, _ => .bl b
  | _, _, .int i, _ => .int i
  | _, _, .str s, _ => .str s
  | _, _, .lst h hs, c => .lst (.inl h) (RpAll.dp hs (by simpa only [PyData.canLay0] using c))
  | _, _, .tup h hs, c => .tup (.inl (.inl h)) (RpAll.dp hs (by simpa only [PyData.canLay0] using c))
  | _, _, .dic _, c => by simp [PyData.canLay0] at c
theorem RpAll.dp {K : PySem.W.Frag} : ∀ {ds : List D} {vs : List V}, RpAll H vs ds → PyData.canLayAll0 ds = true → DpAll K H vs ds
  | _, _, .nil, _ => .nil
  | d :: ds, _, .cons h hs, c => by
    have c' : PyData.canLay0 d = true ∧ PyData.canLayAll0 ds = true := by simpa only [PyData.canLayAll0, Bool.and_eq_true] using c
    exact .cons (Rp.dp h c'.1) (RpAll.dp hs c'.2)
end
theorem ap_eq {K : PySem.W.Frag} : Op2 (rEqD K) eqD := fun F H x y d e vl Qq g hx hy h q => by
  unfold eqD at h
  by_cases hs : (SeqAt.shaped d && SeqAt.shaped e) = true
  · rw [if_pos hs] at h; cases h
    have hs' : SeqAt.shaped d = true ∧ SeqAt.shaped e = true := by simpa only [Bool.and_eq_true] using hs
    exact ⟨d, e, (hx.rp g).dp (SeqAt.canLay_of_shaped hs'.1), (hy.rp g).dp (SeqAt.canLay_of_shaped hs'.2), hs'.1, hs'.2, q _ F H (Res.val g (.bl _))⟩
  · exact absurd h (by rw [if_neg hs]; simp)
theorem ap_ne {K : PySem.W.Frag} : Op2 (rNeD K) neD := fun F H x y d e vl Qq g hx hy h q => by
  unfold neD at h
  by_cases hs : (SeqAt.shaped d && SeqAt.shaped e) = true
  · rw [if_pos hs] at h; cases h
    have hs' : SeqAt.shaped d = true ∧ SeqAt.shaped e = true := by simpa only [Bool.and_eq_true] using hs
    exact ⟨d, e, (hx.rp g).dp (SeqAt.canLay_of_shaped hs'.1), (hy.rp g).dp (SeqAt.canLay_of_shaped hs'.2), hs'.1, hs'.2, q _ F H (Res.val g (.bl _))⟩
  · exact absurd h (by rw [if_neg hs]; simp)
theorem cont_none (h : Cont F H x d) : decide (x = .non) = isNone d := by
  cases d with
  | list ds => obtain ⟨a, vs, rfl, _⟩ := h; rfl
  | _ => cases h <;> rfl
theorem opl_is : OpR X (compareOp .Is) (fun x y H Q => (y = .non ∧ Q (.bl (decide (x = .non))) H) ∨ ∃ a b, x = .bl a ∧ y = .bl b ∧ Q (.bl (decide (a = b))) H) := op_isN.or op_is_bl
theorem ap_is : Op2 (fun x y H Q => (y = .non ∧ Q (.bl (decide (x = .non))) H) ∨ ∃ a b, x = .bl a ∧ y = .bl b ∧ Q (.bl (decide (a = b))) H) isD := fun F H x y d e vl Qq g hx hy h q => by
  by_cases he : e = .none
  · subst he
    have h' : some (Vl.v (.bool (isNone d))) = some vl := by cases d <;> exact h
    cases h'; cases hy
    exact .inl ⟨rfl, by rw [cont_none hx]; exact q _ F H (Res.val g (.bl _))⟩
  · cases d <;> cases e <;> first | exact absurd rfl he | (cases h; done) | skip
    cases h; cases hx; cases hy
    exact .inr ⟨_, _, rfl, rfl, q _ F H (Res.val g (.bl _))⟩
theorem opl_isn : OpR X (compareOp .IsNot) (fun x y H Q => (y = .non ∧ Q (.bl (!decide (x = .non))) H) ∨ ∃ a b, x = .bl a ∧ y = .bl b ∧ Q (.bl (!decide (a = b))) H) := op_notN.or op_isnot_bl
theorem ap_isn : Op2 (fun x y H Q => (y = .non ∧ Q (.bl (!decide (x = .non))) H) ∨ ∃ a b, x = .bl a ∧ y = .bl b ∧ Q (.bl (!decide (a = b))) H) isnD := fun F H x y d e vl Qq g hx hy h q => by
  by_cases he : e = .none
  · subst he
    have h' : some (Vl.v (.bool (!isNone d))) = some vl := by cases d <;> exact h
    cases h'; cases hy
    exact .inl ⟨rfl, by rw [cont_none hx]; exact q _ F H (Res.val g (.bl _))⟩
  · cases d <;> cases e <;> first | exact absurd rfl he | (cases h; done) | skip
    cases h; cases hx; cases hy
    exact .inr ⟨_, _, rfl, rfl, q _ F H (Res.val g (.bl _))⟩
theorem atI_rp {vs : List V} {ds : List D} {i : Int} {d : D} (h : RpAll F vs ds) (e : atI ds i = some d) : ∃ v, atI vs i = some v ∧ Rp F v d := by
  unfold atI at e ⊢
  rw [h.length]
  cases q : ixN ds.length i with
  | none => exact absurd e (by rw [q]; simp)
  | some j =>
    rw [q] at e
    exact h.get e
theorem ap_ix {K : PySem.W.Frag} : Op2 (rIx K) ixD := fun F H x y d e vl Qq g hx hy h q => by
  cases d <;> cases e <;> try (cases h; done)
  · rename_i z i
    have h' : (if z.length ≤ LIM then (atI z.cps.toList i).map fun c => Vl.v (.str ⟨#[c]⟩) else none) = some vl := h
    by_cases hl : z.length ≤ LIM
    · rw [if_pos hl] at h'
      cases hc : atI z.cps.toList i with
      | none => rw [hc] at h'; cases h'
      | some c =>
        rw [hc] at h'; cases h'; cases hx; cases hy
        exact .inr (.inr ⟨z, i, c, rfl, rfl, by rw [← LIM_eq]; exact hl, hc, q _ F H (Res.val g (.str _))⟩)
    · rw [if_neg hl] at h'; cases h'
  · rename_i ds i
    have h' : (atI ds i).map Vl.v = some vl := h
    cases hc : atI ds i with
    | none => rw [hc] at h'; cases h'
    | some c =>
      rw [hc] at h'; cases h'; cases hy
      obtain ⟨p, vs, rfl, h1, h2⟩ := hx
      obtain ⟨v, h3, h4⟩ := atI_rp h2 hc
      exact .inl ⟨p, vs, i, v, rfl, rfl, rd_sq h1, h3, q _ F H (Res.val g h4)⟩
  · rename_i ds i
    have h' : (atI ds i).map Vl.v = some vl := h
    cases hc : atI ds i with
    | none => rw [hc] at h'; cases h'
    | some c =>
      rw [hc] at h'; cases h'; cases hy
      cases hx with
      | tup h1 h2 =>
        obtain ⟨v, h3, h4⟩ := atI_rp h2 hc
        exact .inr (.inl ⟨_, _, i, v, rfl, rfl, .inl (rd_mono g (Rd.of h1)), h3, q _ F H (Res.val g h4)⟩)
/-! builtins by contents -/
theorem arg1 {vs : List V} {as : List Ar} (h : ArsOk F H vs as) (hc : ∀ a ∈ as, ∃ d, a = .c d) (e : as.map Ar.d = [d]) : ∃ x, vs = [x] ∧ Cont F H x d := by
  cases h with
  | nil => cases e
  | @cons v a vs as h1 h2 =>
    cases h2 with
    | nil =>
      obtain ⟨d', rfl⟩ := hc a List.mem_cons_self
      have e' : [d'] = [d] := e
      cases e'
      exact ⟨v, rfl, h1⟩
    | cons _ _ => exact absurd (congrArg List.length e) (by simp)
theorem arg2 {vs : List V} {as : List Ar} {d' : D} (h : ArsOk F H vs as) (hc : ∀ a ∈ as, ∃ d, a = .c d) (e : as.map Ar.d = [d, d']) : ∃ x y, vs = [x, y] ∧ Cont F H x d ∧ Cont F H y d' := by
  cases h with
  | nil => cases e
  | @cons v a vs as h1 h2 =>
    have e' : a.d :: as.map Ar.d = [d, d'] := e
    injection e' with e1 e2
    obtain ⟨y, rfl, h3⟩ := arg1 h2 (fun b hb => hc b (List.mem_cons_of_mem _ hb)) e2
    obtain ⟨d1, rfl⟩ := hc a List.mem_cons_self
    cases e1
    exact ⟨v, y, rfl, h1, h3⟩
theorem opn1 {r : List V → Hp → VK → Prop} {g : List D → Option Vl} (h : ∀ F H x d vl (Qq : VK), Same F H → Cont F H x d → g [d] = some vl → (∀ v F' H', Res F H F' H' v vl → Qq v H') → r [x] H Qq) (hn : ∀ ds vl, g ds = some vl → ∃ d, ds = [d]) : OpN r g := fun F H vs as vl Qq g1 ha hc e q => by
  obtain ⟨d, hd⟩ := hn _ _ e
  obtain ⟨x, rfl, hx⟩ := arg1 ha hc hd
  rw [hd] at e
  exact h F H x d vl Qq g1 hx e q
theorem opn2 {r : List V → Hp → VK → Prop} {g : List D → Option Vl} (h : ∀ F H x y d e vl (Qq : VK), Same F H → Cont F H x d → Cont F H y e → g [d, e] = some vl → (∀ v F' H', Res F H F' H' v vl → Qq v H') → r [x, y] H Qq) (hn : ∀ ds vl, g ds = some vl → ∃ d e, ds = [d, e]) : OpN r g := fun F H vs as vl Qq g1 ha hc e q => by
  obtain ⟨d, d', hd⟩ := hn _ _ e
  obtain ⟨x, y, rfl, hx, hy⟩ := arg2 ha hc hd
  rw [hd] at e
  exact h F H x y d d' vl Qq g1 hx hy e q
theorem cl_len : CallR X (.builtin "len") (fun xs H Q => (∃ p ys, xs = [.ref p] ∧ (SqL X.K H p ys ∨ SqT X.K H p ys) ∧ Q (.int ys.length) H) ∨ ∃ z, xs = [.str z] ∧ z.length ≤ sizeLine ∧ Q (.int z.length) H) := call_len_seq.or call_len_str
theorem one_len {ds : List D} {vl : Vl} (h : lenD ds = some vl) : ∃ d, ds = [d] := by
  unfold lenD at h; split at h <;> first | exact ⟨_, rfl⟩ | cases h
theorem an_len {K : PySem.W.Frag} : OpN (fun xs H Q => (∃ p ys, xs = [.ref p] ∧ (SqL K H p ys ∨ SqT K H p ys) ∧ Q (.int ys.length) H) ∨ ∃ z, xs = [.str z] ∧ z.length ≤ sizeLine ∧ Q (.int z.length) H) lenD := opn1 (fun F H x d vl Qq g hx h q => by
  cases d <;> try (cases h; done)
  · rename_i z
    have h' : (if z.length ≤ LIM then some (Vl.v (.int z.length)) else none) = some vl := h
    by_cases hl : z.length ≤ LIM
    · rw [if_pos hl] at h'; cases h'; cases hx
      exact .inr ⟨z, rfl, by rw [← LIM_eq]; exact hl, q _ F H (Res.val g (.int _))⟩
    · rw [if_neg hl] at h'; cases h'
  · cases h
    obtain ⟨p, vs, rfl, h1, h2⟩ := hx
    refine .inl ⟨p, vs, rfl, .inl (rd_sq h1), ?_⟩
    rw [h2.length]; exact q _ F H (Res.val g (.int _))
  · cases h
    cases hx with
    | tup h1 h2 =>
      refine .inl ⟨_, _, rfl, .inr (.inl (rd_mono g (Rd.of h1))), ?_⟩
      rw [h2.length]; exact q _ F H (Res.val g (.int _))) fun _ _ h => one_len h
theorem an_abs : OpN (fun xs H Q => ∃ i, xs = [.int i] ∧ Q (.int (if i < 0 then -i else i)) H) absD := opn1 (fun F H x d vl Qq g hx h q => by
  cases d <;> try (cases h; done)
  cases h; cases hx
  exact ⟨_, rfl, q _ F H (Res.val g (.int _))⟩) fun _ _ h => by unfold absD at h; split at h <;> first | exact ⟨_, rfl⟩ | cases h
theorem an_max2 : OpN (fun xs H Q => ∃ i j, xs = [.int i, .int j] ∧ Q (.int (if j > i then j else i)) H) max2D := opn2 (fun F H x y d e vl Qq g hx hy h q => by
  cases d <;> cases e <;> try (cases h; done)
  cases h; cases hx; cases hy
  exact ⟨_, _, rfl, q _ F H (Res.val g (.int _))⟩) fun _ _ h => by unfold max2D at h; split at h <;> first | exact ⟨_, _, rfl⟩ | cases h
theorem an_min2 : OpN (fun xs H Q => ∃ i j, xs = [.int i, .int j] ∧ Q (.int (if j < i then j else i)) H) min2D := opn2 (fun F H x y d e vl Qq g hx hy h q => by
  cases d <;> cases e <;> try (cases h; done)
  cases h; cases hx; cases hy
  exact ⟨_, _, rfl, q _ F H (Res.val g (.int _))⟩) fun _ _ h => by unfold min2D at h; split at h <;> first | exact ⟨_, _, rfl⟩ | cases h
theorem an_int : OpN (fun xs H Q => (∃ i, xs = [.int i] ∧ Q (.int i) H) ∨ ∃ k, xs = [.bl k] ∧ Q (.int (if k then 1 else 0)) H) intD := opn1 (fun F H x d vl Qq g hx h q => by
  cases d <;> try (cases h; done)
  · cases h; cases hx
    exact .inr ⟨_, rfl, q _ F H (Res.val g (.int _))⟩
  · cases h; cases hx
    exact .inl ⟨_, rfl, q _ F H (Res.val g (.int _))⟩) fun _ _ h => by unfold intD at h; split at h <;> first | exact ⟨_, rfl⟩ | cases h
theorem an_list {K : PySem.W.Frag} : OpN (fun xs H Q => ∃ p ys, xs = [.ref p] ∧ (SqL K H p ys ∨ SqT K H p ys) ∧ ∀ l, H l = none → Q (.ref l) (upd H l (.lst ys))) listD := opn1 (fun F H x d vl Qq g hx h q => by
  cases d <;> try (cases h; done)
  · cases h
    obtain ⟨p, vs, rfl, h1, h2⟩ := hx
    exact ⟨p, vs, rfl, .inl (rd_sq h1), fun l hl => q _ F _ (Res.lst g hl h2)⟩
  · cases h
    cases hx with
    | tup h1 h2 => exact ⟨_, _, rfl, .inr (.inl (rd_mono g (Rd.of h1))), fun l hl => q _ F _ (Res.lst g hl h2)⟩) fun _ _ h => by unfold listD at h; split at h <;> first | exact ⟨_, rfl⟩ | cases h
theorem an_tuple {K : PySem.W.Frag} : OpN (fun xs H Q => ∃ p ys, xs = [.ref p] ∧ ((SqL K H p ys ∧ ∀ l, H l = none → Q (.ref l) (upd H l (.tup ys))) ∨ (SqT K H p ys ∧ Q (.ref p) H))) tupleD := opn1 (fun F H x d vl Qq g hx h q => by
  cases d <;> try (cases h; done)
  · cases h
    obtain ⟨p, vs, rfl, h1, h2⟩ := hx
    exact ⟨p, vs, rfl, .inl ⟨rd_sq h1, fun l hl => q _ _ _ (Res.tup g hl h2)⟩⟩
  · cases h
    cases hx with
    | tup h1 h2 => exact ⟨_, _, rfl, .inr ⟨.inl (rd_mono g (Rd.of h1)), q _ F H (Res.val g (.tup h1 h2))⟩⟩) fun _ _ h => by unfold tupleD at h; split at h <;> first | exact ⟨_, rfl⟩ | cases h
theorem ints_rp : ∀ {ds : List D} {vs : List V} {ns : List Int}, RpAll F vs ds → intsOf ds = some ns → vs = ns.map V.int
  | [], _, ns, .nil, h => by cases h; rfl
  | d :: ds, _, ns, .cons h1 h2, h => by
    cases d <;> try (cases h; done)
    rename_i i
    have h' : (intsOf ds).map (i :: ·) = some ns := h
    cases q : intsOf ds with
    | none => rw [q] at h'; cases h'
    | some ms => rw [q] at h'; cases h'; cases h1; rw [ints_rp h2 q]; rfl
theorem an_sum {K : PySem.W.Frag} : OpN (rSum K) sumD := opn1 (fun F H x d vl Qq g hx h q => by
  cases d <;> try (cases h; done)
  rename_i ds
  have h' : ((intsOf ds).map fun ns => Vl.v (.int ns.sum)) = some vl := h
  cases hz : intsOf ds with
  | none => rw [hz] at h'; cases h'
  | some ns =>
    rw [hz] at h'; cases h'
    obtain ⟨p, vs, rfl, h1, h2⟩ := hx
    rw [ints_rp h2 hz] at h1
    exact ⟨p, ns, rfl, rd_sq h1, q _ F H (Res.val g (.int _))⟩) fun _ _ h => by unfold sumD at h; split at h <;> first | exact ⟨_, rfl⟩ | cases h
/-! in, not in -/
theorem opl_in : OpR X (compareOp .In) (fun x y H Q => rIn X.K false x y H Q ∨ ∃ i j, x = .str i ∧ y = .str j ∧ Q (.bl (!(Builtin.Str.occurrences j i 0 j.length 1).isEmpty)) H) := op_in_seq.or op_in_str
theorem opl_nin : OpR X (compareOp .NotIn) (fun x y H Q => rIn X.K true x y H Q ∨ ∃ i j, x = .str i ∧ y = .str j ∧ Q (.bl (!(!(Builtin.Str.occurrences j i 0 j.length 1).isEmpty))) H) := op_notIn_seq.or op_notin_str
end
def flD : D → Bool
  | .none => true
  | .bool _ => true
  | .int _ => true
  | .str _ => true
  | _ => false
def inB : D → D → Option Bool
  | .str a, .str b => some (!(Builtin.Str.occurrences b a 0 b.length 1).isEmpty)
  | d, .tuple ds => if (flD d && ds.all flD) = true then some (ds.any fun z => PyData.eqv z d) else none
  | d, .list ds => if (flD d && ds.all flD) = true then some (ds.any fun z => PyData.eqv z d) else none
  | _, _ => none
def inD (d e : D) : Option Vl := (inB d e).map fun b => .v (.bool b)
def ninD (d e : D) : Option Vl := (inB d e).map fun b => .v (.bool (!b))
section
variable {F H : Hp} {x y : V} {d e : D}
theorem fl_V (h : Rp F x d) (f : flD d = true) : flatV x = true := by
  cases h <;> first | rfl | cases f
theorem fl_eqv {z : D} {w : V} (h : Rp F x d) (f : flD d = true) (h' : Rp F w z) (f' : flD z = true) : eqV w x = PyData.eqv z d := by
  cases h <;> cases h' <;> first | cases f; done | cases f'; done | simp [eqV, PyData.eqv]
theorem fl_all : ∀ {ds : List D} {vs : List V}, RpAll F vs ds → ds.all flD = true → vs.all flatV = true
  | [], _, .nil, _ => rfl
  | d :: ds, _, .cons a b, f => by
    rw [List.all_cons, Bool.and_eq_true] at f ⊢
    exact ⟨fl_V a f.1, fl_all b f.2⟩
theorem fl_any (h : Rp F x d) (f : flD d = true) : ∀ {ds : List D} {vs : List V}, RpAll F vs ds → ds.all flD = true → inV x vs = ds.any fun z => PyData.eqv z d
  | [], _, .nil, _ => rfl
  | z :: ds, _, .cons a b, g => by
    rw [List.all_cons, Bool.and_eq_true] at g
    have ih := fl_any h f b g.2
    unfold inV at ih ⊢
    rw [List.any_cons, List.any_cons, ih, fl_eqv h f a g.1]
theorem fl_rp (h : Cont F H x d) (f : flD d = true) : Rp F x d := by
  cases d <;> first | exact h | cases f
theorem inB_ok {K : PySem.W.Frag} {b : Bool} (g : Same F H) (hx : Cont F H x d) (hy : Cont F H y e) (h : inB d e = some b) :
    (∃ p xs, y = .ref p ∧ (SqL K H p xs ∨ SqT K H p xs) ∧ flatV x = true ∧ xs.all flatV = true ∧ inV x xs = b) ∨ ∃ i j, x = .str i ∧ y = .str j ∧ (!(Builtin.Str.occurrences j i 0 j.length 1).isEmpty) = b := by
  have seq : ∀ {ds : List D} {p : Addr} {xs : List V}, y = .ref p → (SqL K H p xs ∨ SqT K H p xs) → RpAll F xs ds → (if (flD d && ds.all flD) = true then some (ds.any fun z => PyData.eqv z d) else none) = some b → (∃ p xs, y = .ref p ∧ (SqL K H p xs ∨ SqT K H p xs) ∧ flatV x = true ∧ xs.all flatV = true ∧ inV x xs = b) := fun {ds p xs} e1 e2 e3 e4 => by
    by_cases hf : (flD d && ds.all flD) = true
    · rw [if_pos hf] at e4
      rw [Bool.and_eq_true] at hf
      have hd := fl_rp hx hf.1
      exact ⟨p, xs, e1, e2, fl_V hd hf.1, fl_all e3 hf.2, by rw [fl_any hd hf.1 e3 hf.2]; exact Option.some.inj e4⟩
    · rw [if_neg hf] at e4; cases e4
  cases e with
  | tuple ds =>
    cases hy with
    | tup h1 h2 => exact .inl (seq rfl (.inr (.inl (rd_mono g (Rd.of h1)))) h2 (by cases d <;> exact h))
  | list ds =>
    obtain ⟨p, vs, rfl, h1, h2⟩ := hy
    exact .inl (seq rfl (.inl (rd_sq h1)) h2 (by cases d <;> exact h))
  | str z =>
    cases d with
    | str a => cases hx; cases hy; cases h; exact .inr ⟨_, _, rfl, rfl, rfl⟩
    | _ => cases h
  | _ => cases d <;> cases h
theorem ap_in {K : PySem.W.Frag} : Op2 (fun x y H Q => rIn K false x y H Q ∨ ∃ i j, x = .str i ∧ y = .str j ∧ Q (.bl (!(Builtin.Str.occurrences j i 0 j.length 1).isEmpty)) H) inD := fun F H x y d e vl Qq g hx hy h q => by
  unfold inD at h
  cases hb : inB d e with
  | none => rw [hb] at h; exact nomatch h
  | some b =>
    rw [hb] at h; cases h
    have fin := q (.bl b) F H (Res.val g (.bl b))
    rcases inB_ok (K := K) g hx hy hb with ⟨p, xs, e1, e2, e3, e4, e5⟩ | ⟨i, j, e1, e2, e3⟩
    · exact .inl ⟨p, xs, e1, e2, e3, e4, by subst e5; exact fin⟩
    · exact .inr ⟨i, j, e1, e2, by subst e3; exact fin⟩
theorem ap_nin {K : PySem.W.Frag} : Op2 (fun x y H Q => rIn K true x y H Q ∨ ∃ i j, x = .str i ∧ y = .str j ∧ Q (.bl (!(!(Builtin.Str.occurrences j i 0 j.length 1).isEmpty))) H) ninD := fun F H x y d e vl Qq g hx hy h q => by
  unfold ninD at h
  cases hb : inB d e with
  | none => rw [hb] at h; exact nomatch h
  | some b =>
    rw [hb] at h; cases h
    have fin := q (.bl (!b)) F H (Res.val g (.bl (!b)))
    rcases inB_ok (K := K) g hx hy hb with ⟨p, xs, e1, e2, e3, e4, e5⟩ | ⟨i, j, e1, e2, e3⟩
    · exact .inl ⟨p, xs, e1, e2, e3, e4, by subst e5; exact fin⟩
    · exact .inr ⟨i, j, e1, e2, by subst e3; exact fin⟩
end
end
end Q
namespace Q
noncomputable section
open PySem L2
/-! ### displays, slices, isinstance -/
def SO (ξ : Addr × Nat) (W : WX) (cr : Nat → Value) (to : TO) (f : Option Ev) : Prop := ∀ (k : Option Int → En → R Vl) (F0 H0 : Hp) (env : En) (σ : St) (F H : Hp) (Qq : Option Int → Hp → Prop), Sim ξ F0 H0 env σ F H → optI f k env ≠ .no →
  (∀ o e1, optI f k env = k o e1 → ∀ F' H', Sim ξ F0 H0 e1 σ F' H' → Same F F' → Same H H' → Qq o H') →
  (∀ c e1, optI f k env = .err c e1 → ∀ F' H', Sim ξ F0 H0 e1 σ F' H' → W (cr c) none σ H') → to σ H Qq
def JO (X : Cx) (ξ : Addr × Nat) (W : WX) (cr : Nat → Value) (e : Option Expr) (f : Option Ev) : Prop := ∃ to, PO X e to ∧ SO ξ W cr to f ∧ ∀ k : Option Int → En → R Vl, (∀ o, NN (k o)) → NN (optI f k)
section
variable {X : Cx} {ξ : Addr × Nat} {W : WX} {cr : Nat → Value} {pos : Pos} {a b c e : Expr} {fa fb fc f : Ev} {es : List Expr} {fs : List Ev} {F0 H0 F H F' H' : Hp} {env env' : En} {σ : St}
theorem jo_none : JO X ξ W cr none none := ⟨_, po_none, fun k F0 H0 env σ F H Qq s ne ok er => ok none env rfl F H s (.refl _) (.refl _), fun k h => h none⟩
def intK (k : Option Int → En → R Vl) : D → En → R Vl := fun d e => match d with
  | .int i => k (some i) e
  | _ => .no
theorem jo_some (h : JE X ξ W cr e f) : JO X ξ W cr (some e) (some f) := by
  obtain ⟨te, h1, h2, h3⟩ := h
  refine ⟨_, po_some h1, fun k F0 H0 env σ F H Qq s ne ok er => ?_, fun k hk => nn_bnd h3 fun d => ?_⟩
  · refine se_bnd (k := intK k) h2 s ne (fun d e1 q v F1 H1 s1 f1 g1 c1 => ?_) er
    have q' : optI (some f) k env = intK k d e1 := q
    cases d with
    | int i => cases c1; exact ⟨i, rfl, ok (some i) e1 q' F1 H1 s1 f1 g1⟩
    | _ => exact absurd q' ne
  · cases d with
    | int i => exact hk (some i)
    | _ => exact nn_no
def rSlQ (K : PySem.W.Frag) : V → Option Int → Option Int → Hp → VK → Prop := fun x lo hi H Q => rSlL K x lo hi H Q ∨ rSlA K x lo hi H Q ∨ rSlS x lo hi H Q
theorem sl_Q : SlR X (rSlQ X.K) := sl_list.or (sl_tupA.or sl_str)
theorem cut_rp {vs : List V} {ds : List D} {lo hi : Option Int} (h : RpAll F vs ds) : RpAll F (cutV vs lo hi) (cutD ds lo hi) := by
  unfold cutV cutD
  rw [h.length]
  exact (h.drop _).take _
theorem cut_whole {ds : List D} {lo hi : Option Int} (h : HT.sIx ds.length 0 lo = 0 ∧ HT.sIx ds.length ds.length hi = ds.length) : cutD ds lo hi = ds := by
  unfold cutD
  rw [h.1, h.2, List.drop_zero, Nat.sub_zero, List.take_length]
theorem sl_ok {K : PySem.W.Frag} {x : V} {d : D} {lo hi : Option Int} {vl : Vl} {Qq : VK} (g : Same F H) (hx : Cont F H x d) (h : sliD d lo hi = some vl) (q : ∀ v F' H', Res F H F' H' v vl → Qq v H') : rSlQ K x lo hi H Qq := by
  cases d with
  | list ds =>
    cases h
    obtain ⟨p, vs, rfl, h1, h2⟩ := hx
    exact .inl ⟨p, vs, rfl, rd_sq h1, fun l hl => q _ F _ (Res.lst g hl (cut_rp h2))⟩
  | tuple ds =>
    cases h
    cases hx with
    | @tup p vs _ h1 h2 =>
      refine .inr (.inl ⟨p, vs, rfl, .inl (rd_mono g (Rd.of h1)), fun z => ?_, fun _ l hl => q _ _ _ (Res.tup g hl (cut_rp h2))⟩)
      rw [cut_whole (by rw [← h2.length]; exact z)] at q
      exact q _ F H (Res.val g (.tup h1 h2))
  | str z =>
    have h' : (if z.length ≤ LIM then some (Vl.v (.str (cutS z lo hi))) else none) = some vl := h
    by_cases hl : z.length ≤ LIM
    · rw [if_pos hl] at h'; cases h'; cases hx
      exact .inr (.inr ⟨z, rfl, by rw [← LIM_eq]; exact hl, q _ F H (Res.val g (.str _))⟩)
    · rw [if_neg hl] at h'; cases h'
  | _ => cases h
theorem je_sli {lo hi : Option Expr} {fl fh : Option Ev} {p2 : Pos} (he : JE X ξ W cr e f) (hl : JO X ξ W cr lo fl) (hh : JO X ξ W cr hi fh) : JE X ξ W cr (.Subscript e (.Slice lo hi none p2) pos) (sliE f fl fh) := by
  obtain ⟨te, a1, a2, a3⟩ := he
  obtain ⟨tl, b1, b2, b3⟩ := hl
  obtain ⟨th, c1, c2, c3⟩ := hh
  refine ⟨_, pe_slice sl_Q a1 b1 c1, fun F0 H0 env σ F H Qq s ne ok er => ?_, nn_bnd a3 fun d => b3 _ fun l => c3 _ fun h => nn_out _⟩
  refine se_bnd (k := fun d => optI fl fun l => optI fh fun h e => out (sliD d l h) e) a2 s ne (fun d e1 h1 v F1 H1 s1 f1 g1 k1 => ?_) er
  have q1 : sliE f fl fh env = optI fl (fun l => optI fh fun h e => out (sliD d l h) e) e1 := h1
  refine b2 (fun l => optI fh fun h e => out (sliD d l h) e) F0 H0 e1 σ F1 H1 _ s1 (by rw [← q1]; exact ne) (fun l e2 h2 F2 H2 s2 f2 g2 => ?_) fun c e2 h2 => er c e2 (q1.trans h2)
  have q2 := q1.trans h2
  refine c2 (fun h e => out (sliD d l h) e) F0 H0 e2 σ F2 H2 _ s2 (by rw [← q2]; exact ne) (fun u e3 h3 F3 H3 s3 f3 g3 => ?_) fun c e3 h3 => er c e3 (q2.trans h3)
  have q3 := q2.trans h3
  cases hg : sliD d l u with
  | none => rw [hg] at q3; exact absurd q3 ne
  | some vl =>
    rw [hg] at q3
    refine sl_ok s3.fh ((k1.mono f2 g2).mono f3 g3) hg fun z F4 H4 res => ?_
    obtain ⟨s4, ok4⟩ := res.ok s3
    exact ok vl e3 q3 z F4 H4 s4 (((f1.trans f2).trans f3).trans res.1.f) (((g1.trans g2).trans g3).trans res.1.h) ok4
theorem je_ix (ha : JE X ξ W cr a fa) (hb : JE X ξ W cr b fb) (hs : PlainIx b := by exact fun _ _ => rfl) : JE X ξ W cr (.Subscript a b pos) (op2 ixD fa fb) :=
  let ⟨_, a1, a2, a3⟩ := ha; let ⟨_, b1, b2, b3⟩ := hb; ⟨_, pe_ix ix_seq a1 b1 hs, se_op2 ap_ix a2 b2, nn_op2 a3 b3⟩
theorem all_s : ∀ {fs : List Ev} {env e : En} {as : List Ar}, args (fs.map fun f => (true, f)) env = .ok as e → ∀ a ∈ as, ∃ d, a = .s d
  | [], _, _, _, h, a, ha => by cases h; cases ha
  | f :: fs, env, e, as, h, a, ha => by
    have h' : (match argE true f env with
      | .ok a e => match args (fs.map fun f => (true, f)) e with
        | .ok as e' => .ok (a :: as) e'
        | .err c e' => .err c e'
        | .no => .no
      | .err c e => .err c e
      | .no => .no) = R.ok as e := h
    cases h1 : argE true f env with
    | ok b e1 =>
      simp only [h1] at h'
      cases h2 : args (fs.map fun f => (true, f)) e1 with
      | ok bs e2 =>
        simp only [h2] at h'
        cases h'
        rcases List.mem_cons.mp ha with rfl | hb
        · cases a with
          | s d => exact ⟨d, rfl⟩
          | c d => exact (argE_s h1).elim
        · exact all_s h2 a hb
      | err c e2 => simp only [h2] at h'; cases h'
      | no => simp only [h2] at h'; cases h'
    | err c e1 => simp only [h1] at h'; cases h'
    | no => simp only [h1] at h'; cases h'
theorem ars_rp : ∀ {vs : List V} {as : List Ar}, ArsOk F H vs as → (∀ a ∈ as, ∃ d, a = .s d) → RpAll F vs (as.map Ar.d)
  | _, _, .nil, _ => .nil
  | _, _, .cons (a := a) h hs, hc => by
    obtain ⟨d, rfl⟩ := hc a List.mem_cons_self
    exact .cons h (ars_rp hs fun b hb => hc b (List.mem_cons_of_mem _ hb))
theorem je_tup {k : Nat} (ha : JA X ξ W cr es (args (fs.map fun f => (true, f)))) (hn : fs.length ≤ 1000 := by decide) : JE X ξ W cr (.Tuple es k pos) (tupE fs) := by
  obtain ⟨ta, a1, a2, a3⟩ := ha
  refine ⟨_, pe_tup a1, fun F0 H0 env σ F H Qq s ne ok er => ?_, fun env a env' q i hi => ?_⟩
  · refine a2 F0 H0 env σ F H _ s (fun z => ne (by unfold tupE; simp only [z])) (fun as e1 h1 vs F1 H1 s1 f1 g1 b1 => ?_) fun c e1 h1 => er c e1 (by unfold tupE; simp only [h1])
    have hl : as.length = fs.length := by rw [args_len h1, List.length_map]
    refine ⟨by rw [arsOk_len b1, hl]; exact Nat.le_trans hn (by decide), fun p hp => ?_⟩
    have res := Res.tup s1.fh hp (ars_rp b1 (all_s h1))
    obtain ⟨s2, ok2⟩ := res.ok s1
    exact ok _ e1 (by unfold tupE; simp only [h1]) _ _ _ s2 (f1.trans res.1.f) (g1.trans res.1.h) ok2
  · unfold tupE at q
    cases h1 : args (fs.map fun f => (true, f)) env with
    | ok as e => simp only [h1] at q; cases q; exact a3 env _ _ h1 i hi
    | err c e => simp only [h1] at q; cases q
    | no => simp only [h1] at q; cases q
theorem je_lst (ha : JA X ξ W cr es (args (fs.map fun f => (true, f)))) (hn : fs.length ≤ 1000 := by decide) : JE X ξ W cr (.List es pos) (lstE fs) := by
  obtain ⟨ta, a1, a2, a3⟩ := ha
  refine ⟨_, pe_lst a1, fun F0 H0 env σ F H Qq s ne ok er => ?_, fun env a env' q i hi => ?_⟩
  · refine a2 F0 H0 env σ F H _ s (fun z => ne (by unfold lstE; simp only [z])) (fun as e1 h1 vs F1 H1 s1 f1 g1 b1 => ?_) fun c e1 h1 => er c e1 (by unfold lstE; simp only [h1])
    have hl : as.length = fs.length := by rw [args_len h1, List.length_map]
    refine ⟨by rw [arsOk_len b1, hl]; exact Nat.le_trans hn (by decide), fun p hp => ?_⟩
    have res := Res.lst s1.fh hp (ars_rp b1 (all_s h1))
    obtain ⟨s2, ok2⟩ := res.ok s1
    exact ok _ e1 (by unfold lstE; simp only [h1]) _ _ _ s2 (f1.trans res.1.f) (g1.trans res.1.h) ok2
  · unfold lstE at q
    cases h1 : args (fs.map fun f => (true, f)) env with
    | ok as e => simp only [h1] at q; cases q; exact a3 env _ _ h1 i hi
    | err c e => simp only [h1] at q; cases q
    | no => simp only [h1] at q; cases q
theorem je_bltn {r : List V → Hp → VK → Prop} {g : List D → Option Vl} {id : String} {x : Str} {p : Pos} (hc : CallR X (.builtin id) r) (hr : OpN r g) (hg : Gl X x) (hm : X.mg x = none) (hv : bootBuiltins x = some (.builtin id)) (ha : JA X ξ W cr (e :: es) (args (fs.map fun f => (false, f))))
    (hn : x ≠ "__name__" := by decide) (hdb : (x == ("__debug__" : Str)) = false := by decide) (hs1 : starEach (e :: es) X.env = (false, eval e X.env) :: starEach es X.env := by rfl) (hs2 : (backTo pos (starEach es X.env)).any (·.1) = false := by rfl) : JE X ξ W cr (.Call (.Name x p) (e :: es) [] pos) (opN g fs) :=
  let ⟨_, a1, a2, a3⟩ := ha; ⟨_, pe_callB hc hg hm hv a1 hn hdb hs1 hs2, se_opN hr a2, nn_opN a3⟩
theorem je_bltT {r : List V → Hp → VK → Prop} {g : List D → Option Vl} {T : String} {x : Str} {p : Pos} (hc : CallR X (.type T) r) (hr : OpN r g) (hg : Gl X x) (hm : X.mg x = none) (hv : bootBuiltins x = some (.type T)) (ha : JA X ξ W cr (e :: es) (args (fs.map fun f => (false, f))))
    (hn : x ≠ "__name__" := by decide) (hdb : (x == ("__debug__" : Str)) = false := by decide) (hs1 : starEach (e :: es) X.env = (false, eval e X.env) :: starEach es X.env := by rfl) (hs2 : (backTo pos (starEach es X.env)).any (·.1) = false := by rfl) : JE X ξ W cr (.Call (.Name x p) (e :: es) [] pos) (opN g fs) :=
  let ⟨_, a1, a2, a3⟩ := ha; ⟨_, pe_callTy hc hg hm hv a1 hn hdb hs1 hs2, se_opN hr a2, nn_opN a3⟩
theorem je_glob {x : Str} {i : Int} {t : Tok} (hg : Gl X x) (hm : X.mg x = some (.int i t)) (hd : (x == ("__debug__" : Str)) = false := by decide) : JE X ξ W cr (.Name x pos) (cE (.int i)) := ⟨_, pe_glob (v := .int i) hg hm ⟨t, rfl⟩ hd, se_c (fun _ => .int i), nn_ok _⟩
theorem je_globS {x : Str} {i : Str} {t : Tok} (hg : Gl X x) (hm : X.mg x = some (.str i t)) (hd : (x == ("__debug__" : Str)) = false := by decide) : JE X ξ W cr (.Name x pos) (cE (.str i)) := ⟨_, pe_glob (v := .str i) hg hm ⟨t, rfl⟩ hd, se_c (fun _ => .str i), nn_ok _⟩
def kNames : List String := ["NoneType", "bool", "int", "str", "list", "tuple", "dict"]
def KitOk (T : String) : Prop := ∀ n ∈ kNames, kitB n T = some (n == T || (n == "bool" && T == "int"))
theorem kit_int : KitOk "int" := by unfold KitOk kNames; decide +kernel
theorem kit_bool : KitOk "bool" := by unfold KitOk kNames; decide +kernel
theorem kit_str : KitOk "str" := by unfold KitOk kNames; decide +kernel
theorem kit_list : KitOk "list" := by unfold KitOk kNames; decide +kernel
theorem kit_tuple : KitOk "tuple" := by unfold KitOk kNames; decide +kernel
theorem tyN_mem (d : D) : tyN d ∈ kNames := by cases d <;> simp [tyN, kNames]
theorem cont_ty {K : PySem.W.Frag} {x : V} {d : D} (g : Same F H) (h : Cont F H x d) : TyX K H x (.type (tyN d)) := by
  cases d with
  | list ds =>
    obtain ⟨p, vs, rfl, h1, _⟩ := h
    rcases h1 with h1 | ⟨o, h1⟩
    · exact .base (.lst h1)
    · exact .base (.frz h1)
  | tuple ds =>
    cases h with
    | tup h1 _ =>
      rcases rd_mono g (Rd.of h1) with h1 | ⟨o, h1⟩
      · exact .base (.tup h1)
      · exact .fTuple h1
  | none => cases h; exact .base .non
  | bool b => cases h; exact .base (.bl b)
  | int b => cases h; exact .base (.int b)
  | str b => cases h; exact .base (.str b)
  | dict kvs =>
    cases h with
    | dic h1 =>
      rcases rd_mono g h1 with h1 | ⟨o, h1⟩
      · exact .base (.dK h1)
      · exact .fDict h1
theorem je_isi {T : String} {x : Str} {p p2 : Pos} (ht : KitOk T) (hg : Gl X "isinstance") (hm : X.mg "isinstance" = none) (hgT : Gl X x) (hmT : X.mg x = none) (hvT : bootBuiltins x = some (.type T)) (he : JE X ξ W cr e f)
    (hn : x ≠ "__name__" := by decide) (hd : (x == ("__debug__" : Str)) = false := by decide)
    (hs1 : starEach [e, .Name x p2] X.env = (false, eval e X.env) :: starEach [.Name x p2] X.env := by rfl) (hs2 : (backTo pos (starEach [.Name x p2] X.env)).any (·.1) = false := by rfl) (hs3 : starEach [.Name x p2] X.env = (false, eval (.Name x p2) X.env) :: starEach [] X.env := by rfl) :
    JE X ξ W cr (.Call (.Name "isinstance" p) [e, .Name x p2] [] pos) (isiE T f) := by
  obtain ⟨te, a1, a2, a3⟩ := he
  refine ⟨_, pe_callB call_isi hg hm (by decide +kernel) (pa_cons a1 (pa_cons (pe_bltn (v := .ty T) hgT hmT hvT rfl hn hd) pa_nil hs3) hs1) (by decide) (by decide) hs1 hs2, fun F0 H0 env σ F H Qq s ne ok er => ?_, nn_bnd a3 fun d => nn_ok _⟩
  refine se_bnd (k := fun d e => R.ok (Vl.v (.bool (isiD T d))) e) a2 s ne (fun d e1 h1 v F1 H1 s1 f1 g1 c1 => ?_) er
  have q1 : isiE T f env = .ok (.v (.bool (isiD T d))) e1 := h1
  refine ⟨v, .ty T, .type (tyN d), .type T, isiD T d, rfl, .ty T, cont_ty s1.fh c1, kit_ty (ht _ (tyN_mem d)), ok _ e1 q1 _ F1 H1 s1 f1 g1 (.bl _)⟩
/-- {i: j}: which one it is isn't told -/
def dic1E : Ev := fun env => .ok (.v (.dict [])) env
theorem je_dic1 {i j : Int} {k1 k2 : Nat} {p1 p2 : Pos} : JE X ξ W cr (.Dict [some (.Constant (.int i) k1 p1)] [.Constant (.int j) k2 p2] pos) dic1E := by
  refine ⟨_, pe_disp (pps_cons pe_int pe_int pps_nil) rfl rfl (by simp) (by simp), fun F0 H0 env σ F H Qq s ne ok er => ?_, nn_ok _⟩
  intro p hp
  refine ⟨upd_same, [(Sum.inl i, V.int j)], rfl, by simp, ?_⟩
  have e : upd (upd H p (.dK [])) p (.dK (mergeK [] [(Sum.inl i, V.int j)])) = upd H p (.dK (mergeK [] [(Sum.inl i, V.int j)])) := upd_upd
  rw [e]
  have gr : Gr F H _ _ := Gr.data s.fh hp (o := .dK (mergeK [] [(Sum.inl i, V.int j)]))
  exact ok (.v (.dict [])) env rfl _ _ _ (s.grow gr) gr.f gr.h (.dic (Rd.of upd_same))
/-! ### errors -/
structure ExcAt (X : Cx) (x : Str) (C : Addr) : Prop where
  q : PySem.W.excIn X.K C [.type "ValueError", .type "Exception", .type "BaseException", .type "object"] "ValueError.__new__" = true
  g : X.mg x = some (.ref C)
  k : PySem.W.keepIn X.K (.ref C) = true
  b : PySem.W.subIn X.K (.ref C) (.type "BaseException") = some true
  t : PySem.W.typeIn X.K (.ref C) = some (.type "type")
theorem js_raise {x m : Str} {C : Addr} {c j : Nat} {p p2 pos' : Pos} (hc : X.calm = true) (tk : Takes X W) (h : ExcAt X x C) (hcr : cr c = .ref C) (hg : Gl X x) (hdb : (x == ("__debug__" : Str)) = false := by decide) : JS X ξ W cr (.Raise (some (.Call (.Name x p) [.Constant (.str m) j p2] [] pos')) none pos) (errS c) :=
  ⟨_, ps_raise hc tk (pmk_own PySem.F.excBase_ValueError h.q h.g h.k (raises_own h.b h.t) hg hdb), fun F0 H0 env σ F H De s _ _ _ _ _ er => by
    have := er c env rfl σ F H s
    rw [hcr] at this
    exact this⟩
def clr : Sl → Sl
  | .x _ => .un
  | s => s
def clrS : RS → RS
  | .nx e => .nx (e.map clr)
  | .bk e => .bk (e.map clr)
  | .ct e => .ct (e.map clr)
  | .rt v => .rt v
  | _ => .no
def hand : List (List Bool × Sv) → Nat → En → RS
  | [], c, e => .err c e
  | (l, s) :: r, c, e => match l[c]? with
    | some true => clrS (s (e.map clr))
    | some false => hand r c e
    | none => .no
def tryS (b : Sv) (hs : List (List Bool × Sv)) : Sv := fun env => match b env with
  | .err c e => hand hs c e
  | r => r
def unx (i : Nat) : RS → RS
  | .nx e => .nx ((e.map clr).set i .un)
  | .bk e => .bk ((e.map clr).set i .un)
  | .ct e => .ct ((e.map clr).set i .un)
  | .rt v => .rt v
  | _ => .no
def tryAs (b : Sv) (i : Nat) (l : List Bool) (s : Sv) : Sv := fun env => match b env with
  | .err c e => match l[c]? with
    | some true => unx i (s ((e.map clr).set i (.x c)))
    | some false => .err c e
    | none => .no
  | r => r
theorem gt_clr (e : En) (i : Nat) : gt (e.map clr) i = clr (gt e i) := by
  unfold gt
  simp only [List.getD_eq_getElem?_getD, List.getElem?_map]
  cases e[i]? <;> rfl
theorem clr_own (x : Sl) : (clr x).own = x.own := by cases x <;> rfl
theorem sim_clr {ξ' : Addr × Nat} (s : Sim ξ F0 H0 env σ F H) : Sim ξ' F0 H0 (env.map clr) σ F H := by
  refine ⟨s.f, s.h, s.fh, s.n, by rw [List.length_map]; exact s.len, fun i => ?_, fun i j a hi hj => ?_⟩
  · rw [gt_clr]
    have q := s.sl i
    cases hs : gt env i with
    | x c => trivial
    | un => trivial
    | _ => rw [hs] at q; exact q
  · rw [gt_clr, clr_own] at hi hj
    exact s.sep i j a hi hj
def tsX (cr : Nat → Value) (s : Sv) : Addr → Value → Option Addr → TS := fun a cls d De σ H => ∃ c, cls = cr c ∧ d = none ∧ tsOf (a, c) W0 cr s De σ H
def HJ (X : Cx) (cr : Nat → Value) (b₀ : Stmt) (suite : List Stmt) (s : Sv) : Prop := ∀ (a : Addr) (oe : Obj) (c : Nat) (pn : List (Addr × Obj)), Zc (cr c) none oe → (∃ vs, oe.data = .fields vs) → JSs (X.suite a ((a, oe) :: pn)) (a, c) W0 cr (b₀ :: suite) s
theorem HJ.ps {b₀ : Stmt} {suite : List Stmt} {s : Sv} (h : HJ X cr b₀ suite s) : ∀ (a : Addr) (oe : Obj) (cls : Value) (d : Option Addr) (pn : List (Addr × Obj)), Zc cls d oe → (∃ vs, oe.data = .fields vs) → PSs (X.suite a ((a, oe) :: pn)) (b₀ :: suite) (tsX cr s a cls d) := fun a oe cls d pn hz hf => ⟨fun pins s' σ H De I ⟨c, e1, e2, q⟩ => by
  subst e1; subst e2
  exact (h a oe c pn hz hf).ps.run pins s' σ H De I q⟩
/-- the clauses of a try -/
inductive HJs (X : Cx) (cr : Nat → Value) : List ExceptHandler → List (Value × List Bool × Sv) → Prop
  | nil : HJs X cr [] []
  | cons {x : Str} {hv : Value} {l : List Bool} {s : Sv} {b₀ : Stmt} {suite : List Stmt} {np pos' : Pos} {hds : List ExceptHandler} {r : List (Value × List Bool × Sv)} (hc : Names X x hv) (hl : ∀ c b, l[c]? = some b → PySem.W.exmOne X.K (cr c) hv = some b)
      (h : HJ X cr b₀ suite s) (hr : HJs X cr hds r) : HJs X cr (.ExceptHandler (some (.Name x np)) none (b₀ :: suite) pos' :: hds) ((hv, l, s) :: r)
theorem HJs.ok : ∀ {hds : List ExceptHandler} {r : List (Value × List Bool × Sv)}, HJs X cr hds r → HdsOk X hds (r.map fun p => (p.1, tsX cr p.2.2))
  | _, _, .nil => .nil
  | _, _, .cons hc _ h hr => .cons hc h.ps hr.ok
theorem hand_ok {De : Ends} {c : Nat} {e : En} {σ' : St} (s : Sim ξ F0 H0 e σ' F' H') (f : Same F F') : ∀ {hds : List ExceptHandler} {r : List (Value × List Bool × Sv)}, HJs X cr hds r → hand (r.map (·.2)) c e ≠ .no →
    (∀ e', hand (r.map (·.2)) c e = .nx e' → ∀ σ' F' H', Sim ξ F0 H0 e' σ' F' H' → Same F F' → De.nx σ' H') →
    (∀ vl, hand (r.map (·.2)) c e = .rt vl → ∀ v F' H', Res F0 H0 F' H' v vl → De.rt v H') →
    (∀ e', hand (r.map (·.2)) c e = .bk e' → ∀ σ' F' H', Sim ξ F0 H0 e' σ' F' H' → Same F F' → De.bk σ' H') →
    (∀ e', hand (r.map (·.2)) c e = .ct e' → ∀ σ' F' H', Sim ξ F0 H0 e' σ' F' H' → Same F F' → De.ct σ' H') →
    (∀ c' e', hand (r.map (·.2)) c e = .err c' e' → ∀ σ' F' H', Sim ξ F0 H0 e' σ' F' H' → W (cr c') none σ' H') →
    wMany X.K W De (r.map fun p => (p.1, tsX cr p.2.2)) (cr c) none σ' H'
  | _, _, .nil, ne, nx, rt, bk, ct, er => er c e rfl σ' F' H' s
  | _, _, .cons (hv := hv) (l := l) (s := sv) (r := r) hc hl h hr, ne, nx, rt, bk, ct, er => by
    have un : hand (((hv, l, sv) :: r).map (·.2)) c e = match l[c]? with
      | some true => clrS (sv (e.map clr))
      | some false => hand (r.map (·.2)) c e
      | none => .no := rfl
    cases hq : l[c]? with
    | none => exact absurd (by rw [un]; simp only [hq]) ne
    | some b =>
      refine ⟨b, hl c b hq, fun hb a ha => ?_, fun hb => ?_⟩
      · subst hb
        simp only [hq] at un
        refine ⟨c, rfl, rfl, F0, H0, e.map clr, F', sim_clr s, fun z => ne (by rw [un, show sv (e.map clr) = _ from z]; rfl), fun e' h1 σ2 F2 H2 s2 f2 => ?_, fun vl h1 v F2 H2 res => ?_, fun e' h1 σ2 F2 H2 s2 f2 => ?_, fun e' h1 σ2 F2 H2 s2 f2 => ?_, fun c' e' h1 => ?_⟩
        · exact nx (e'.map clr) (by rw [un, show sv (e.map clr) = _ from h1]; rfl) σ2 F2 H2 (sim_clr s2) (f.trans f2)
        · exact rt vl (by rw [un, show sv (e.map clr) = _ from h1]; rfl) v F2 H2 res
        · exact bk (e'.map clr) (by rw [un, show sv (e.map clr) = _ from h1]; rfl) σ2 F2 H2 (sim_clr s2) (f.trans f2)
        · exact ct (e'.map clr) (by rw [un, show sv (e.map clr) = _ from h1]; rfl) σ2 F2 H2 (sim_clr s2) (f.trans f2)
        · exact absurd (by rw [un, show sv (e.map clr) = _ from h1]; rfl) ne
      · subst hb
        simp only [hq] at un
        exact hand_ok s f hr (by rw [← un]; exact ne) (fun e' z => nx e' (un.trans z)) (fun v z => rt v (un.trans z)) (fun e' z => bk e' (un.trans z)) (fun e' z => ct e' (un.trans z)) fun c' e' z => er c' e' (un.trans z)
theorem sim_base (s : Sim ξ F0 H0 env σ F H) : Sim ξ F H0 env σ F H := ⟨.refl _, s.h, s.fh, fun _ _ e => .inl e, s.len, s.sl, s.sep⟩
theorem sim_unbase (s0 : Sim ξ F0 H0 env σ F H) {e' : En} {σ' : St} (s : Sim ξ F H0 e' σ' F' H') : Sim ξ F0 H0 e' σ' F' H' := ⟨s0.f.trans s.f, s.h, s.fh, fun a o e => by
  rcases s.n a o e with q | q
  · exact s0.n a o q
  · exact .inr q, s.len, s.sl, s.sep⟩
theorem res_unbase (s0 : Sim ξ F0 H0 env σ F H) {v : V} {vl : Vl} (r : Res F H0 F' H' v vl) : Res F0 H0 F' H' v vl := by
  obtain ⟨g, q⟩ := r
  refine ⟨⟨s0.f.trans g.f, g.h, g.fh, fun a o e => ?_⟩, q⟩
  rcases g.n a o e with q | q
  · exact s0.n a o q
  · exact .inr q
theorem js_try {body : List Stmt} {h₀ : ExceptHandler} {hds : List ExceptHandler} {b : Sv} {r : List (Value × List Bool × Sv)} (hs : X.stack = X.env :: X.outer) (hf : X.env.frame = some X.env.locals) (tk : Takes X W)
    (hb : ∀ (W : WX) (pn : List (Addr × Obj)) (xe : Value → Shared → Prop), Takes (X.tr pn xe) W → PassesOwn (model X.prog X.w) X.A X.env xe → JSs (X.tr pn xe) ξ W cr body b) (hh : HJs X cr (h₀ :: hds) r) : JS X ξ W cr (.Try body (h₀ :: hds) [] [] pos) (tryS b (r.map (·.2))) := by
  refine ⟨_, ps_try_many (tb := fun W => tsOf ξ W cr b) hs hf tk (fun W pn xe t p => (hb W pn xe t p).ps) hh.ok, fun F0 H0 env σ F H De s ne nx rt bk ct er => ?_⟩
  have un : tryS b (r.map (·.2)) env = match b env with
    | .err c e => hand (r.map (·.2)) c e
    | r => r := rfl
  refine ⟨F, H0, env, F, sim_base s, fun z => ne (by rw [un]; simp only [z]), fun e' h1 σ' F' H' s' f' => nx e' (by rw [un]; simp only [h1]) σ' F' H' (sim_unbase s s') f', fun vl h1 v F' H' res => rt vl (by rw [un]; simp only [h1]) v F' H' (res_unbase s res),
    fun e' h1 σ' F' H' s' f' => bk e' (by rw [un]; simp only [h1]) σ' F' H' (sim_unbase s s') f', fun e' h1 σ' F' H' s' f' => ct e' (by rw [un]; simp only [h1]) σ' F' H' (sim_unbase s s') f', fun c e' h1 σ' F' H' s' => ?_⟩
  simp only [h1] at un
  exact hand_ok (sim_unbase s s') s'.f hh (by rw [← un]; exact ne) (fun e' z => nx e' (un.trans z)) (fun e' z => rt e' (un.trans z)) (fun e' z => bk e' (un.trans z)) (fun e' z => ct e' (un.trans z)) fun c' e' z => er c' e' (un.trans z)
theorem gt_setx {e : En} {i : Nat} (x : Sl) : gt (e.set i x) i = if i < e.length then x else .un := by
  rw [gt_set]
  by_cases h : i < e.length
  · simp [h]
  · simp [h, gt_ge h]
/-- try .. except X as n -/
theorem js_tryAs {body : List Stmt} {x n : Str} {hv : Value} {l : List Bool} {b₀ : Stmt} {suite : List Stmt} {np pos' : Pos} {b s : Sv} (i : Nat) (hs : X.stack = X.env :: X.outer) (hf : X.env.frame = some X.env.locals) (hN : X.N.Nodup) (hi : X.N[i]? = some n) (hln : X.env.kindOf n = some .local)
    (hc : Names X x hv) (tk : Takes X W) (hb : ∀ (W : WX) (pn : List (Addr × Obj)) (xe : Value → Shared → Prop), Takes (X.tr pn xe) W → PassesOwn (model X.prog X.w) X.A X.env xe → JSs (X.tr pn xe) ξ W cr body b)
    (hl : ∀ c b, l[c]? = some b → PySem.W.exmOne X.K (cr c) hv = some b) (h : HJ X cr b₀ suite s) : JS X ξ W cr (.Try body [.ExceptHandler (some (.Name x np)) (some n) (b₀ :: suite) pos'] [] [] pos) (tryAs b i l s) := by
  refine ⟨_, ps_try_as (tb := fun W => tsOf ξ W cr b) (i := i) hs hf hN hi hln hc tk (fun W pn xe t p => (hb W pn xe t p).ps) h.ps, fun F0 H0 env σ F H De s0 ne nx rt bk ct er => ?_⟩
  have un : tryAs b i l s env = match b env with
    | .err c e => match l[c]? with
      | some true => unx i (s ((e.map clr).set i (.x c)))
      | some false => .err c e
      | none => .no
    | r => r := rfl
  refine ⟨F, H0, env, F, sim_base s0, fun z => ne (by rw [un]; simp only [z]), fun e' h1 σ' F' H' s' f' => nx e' (by rw [un]; simp only [h1]) σ' F' H' (sim_unbase s0 s') f', fun vl h1 v F' H' res => rt vl (by rw [un]; simp only [h1]) v F' H' (res_unbase s0 res),
    fun e' h1 σ' F' H' s' f' => bk e' (by rw [un]; simp only [h1]) σ' F' H' (sim_unbase s0 s') f', fun e' h1 σ' F' H' s' f' => ct e' (by rw [un]; simp only [h1]) σ' F' H' (sim_unbase s0 s') f', fun c e' h1 σ' F' H' s' => ?_⟩
  simp only [h1] at un
  cases hq : l[c]? with
  | none => exact absurd (by rw [un]; simp only [hq]) ne
  | some t =>
    refine ⟨t, hl c t hq, fun ht a ha => ?_, fun ht => ?_⟩
    · subst ht
      simp only [hq] at un
      have sx : Sim (a, c) F0 H0 ((e'.map clr).set i (.x c)) (σ'.set i (some (.ref a))) F' H' := sim_put (sim_clr (sim_unbase s0 s')) i (x := .x c) ⟨rfl, rfl⟩ fun z => by cases z
      have fin : ∀ {e3 : En} {σ3 : St} {F3 H3 : Hp}, Sim (a, c) F0 H0 e3 σ3 F3 H3 → Sim ξ F0 H0 ((e3.map clr).set i .un) (σ3.set i none) F3 H3 := fun {e3 σ3 F3 H3} s3 => by
        have := sim_wipe (vs := [i]) (σ' := σ3.set i none) (sim_clr (ξ' := ξ) s3) (by rw [List.length_set]) fun j hj => by rw [List.getElem?_set_ne (fun z => hj (by rw [z]; exact List.mem_singleton.mpr rfl))]
        exact this
      refine ⟨c, rfl, rfl, F0, H0, _, F', sx, fun z => ne (by rw [un, z]; rfl), fun e3 h3 σ3 F3 H3 s3 f3 => ?_, fun vl h3 v F3 H3 res => ?_, fun e3 h3 σ3 F3 H3 s3 f3 => ?_, fun e3 h3 σ3 F3 H3 s3 f3 => ?_, fun c' e3 h3 => ?_⟩
      · exact nx _ (by rw [un, h3]; rfl) _ F3 H3 (fin s3) (s'.f.trans f3)
      · exact rt vl (by rw [un, h3]; rfl) v F3 H3 res
      · exact bk _ (by rw [un, h3]; rfl) _ F3 H3 (fin s3) (s'.f.trans f3)
      · exact ct _ (by rw [un, h3]; rfl) _ F3 H3 (fin s3) (s'.f.trans f3)
      · exact absurd (by rw [un, h3]; rfl) ne
    · subst ht
      simp only [hq] at un
      exact er c e' un σ' F' H' (sim_unbase s0 s')
def isxE (i : Nat) (l : List Bool) : Ev := fun env => match gt env i with
  | .x c => match l[c]? with
    | some b => .ok (.v (.bool b)) env
    | none => .no
  | _ => .no
theorem nn_isx {i : Nat} {l : List Bool} : NN (isxE i l) := fun env a env' q j hj => by
  unfold isxE at q
  cases hs : gt env i with
  | x c =>
    simp only [hs] at q
    cases hl : l[c]? with
    | none => simp only [hl] at q; cases q
    | some b => simp only [hl] at q; cases q; exact hj
  | _ => simp only [hs] at q; cases q
/-- isinstance(e, C) in the suite that holds e -/
theorem je_isx {X : Cx} {pos : Pos} (i : Nat) {a : Addr} {oe : Obj} {c : Nat} {pn : List (Addr × Obj)} {l : List Bool} {x n : Str} {p p2 p3 : Pos} {cv : Value} {cV : V} (hz : Zc (cr c) none oe) (hf : ∃ vs, oe.data = .fields vs) (hcV : ∀ u, RelV cV u → u = cv)
    (hN : X.N[i]? = some n) (hv : Vis X.env.scope n) (hg : Gl X "isinstance") (hm : X.mg "isinstance" = none) (hC : PE (X.suite a ((a, oe) :: pn)) (.Name x p2) (tC cV))
    (hl : ∀ b, l[c]? = some b → ∃ D, cr c = .ref D ∧ ExcC X.K D ∧ PySem.W.kitOne X.K (.ref D) cv = some b)
    (hd : (n == ("__debug__" : Str)) = false := by decide) (hcd : (n == ("__classdict__" : Str)) = false := by decide)
    (hs1 : starEach [.Name n p3, .Name x p2] X.env = (false, eval (.Name n p3) X.env) :: starEach [.Name x p2] X.env := by rfl) (hs2 : (backTo pos (starEach [.Name x p2] X.env)).any (·.1) = false := by rfl) (hs3 : starEach [.Name x p2] X.env = (false, eval (.Name x p2) X.env) :: starEach [] X.env := by rfl) :
    JE (X.suite a ((a, oe) :: pn)) (a, c) W0 cr (.Call (.Name "isinstance" p) [.Name n p3, .Name x p2] [] pos) (isxE i l) := by
  cases hlc : l[c]? with
  | none =>
    refine ⟨fun _ _ _ => False, ⟨fun _ _ _ _ _ _ h => h.elim⟩, fun F0 H0 env σ F H Qq s ne ok er => ?_, nn_isx⟩
    refine absurd ?_ ne
    unfold isxE
    cases hs : gt env i with
    | x c' =>
      have q := s.sl i
      rw [hs] at q
      obtain ⟨_, rfl⟩ := q
      simp only [hlc]
    | _ => rfl
  | some b =>
    obtain ⟨D, hD, hE, hk⟩ := hl b hlc
    rw [hD] at hz
    refine ⟨_, pe_callB (call_isE hE hz hf) hg hm (by decide +kernel) (pa_cons (pv i hN hv hd hcd) (pa_cons hC pa_nil hs3) hs1) (by decide) (by decide) hs1 hs2, fun F0 H0 env σ F H Qq s ne ok er => ?_, nn_isx⟩
    cases hs : gt env i with
    | x c' =>
      have q := s.sl i
      rw [hs] at q
      obtain ⟨q1, rfl⟩ := q
      exact ⟨.ref a, slot_get s q1, cV, cv, b, rfl, hcV, hk, ok (.v (.bool b)) env (by unfold isxE; simp only [hs, hlc]) _ F H s (.refl _) (.refl _) (.bl _)⟩
    | _ => exact absurd (by unfold isxE; simp only [hs]) ne
end
/-! ### the end -/
def noList (K : PySem.W.Frag) : Bool := K.all fun p => match p.2.cls with
  | .type n => n != "list"
  | _ => true
theorem noList_of {K : PySem.W.Frag} (h : noList K = true) {H : Hp} {a : Addr} {xs : List V} (q : SqL K H a xs) : Rd H a (.lst xs) := by
  rcases q with q | ⟨o, _, _, h1, h2, _⟩
  · exact q
  · exfalso
    have hm : ∃ b, (b, o) ∈ K := by
      clear h
      induction K with
      | nil => cases h1
      | cons p r ih =>
        rw [List.lookup_cons] at h1
        split at h1
        · cases h1; exact ⟨p.1, List.mem_cons_self⟩
        · obtain ⟨b, hb⟩ := ih h1; exact ⟨b, List.mem_cons_of_mem _ hb⟩
    obtain ⟨b, hb⟩ := hm
    have := List.all_eq_true.mp h _ hb
    rw [h2] at this
    exact absurd this (by decide)
theorem ints_rpAll (F : Hp) : ∀ ns : List Int, RpAll F (ns.map V.int) (ns.map PyData.int)
  | [] => .nil
  | n :: ns => .cons (.int n) (ints_rpAll F ns)
/-- the law's promise, from what its def comes to -/
theorem law_sp {K : PySem.W.Frag} (hK : noList K = true) {cr : Nat → Value} {m : Fv} {H : Hp} {a : Addr} {ns : List Int} (h : SqL K H a (ns.map V.int)) (hm : m [.b (ns.map PyData.int)] = .ok (.v (.bool true))) : spOf cr 1 m [.ref a] H (fun v _ => v = .bl true) fun _ _ _ => False :=
  ⟨H, [.b (ns.map PyData.int)], rfl, .refl _, .cons ⟨a, _, rfl, noList_of hK h, ints_rpAll H ns⟩ .nil, (fun z => by rw [hm] at z; cases z), (fun vl z v F' H' res => by
    rw [hm] at z; cases z
    obtain ⟨_, q⟩ := res
    cases q; rfl), (fun c z => by rw [hm] at z; cases z)⟩
theorem kit_val {K : PySem.W.Frag} {D : Addr} {b : Bool} (h : PySem.W.subIn K (.ref D) (.type "ValueError") = some b) : PySem.W.kitOne K (.ref D) (.type "ValueError") = some b := by
  have e : ((Value.ref D) == (Value.type "ValueError")) = false := rfl
  unfold PySem.W.kitOne PySem.W.kitCls
  rw [e, if_neg (by decide)]
  show (if PySem.W.kitMeta "ValueError" = true then PySem.W.subIn K (.ref D) (.type "ValueError") else none) = some b
  rw [if_pos (by decide +kernel), h]
theorem kit_ref {K : PySem.W.Frag} {C D : Addr} {b : Bool} (h1 : PySem.W.subIn K (.ref C) (.type "BaseException") = some true) (hd : PySem.W.hasDictIn K C = true) (ht : PySem.W.typeIn K (.ref C) = some (.type "type")) (h0 : PySem.W.subIn K (.ref C) (.ref C) = some true)
    (h : PySem.W.subIn K (.ref D) (.ref C) = some b) : PySem.W.kitOne K (.ref D) (.ref C) = some b := by
  have e := PySem.W.exm_ref h1 hd ht h
  unfold PySem.W.exmOne at e
  rw [if_pos (by rw [h1]; rfl)] at e
  unfold PySem.W.kitOne
  by_cases q : ((Value.ref D) == (Value.ref C)) = true
  · have q' : D = C := by
      have := eq_of_beq q
      injection this
    subst q'
    rw [if_pos q]
    rw [h0] at h
    exact h
  · rw [if_neg q]; exact e
def spL (m : Fv) : Sp := fun vs H Qq E => ∀ cr, spOf cr 1 m vs H Qq E
theorem walk_fin {l : PySem.W.OpenLaw} {k : Nat} {q : Program} {loose : List Str} {XP : (Str → Option Value) → Heap → Prop} {YP : World → Heap → Prop} {d : PySem.DefRec} {K : Params → PySem.W.Frag} {m : Fv} {x : Str}
    (hn : l.most = some 63) (hdf : d.params.defaults = []) (hr : Room k callerA) (hY : ∀ (w : World) (h : Heap), YP w h → (K w.params).In h) (hK : ∀ p : Params, noList (K p) = true)
    (F : ∀ (w : World) (mg : Str → Option Value) (fa : Addr) (h : Heap), (K w.params).In h → h.Ns mainGlobals mg → mg d.name = some (.ref fa) →  -- q
      ∃ fd : FuncData, (∀ (s : Shared) (u : Value), BindsTo s fd ⟨[u], []⟩ [(x, u)]) ∧ ∀ base : Heap, (K w.params).In base → base.Ns mainGlobals mg → ∃ cr, FnOk l.prog w (K w.params) mg base (L2.CX l.prog w) k fa fd [x] (spOf cr 1 m))
    (hm : ∀ ns : List Int, ns.length ≤ 63 → (∀ z ∈ ns, Builtin.Int.intBits z ≤ 1048576) → m [.b (ns.map PyData.int)] = .ok (.v (.bool true))) : PySem.W.WalkO q loose XP YP l.row.toRowW d [] (fun f vs => PySem.call f vs) := by
  refine L2.walk_ofB (n := 63) (x := x) (CX := fun w => L2.CX l.prog w) (sp := fun _ => spL m) hn (by decide) hdf hr hY (fun w mg fa h KX G hmg => ?_) (fun w H a ns hl hb _ hS cr => law_sp (hK w.params) hS (hm ns hl hb)) (fun w H s e s' h => ?_)
  · obtain ⟨fd, h1, h2⟩ := F w mg fa h KX G hmg
    refine ⟨fd, h1, fun base hb hns => ?_⟩
    obtain ⟨cr, h3⟩ := h2 base hb hns
    exact h3.imp fun vs H Qq E z => z cr
  · obtain ⟨_, _, _, _, _, _, _, _, _, _, _, _, z⟩ := h
    exact z
end
end Q
namespace Q
noncomputable section
open PySem L2
/-! ### reckoning with what defs come to -/
theorem gt0 {x : Sl} {e : En} : gt (x :: e) 0 = x := rfl
theorem gt1 {x y : Sl} {e : En} : gt (x :: y :: e) 1 = y := rfl
theorem gtS {x : Sl} {e : En} {i : Nat} : gt (x :: e) (i + 1) = gt e i := rfl
theorem shaped_int (i : Int) : SeqAt.shaped (.int i) = true := rfl
theorem shaped_bool (i : Bool) : SeqAt.shaped (.bool i) = true := rfl
theorem shaped_none : SeqAt.shaped .none = true := rfl
theorem eqv_int (i j : Int) : PyData.eqv (.int i) (.int j) = (i == j) := by rw [PyData.eqv]
theorem eqv_bool (i j : Bool) : PyData.eqv (.bool i) (.bool j) = (i == j) := by rw [PyData.eqv]
theorem eqD_int (i j : Int) : eqD (.int i) (.int j) = some (.v (.bool (decide (i = j)))) := by
  unfold eqD; rw [shaped_int, shaped_int, eqv_int, Bool.beq_eq_decide_eq]; rfl
theorem neD_int (i j : Int) : neD (.int i) (.int j) = some (.v (.bool (!decide (i = j)))) := by
  unfold neD; rw [shaped_int, shaped_int, eqv_int, Bool.beq_eq_decide_eq]; rfl
theorem eqD_bool (i j : Bool) : eqD (.bool i) (.bool j) = some (.v (.bool (decide (i = j)))) := by
  unfold eqD; rw [shaped_bool, shaped_bool, eqv_bool, Bool.beq_eq_decide_eq]; rfl
theorem neD_bool (i j : Bool) : neD (.bool i) (.bool j) = some (.v (.bool (!decide (i = j)))) := by
  unfold neD; rw [shaped_bool, shaped_bool, eqv_bool, Bool.beq_eq_decide_eq]; rfl
theorem mulD_ok {i j : Int} (h : mulOk i j) : mulD (.int i) (.int j) = some (.v (.int (i * j))) := if_pos h
theorem divD_ok {i j : Int} (h : divOk j) : divD (.int i) (.int j) = some (.v (.int (i.fdiv j))) := if_pos h
theorem modD_ok {i j : Int} (h : j ≠ 0) : modD (.int i) (.int j) = some (.v (.int (i.fmod j))) := if_pos h
theorem modD_pos {i j : Int} (h : 0 < j) : modD (.int i) (.int j) = some (.v (.int (i % j))) := by
  rw [modD_ok (by omega), Int.fmod_eq_emod_of_nonneg i (by omega)]
theorem mulOk_l {i j : Int} (h : -(2 ^ 64) < i ∧ i < 2 ^ 64) : mulOk i j := .inl (.inl h)
theorem mulOk_r {i j : Int} (h : -(2 ^ 64) < j ∧ j < 2 ^ 64) : mulOk i j := .inl (.inr h)
theorem log2_lt {n k : Nat} (h : n < 2 ^ k) (hk : 0 < k) : n.log2 < k := by
  by_cases h0 : n = 0
  · subst h0; simpa using hk
  · exact (Nat.log2_lt (k := k) h0).mpr h
theorem mulOk_b {i j : Int} {a b : Nat} (h1 : i.natAbs < 2 ^ a) (h2 : j.natAbs < 2 ^ b) (ha : 0 < a) (hb : 0 < b) (h : a + b ≤ 100000000) : mulOk i j := .inr (by
  have := log2_lt h1 ha
  have := log2_lt h2 hb
  omega)
theorem divOk_b {j : Int} {b : Nat} (h0 : j ≠ 0) (h : j.natAbs < 2 ^ b) (hb : b ≤ 9000) : divOk j := ⟨h0, by
  have : 0 < b := by
    rcases Nat.eq_zero_or_pos b with z | z
    · subst z; omega
    · exact z
  have := log2_lt h this
  omega⟩
/-! one step each, for simp -/
@[simp] theorem varE_s {i : Nat} {env : En} : varE i env = match gt env i with
    | .v d => .ok (.v d) env
    | .o _ => .ok (.a i) env
    | .b _ => .ok (.a i) env
    | .t _ => .ok (.a i) env
    | _ => .no := rfl
@[simp] theorem toD_a {i : Nat} {env : En} : toD env (.a i) = match gt env i with
    | .v d => some d
    | .o ds => some (.list ds)
    | .b ds => some (.list ds)
    | _ => none := rfl
@[simp] theorem still_a {i : Nat} {env : En} : still env (.a i) = match gt env i with
    | .v d => some (d, env)
    | .o ds => some (.list ds, env.set i (.v (.list ds)))
    | _ => none := rfl
@[simp] theorem put_a {i j : Nat} {env : En} : put i (.a j) env = match gt env j with
    | .v d => some (env.set i (.v d))
    | .o ds => some ((env.set j (.v (.list ds))).set i (.v (.list ds)))
    | .b ds => some (env.set i (.b ds))
    | _ => none := rfl
@[simp] theorem back_a {i : Nat} {env : En} : back env (.a i) = match gt env i with
    | .v d => some (.v d)
    | .o ds => some (.f ds)
    | _ => none := rfl
@[simp] theorem gt_0 {x : Sl} {e : En} : gt (x :: e) 0 = x := rfl
@[simp] theorem gt_1 {x y : Sl} {e : En} : gt (x :: y :: e) 1 = y := rfl
@[simp] theorem gt_2 {x y z : Sl} {e : En} : gt (x :: y :: z :: e) 2 = z := rfl
@[simp] theorem gt_S {x : Sl} {e : En} {i : Nat} : gt (x :: e) (i + 1) = gt e i := rfl
@[simp] theorem cE_s {d : D} {env : En} : cE d env = .ok (.v d) env := rfl
@[simp] theorem toD_v {d : D} {env : En} : toD env (.v d) = some d := rfl
@[simp] theorem toD_f {d : List D} {env : En} : toD env (.f d) = some (.list d) := rfl
@[simp] theorem out_some {v : Vl} {env : En} : out (some v) env = .ok v env := rfl
@[simp] theorem bnd_s {β : Type} {f : Ev} {k : D → En → R β} {env : En} : bnd f k env = match f env with
    | .ok vl e => match toD e vl with
      | some d => k d e
      | none => .no
    | .err c e => .err c e
    | .no => .no := rfl
@[simp] theorem op1_s {g : D → Option Vl} {f : Ev} {env : En} : op1 g f env = bnd f (fun d e => out (g d) e) env := rfl
@[simp] theorem op2_s {g : D → D → Option Vl} {f f' : Ev} {env : En} : op2 g f f' env = bnd f (fun d => bnd f' fun d' e => out (g d d') e) env := rfl
@[simp] theorem chainE_s {g g' : D → D → Option Vl} {fa fb fc : Ev} {env : En} : chainE g g' fa fb fc env = bnd fa (fun d => bnd fb fun d' e => match dBool (g d d') with
    | some true => bnd fc (fun d2 e2 => out (g' d' d2) e2) e
    | some false => .ok (.v (.bool false)) e
    | none => .no) env := rfl
@[simp] theorem dBool_s {b : Bool} : dBool (some (.v (.bool b))) = some b := rfl
@[simp] theorem argE_t {f : Ev} {env : En} : argE true f env = match f env with
    | .ok vl e => match still e vl with
      | some (d, e') => .ok (.s d) e'
      | none => .no
    | .err c e => .err c e
    | .no => .no := rfl
@[simp] theorem argE_f {f : Ev} {env : En} : argE false f env = bnd f (fun d e => .ok (.c d) e) env := rfl
@[simp] theorem still_v {d : D} {env : En} : still env (.v d) = some (d, env) := rfl
@[simp] theorem still_f {d : List D} {env : En} : still env (.f d) = some (.list d, env) := rfl
@[simp] theorem args_nil {env : En} : args [] env = .ok [] env := rfl
@[simp] theorem args_cons {m : Bool} {f : Ev} {r : List (Bool × Ev)} {env : En} : args ((m, f) :: r) env = match argE m f env with
    | .ok a e => match args r e with
      | .ok as e' => .ok (a :: as) e'
      | .err c e' => .err c e'
      | .no => .no
    | .err c e => .err c e
    | .no => .no := rfl
@[simp] theorem Ar.d_s {d : D} : (Ar.s d).d = d := rfl
@[simp] theorem Ar.d_c {d : D} : (Ar.c d).d = d := rfl
@[simp] theorem Ar.sl_s {d : D} : (Ar.s d).sl = .v d := rfl
@[simp] theorem Ar.sl_l {d : List D} : (Ar.c (.list d)).sl = .b d := rfl
@[simp] theorem Ar.sl_i {d : Int} : (Ar.c (.int d)).sl = .v (.int d) := rfl
@[simp] theorem Ar.sl_b {d : Bool} : (Ar.c (.bool d)).sl = .v (.bool d) := rfl
@[simp] theorem Ar.sl_n : (Ar.c .none).sl = .v .none := rfl
@[simp] theorem Ar.sl_st {d : Str} : (Ar.c (.str d)).sl = .v (.str d) := rfl
@[simp] theorem Ar.sl_t {d : List D} : (Ar.c (.tuple d)).sl = .v (.tuple d) := rfl
@[simp] theorem opN_s {g : List D → Option Vl} {fs : List Ev} {env : En} : opN g fs env = match args (fs.map fun f => (false, f)) env with
    | .ok as e => out (g (as.map Ar.d)) e
    | .err c e => .err c e
    | .no => .no := rfl
@[simp] theorem toT_s {f : Ev} {env : En} : toT f env = match f env with
    | .ok (.v (.bool b)) e => .ok b e
    | .err c e => .err c e
    | _ => .no := rfl
@[simp] theorem notT_s {f : Tv} {env : En} : notT f env = match f env with
    | .ok b e => .ok (!b) e
    | .err c e => .err c e
    | .no => .no := rfl
@[simp] theorem andT_s {f g : Tv} {env : En} : andT f g env = match f env with
    | .ok true e => g e
    | .ok false e => .ok false e
    | .err c e => .err c e
    | .no => .no := rfl
@[simp] theorem orT_s {f g : Tv} {env : En} : orT f g env = match f env with
    | .ok true e => .ok true e
    | .ok false e => g e
    | .err c e => .err c e
    | .no => .no := rfl
@[simp] theorem notE_s {f : Ev} {env : En} : notE f env = match toT f env with
    | .ok b e => .ok (.v (.bool (!b))) e
    | .err c e => .err c e
    | .no => .no := rfl
@[simp] theorem andE_s {f g : Ev} {env : En} : andE f g env = match toT f env with
    | .ok true e => g e
    | .ok false e => .ok (.v (.bool false)) e
    | .err c e => .err c e
    | .no => .no := rfl
@[simp] theorem orE_s {f g : Ev} {env : En} : orE f g env = match toT f env with
    | .ok true e => .ok (.v (.bool true)) e
    | .ok false e => g e
    | .err c e => .err c e
    | .no => .no := rfl
@[simp] theorem ifE_s {c : Tv} {f g : Ev} {env : En} : ifE c f g env = match c env with
    | .ok true e => f e
    | .ok false e => g e
    | .err c e => .err c e
    | .no => .no := rfl
@[simp] theorem seqS_s {f g : Sv} {env : En} : seqS f g env = match f env with
    | .nx e => g e
    | r => r := rfl
@[simp] theorem skipS_s {env : En} : skipS env = .nx env := rfl
@[simp] theorem asgS_s {i : Nat} {f : Ev} {env : En} : asgS i f env = match f env with
    | .ok vl e => match put i vl e with
      | some e' => .nx e'
      | none => .no
    | .err c e => .err c e
    | .no => .no := rfl
@[simp] theorem put_v {i : Nat} {d : D} {env : En} : put i (.v d) env = some (env.set i (.v d)) := rfl
@[simp] theorem put_f {i : Nat} {d : List D} {env : En} : put i (.f d) env = some (env.set i (.o d)) := rfl
@[simp] theorem put_ft {i : Nat} {env : En} : put i .ft env = some (env.set i (.t [])) := rfl
@[simp] theorem dropS_s {f : Ev} {env : En} : dropS f env = match f env with
    | .ok _ e => .nx e
    | .err c e => .err c e
    | .no => .no := rfl
@[simp] theorem ifS_s {c : Tv} {f g : Sv} {env : En} : ifS c f g env = match c env with
    | .ok true e => f e
    | .ok false e => g e
    | .err c e => .err c e
    | .no => .no := rfl
@[simp] theorem retS_s {f : Ev} {env : En} : retS f env = match f env with
    | .ok vl e => match back e vl with
      | some v => .rt v
      | none => .no
    | .err c e => .err c e
    | .no => .no := rfl
@[simp] theorem back_v {d : D} {env : En} : back env (.v d) = some (.v d) := rfl
@[simp] theorem back_f {d : List D} {env : En} : back env (.f d) = some (.f d) := rfl
@[simp] theorem retN_s {env : En} : retN env = .rt (.v .none) := rfl
@[simp] theorem bkS_s {env : En} : bkS env = .bk env := rfl
@[simp] theorem ctS_s {env : En} : ctS env = .ct env := rfl
@[simp] theorem errS_s {c : Nat} {env : En} : errS c env = .err c env := rfl
@[simp] theorem appS_s {i : Nat} {f : Ev} {env : En} : appS i f env = match gt env i with
    | .o _ => match argE true f env with
      | .ok a e => match gt e i with
        | .o ds => if ds.length < LIM then .nx (e.set i (.o (ds ++ [a.d]))) else .no
        | _ => .no
      | .err c e => .err c e
      | .no => .no
    | _ => .no := rfl
@[simp] theorem setS_s {i : Nat} {fi fv : Ev} {env : En} : setS i fi fv env = match argE true fv env with
    | .ok a e => match gt e i with
      | .o _ => match bnd fi (fun k e' => R.ok k e') e with
        | .ok (.int k) e' => match gt e' i with
          | .o ds => match ixN ds.length k with
            | some j => .nx (e'.set i (.o (ds.set j a.d)))
            | none => .no
          | _ => .no
        | .err c e' => .err c e'
        | _ => .no
      | _ => .no
    | .err c e => .err c e
    | .no => .no := rfl
@[simp] theorem forS_s {src : Iv} {bd : Bv} {b : Sv} {env : En} : forS src bd b env = match src env with
    | .ok ds e => forL bd b ds e
    | .err c e => .err c e
    | .no => .no := rfl
@[simp] theorem forL_n {bd : Bv} {b : Sv} {env : En} : forL bd b [] env = .nx env := rfl
@[simp] theorem unpS_s {f : Ev} {bd : Bv} {env : En} : unpS f bd env = match argE true f env with
    | .ok a e => match bd a.d e with
      | some e' => .nx e'
      | none => .no
    | .err c e => .err c e
    | .no => .no := rfl
@[simp] theorem bdN_s {i : Nat} {d : D} {env : En} : bdN i d env = some (env.set i (.v d)) := rfl
@[simp] theorem bdT_s {bs : List Bv} {ds : List D} {env : En} : bdT bs (.tuple ds) env = bdA bs ds env := rfl
@[simp] theorem bdA_n {env : En} : bdA [] [] env = some env := rfl
@[simp] theorem bdA_c {b : Bv} {bs : List Bv} {d : D} {ds : List D} {env : En} : bdA (b :: bs) (d :: ds) env = match b d env with
    | some e' => bdA bs ds e'
    | none => none := rfl
@[simp] theorem itR1_s {f : Ev} {env : En} : itR1 f env = bnd f (fun d e => match d with
    | .int j => if i62 j then .ok (rgL 0 1 j.toNat) e else .no
    | _ => .no) env := rfl
@[simp] theorem itR2_s {f g : Ev} {env : En} : itR2 f g env = bnd f (fun d => bnd g fun d' e => rg2 d d' e) env := rfl
@[simp] theorem rg2_s {i j : Int} {env : En} : rg2 (.int i) (.int j) env = if i62 i ∧ i62 j then .ok (rgL i 1 (j - i).toNat) env else .no := rfl
@[simp] theorem itL_s {f : Ev} {env : En} : itL f env = match f env with
    | .ok (.a i) e => match gt e i with
      | .b ds => .ok ds e
      | .o ds => .ok ds (e.set i (.v (.list ds)))
      | .v (.list ds) => .ok ds e
      | _ => .no
    | .ok (.v (.list ds)) e => .ok ds e
    | .ok (.f ds) e => .ok ds e
    | .ok _ _ => .no
    | .err c e => .err c e
    | .no => .no := rfl
@[simp] theorem itT_s {f : Ev} {env : En} : itT f env = match f env with
    | .ok (.v (.tuple ds)) e => .ok ds e
    | .ok _ _ => .no
    | .err c e => .err c e
    | .no => .no := rfl
@[simp] theorem itQ_s {f : Ev} {env : En} : itQ f env = match f env with
    | .ok (.a i) e => match gt e i with
      | .b ds => .ok ds e
      | .o ds => .ok ds (e.set i (.v (.list ds)))
      | .v (.list ds) => .ok ds e
      | _ => .no
    | .ok (.v (.list ds)) e => .ok ds e
    | .ok (.v (.tuple ds)) e => .ok ds e
    | .ok (.f ds) e => .ok ds e
    | .ok _ _ => .no
    | .err c e => .err c e
    | .no => .no := by
  unfold itQ
  rw [itT_s]
  cases h : f env with
  | ok vl e =>
    cases vl with
    | v d => cases d <;> simp [h, itL_s]
    | _ => simp [h, itL_s]
  | err c e => rfl
  | no => simp [h, itL_s]
@[simp] theorem lcL_n {bd : Bv} {c : Tv} {f : Ev} {vs : List Nat} {acc : List D} {e : En} : lcL bd c f vs [] acc e = .ok acc e := rfl
@[simp] theorem wipeE_n {e : En} : wipeE e [] = e := rfl
@[simp] theorem wipeE_1 {e : En} {i : Nat} {r : List Nat} : wipeE e (i :: r) = (wipeE e r).set i .un := rfl
@[simp] theorem giveE_n {e e' : En} : giveE e e' [] = e' := rfl
@[simp] theorem giveE_1 {e e' : En} {i : Nat} {r : List Nat} : giveE e e' (i :: r) = (giveE e e' r).set i (gt e i) := rfl
@[simp] theorem own_v {d : D} : (Sl.v d).own = false := rfl
@[simp] theorem own_un : Sl.un.own = false := rfl
@[simp] theorem own_b {d : List D} : (Sl.b d).own = false := rfl
@[simp] theorem own_o {d : List D} : (Sl.o d).own = true := rfl
@[simp] theorem tt_s {env : En} : tt env = .ok true env := rfl
@[simp] theorem tupE_s {fs : List Ev} {env : En} : tupE fs env = match args (fs.map fun f => (true, f)) env with
    | .ok as e => .ok (.v (.tuple (as.map Ar.d))) e
    | .err c e => .err c e
    | .no => .no := rfl
@[simp] theorem lstE_s {fs : List Ev} {env : En} : lstE fs env = match args (fs.map fun f => (true, f)) env with
    | .ok as e => .ok (.f (as.map Ar.d)) e
    | .err c e => .err c e
    | .no => .no := rfl
@[simp] theorem callE_s {m : Fv} {fs : List (Bool × Ev)} {env : En} : callE m fs env = match args fs env with
    | .ok as e => match m (as.map Ar.sl) with
      | .ok vl => .ok vl e
      | .err c => .err c e
      | .no => .no
    | .err c e => .err c e
    | .no => .no := rfl
@[simp] theorem isiE_s {T : String} {f : Ev} {env : En} : isiE T f env = bnd f (fun d e => .ok (.v (.bool (isiD T d))) e) env := rfl
@[simp] theorem lcE_s {src : Iv} {bd : Bv} {c : Tv} {f : Ev} {vs : List Nat} {env : En} : lcE src bd c f vs env = match src env with
    | .ok ds e => if ds.length ≤ LIM ∧ ∀ i ∈ vs, (gt e i).own = false then match lcL bd c f vs ds [] (wipeE e vs) with
        | .ok es e' => .ok (.f es) (giveE e e' vs)
        | _ => .no
      else .no
    | .err c e => .err c e
    | .no => .no := rfl
@[simp] theorem sliE_s {f : Ev} {lo hi : Option Ev} {env : En} : sliE f lo hi env = bnd f (fun d => optI lo fun l => optI hi fun h e => out (sliD d l h) e) env := rfl
@[simp] theorem optI_n {k : Option Int → En → R Vl} {env : En} : optI none k env = k none env := rfl
@[simp] theorem optI_s {f : Ev} {k : Option Int → En → R Vl} {env : En} : optI (some f) k env = bnd f (fun d e => match d with
    | .int i => k (some i) e
    | _ => .no) env := rfl
@[simp] theorem runDef_s {n : Nat} {b : Sv} {sl : List Sl} : runDef n b sl = match b (sl ++ List.replicate (n - sl.length) .un) with
    | .rt v => .ok v
    | .nx _ => .ok (.v .none)
    | .err c _ => .err c
    | _ => .no := rfl
@[simp] theorem tryS_s {b : Sv} {hs : List (List Bool × Sv)} {env : En} : tryS b hs env = match b env with
    | .err c e => hand hs c e
    | r => r := rfl
@[simp] theorem hand_n {c : Nat} {e : En} : hand [] c e = .err c e := rfl
@[simp] theorem hand_c {l : List Bool} {s : Sv} {r : List (List Bool × Sv)} {c : Nat} {e : En} : hand ((l, s) :: r) c e = match l[c]? with
    | some true => clrS (s (e.map clr))
    | some false => hand r c e
    | none => .no := rfl
@[simp] theorem tryAs_s {b : Sv} {i : Nat} {l : List Bool} {s : Sv} {env : En} : tryAs b i l s env = match b env with
    | .err c e => match l[c]? with
      | some true => unx i (s ((e.map clr).set i (.x c)))
      | some false => .err c e
      | none => .no
    | r => r := rfl
@[simp] theorem isxE_s {i : Nat} {l : List Bool} {env : En} : isxE i l env = match gt env i with
    | .x c => match l[c]? with
      | some b => .ok (.v (.bool b)) env
      | none => .no
    | _ => .no := rfl
@[simp] theorem unx_rt {i : Nat} {v : Vl} : unx i (.rt v) = .rt v := rfl
@[simp] theorem clrS_rt {v : Vl} : clrS (.rt v) = .rt v := rfl
@[simp] theorem clr_v {d : D} : clr (.v d) = .v d := rfl
@[simp] theorem clr_o {d : List D} : clr (.o d) = .o d := rfl
@[simp] theorem clr_b {d : List D} : clr (.b d) = .b d := rfl
@[simp] theorem clr_un : clr .un = .un := rfl
@[simp] theorem addD_i {i j : Int} : addD (.int i) (.int j) = some (.v (.int (i + j))) := rfl
@[simp] theorem subD_i {i j : Int} : subD (.int i) (.int j) = some (.v (.int (i - j))) := rfl
@[simp] theorem negD_i {i : Int} : negD (.int i) = some (.v (.int (-i))) := rfl
@[simp] theorem ltD_i {i j : Int} : ltD (.int i) (.int j) = some (.v (.bool (decide (i < j)))) := rfl
@[simp] theorem leD_i {i j : Int} : leD (.int i) (.int j) = some (.v (.bool (decide (i ≤ j)))) := rfl
@[simp] theorem gtD_i {i j : Int} : gtD (.int i) (.int j) = some (.v (.bool (decide (j < i)))) := rfl
@[simp] theorem geD_i {i j : Int} : geD (.int i) (.int j) = some (.v (.bool (decide (j ≤ i)))) := rfl
@[simp] theorem eqD_i {i j : Int} : eqD (.int i) (.int j) = some (.v (.bool (decide (i = j)))) := eqD_int i j
@[simp] theorem neD_i {i j : Int} : neD (.int i) (.int j) = some (.v (.bool (!decide (i = j)))) := neD_int i j
@[simp] theorem eqD_b {i j : Bool} : eqD (.bool i) (.bool j) = some (.v (.bool (decide (i = j)))) := eqD_bool i j
@[simp] theorem neD_b {i j : Bool} : neD (.bool i) (.bool j) = some (.v (.bool (!decide (i = j)))) := neD_bool i j
@[simp] theorem isD_n {d : D} : isD d .none = some (.v (.bool (isNone d))) := by cases d <;> rfl
@[simp] theorem isnD_n {d : D} : isnD d .none = some (.v (.bool (!isNone d))) := by cases d <;> rfl
@[simp] theorem isD_b {a b : Bool} : isD (.bool a) (.bool b) = some (.v (.bool (decide (a = b)))) := rfl
@[simp] theorem isnD_b {a b : Bool} : isnD (.bool a) (.bool b) = some (.v (.bool (!decide (a = b)))) := rfl
@[simp] theorem lenD_l {ds : List D} : lenD [.list ds] = some (.v (.int ds.length)) := rfl
@[simp] theorem lenD_t {ds : List D} : lenD [.tuple ds] = some (.v (.int ds.length)) := rfl
@[simp] theorem listD_l {ds : List D} : listD [.list ds] = some (.f ds) := rfl
@[simp] theorem listD_t {ds : List D} : listD [.tuple ds] = some (.f ds) := rfl
@[simp] theorem tupleD_l {ds : List D} : tupleD [.list ds] = some (.v (.tuple ds)) := rfl
@[simp] theorem tupleD_t {ds : List D} : tupleD [.tuple ds] = some (.v (.tuple ds)) := rfl
@[simp] theorem absD_i {i : Int} : absD [.int i] = some (.v (.int (if i < 0 then -i else i))) := rfl
@[simp] theorem intD_i {i : Int} : intD [.int i] = some (.v (.int i)) := rfl
@[simp] theorem intD_b {i : Bool} : intD [.bool i] = some (.v (.int (if i then 1 else 0))) := rfl
@[simp] theorem max2D_i {i j : Int} : max2D [.int i, .int j] = some (.v (.int (if j > i then j else i))) := rfl
@[simp] theorem min2D_i {i j : Int} : min2D [.int i, .int j] = some (.v (.int (if j < i then j else i))) := rfl
@[simp] theorem sliD_l {ds : List D} {lo hi : Option Int} : sliD (.list ds) lo hi = some (.f (cutD ds lo hi)) := rfl
@[simp] theorem sliD_t {ds : List D} {lo hi : Option Int} : sliD (.tuple ds) lo hi = some (.v (.tuple (cutD ds lo hi))) := rfl
@[simp] theorem isi_int_int {i : Int} : isiD "int" (.int i) = true := rfl
@[simp] theorem isi_bool_int {i : Int} : isiD "bool" (.int i) = false := rfl
@[simp] theorem isi_int_bool {i : Bool} : isiD "int" (.bool i) = true := rfl
@[simp] theorem isi_bool_bool {i : Bool} : isiD "bool" (.bool i) = true := rfl
@[simp] theorem isi_list_list {i : List D} : isiD "list" (.list i) = true := rfl
@[simp] theorem isi_tuple_tuple {i : List D} : isiD "tuple" (.tuple i) = true := rfl
@[simp] theorem isi_int_none : isiD "int" .none = false := rfl
@[simp] theorem isi_bool_none : isiD "bool" .none = false := rfl
@[simp] theorem isi_int_str {i : Str} : isiD "int" (.str i) = false := rfl
@[simp] theorem isi_int_list {i : List D} : isiD "int" (.list i) = false := rfl
@[simp] theorem isi_int_tuple {i : List D} : isiD "int" (.tuple i) = false := rfl
@[simp] theorem isi_int_dict {i : List (D × D)} : isiD "int" (.dict i) = false := rfl
theorem atI_at {α : Type} {ds : List α} {i : Int} {d : α} (h0 : 0 ≤ i) (h : ds[i.toNat]? = some d) : atI ds i = some d := by
  have e : i = ((i.toNat : Nat) : Int) := by omega
  rw [e]; exact atI_nat h
theorem ixD_l {ds : List D} {i : Int} {d : D} (h0 : 0 ≤ i) (h : ds[i.toNat]? = some d) : ixD (.list ds) (.int i) = some (.v d) := by
  show (atI ds i).map Vl.v = _
  rw [atI_at h0 h]; rfl
theorem ixD_t {ds : List D} {i : Int} {d : D} (h0 : 0 ≤ i) (h : ds[i.toNat]? = some d) : ixD (.tuple ds) (.int i) = some (.v d) := by
  show (atI ds i).map Vl.v = _
  rw [atI_at h0 h]; rfl
@[simp] theorem ixD_t0 {a : D} {ds : List D} : ixD (.tuple (a :: ds)) (.int 0) = some (.v a) := ixD_t (by decide) rfl
@[simp] theorem ixD_t1 {a b : D} {ds : List D} : ixD (.tuple (a :: b :: ds)) (.int 1) = some (.v b) := ixD_t (by decide) rfl
@[simp] theorem ixD_t2 {a b c : D} {ds : List D} : ixD (.tuple (a :: b :: c :: ds)) (.int 2) = some (.v c) := ixD_t (by decide) rfl
@[simp] theorem ixD_l0 {a : D} {ds : List D} : ixD (.list (a :: ds)) (.int 0) = some (.v a) := ixD_l (by decide) rfl
@[simp] theorem ixD_l1 {a b : D} {ds : List D} : ixD (.list (a :: b :: ds)) (.int 1) = some (.v b) := ixD_l (by decide) rfl
/-! equality of data -/
theorem shaped_of {d : D} (h : PyData.canLay0 d = true) (h2 : d.depth ≤ 64) : SeqAt.shaped d = true := by
  unfold SeqAt.shaped
  rw [h, decide_eq_true h2]; rfl
theorem layInts : ∀ ns : List Int, PyData.canLayAll0 (ns.map PyData.int) = true
  | [] => by simp only [List.map_nil, PyData.canLayAll0]
  | n :: ns => by simp [PyData.canLayAll0, PyData.canLay0, layInts ns]
@[simp] theorem shaped_nil : SeqAt.shaped (.list []) = true := by decide +kernel
theorem eqv_nil_l (ds : List D) : PyData.eqv (.list ds) (.list []) = ds.isEmpty := by
  cases ds <;> simp [PyData.eqv, PyData.eqvAll]
theorem eqD_nil {ds : List D} (h : SeqAt.shaped (.list ds) = true) : eqD (.list ds) (.list []) = some (.v (.bool ds.isEmpty)) := by
  unfold eqD; rw [h, shaped_nil, eqv_nil_l]; rfl
theorem neD_nil {ds : List D} (h : SeqAt.shaped (.list ds) = true) : neD (.list ds) (.list []) = some (.v (.bool (!ds.isEmpty))) := by
  unfold neD; rw [h, shaped_nil, eqv_nil_l]; rfl
@[simp] theorem neD_nn : neD (.list []) (.list []) = some (.v (.bool false)) := neD_nil shaped_nil
@[simp] theorem eqD_nn : eqD (.list []) (.list []) = some (.v (.bool true)) := eqD_nil shaped_nil
@[simp] theorem inD_s {d e : D} : inD d e = (inB d e).map fun b => .v (.bool b) := rfl
@[simp] theorem ninD_s {d e : D} : ninD d e = (inB d e).map fun b => .v (.bool (!b)) := rfl
theorem inB_int {i : Int} {ns : List Int} : inB (.int i) (.tuple (ns.map PyData.int)) = some (decide (i ∈ ns)) := by
  have e1 : (flD (.int i) && (ns.map PyData.int).all flD) = true := by
    rw [Bool.and_eq_true]; exact ⟨rfl, by simp [flD]⟩
  show (if (flD (.int i) && (ns.map PyData.int).all flD) = true then some ((ns.map PyData.int).any fun z => PyData.eqv z (.int i)) else none) = _
  rw [if_pos e1]
  congr 1
  rw [Bool.eq_iff_iff]
  simp [PyData.eqv, List.any_eq_true]
@[simp] theorem dic1E_s {env : En} : dic1E env = .ok (.v (.dict [])) env := rfl
/-! plain data: no bool, no dict; there == is being the same -/
mutual
def nbD : D → Bool
  | .int _ => true
  | .str _ => true
  | .none => true
  | .list ds => nbL ds
  | .tuple ds => nbL ds
  | _ => false
def nbL : List D → Bool
  | [] => true
  | d :: ds => nbD d && nbL ds
end
mutual
theorem eqv_nb : ∀ d e : D, nbD d = true → nbD e = true → (PyData.eqv d e = true ↔ d = e)
  | .int i, e, _, he => by cases e <;> simp_all [PyData.eqv, nbD]
  | .str i, e, _, he => by cases e <;> simp_all [PyData.eqv, nbD]
  | .none, e, _, he => by cases e <;> simp_all [PyData.eqv, nbD]
  | .list ds, e, hd, he => by
    cases e with
    | list es =>
      have h := eqv_nbL ds es (by simpa [nbD] using hd) (by simpa [nbD] using he)
      simp [PyData.eqv, h]
    | _ => simp_all [PyData.eqv, nbD]
  | .tuple ds, e, hd, he => by
    cases e with
    | tuple es =>
      have h := eqv_nbL ds es (by simpa [nbD] using hd) (by simpa [nbD] using he)
      simp [PyData.eqv, h]
    | _ => simp_all [PyData.eqv, nbD]
  | .bool _, _, hd, _ => by simp [nbD] at hd
  | .dict _, _, hd, _ => by simp [nbD] at hd
theorem eqv_nbL : ∀ ds es : List D, nbL ds = true → nbL es = true → (PyData.eqvAll ds es = true ↔ ds = es)
  | [], [], _, _ => by simp [PyData.eqvAll]
  | [], _ :: _, _, _ => by simp [PyData.eqvAll]
  | _ :: _, [], _, _ => by simp [PyData.eqvAll]
  | d :: ds, e :: es, hd, he => by
    simp only [nbL, Bool.and_eq_true] at hd he
    simp [PyData.eqvAll, eqv_nb d e hd.1 he.1, eqv_nbL ds es hd.2 he.2]
end
structure Pu (n : Nat) (x : D) : Prop where
  l : PyData.canLay0 x = true
  d : x.depth ≤ n
  b : nbD x = true
structure PuL (n : Nat) (x : List D) : Prop where
  l : PyData.canLayAll0 x = true
  d : PyData.depthAll x ≤ n
  b : nbL x = true
theorem pu_int {n : Nat} {i : Int} : Pu n (.int i) := ⟨by simp [PyData.canLay0], by simp [PyData.depth], by simp [nbD]⟩
theorem pu_none {n : Nat} : Pu n .none := ⟨by simp [PyData.canLay0], by simp [PyData.depth], by simp [nbD]⟩
theorem pul_nil {n : Nat} : PuL n [] := ⟨by simp [PyData.canLayAll0], by simp [PyData.depthAll], by simp [nbL]⟩
theorem pul_cons {n : Nat} {d : D} {ds : List D} (h : Pu n d) (hs : PuL n ds) : PuL n (d :: ds) := ⟨by simp [PyData.canLayAll0, h.l, hs.l], by have := h.d; have := hs.d; simp only [PyData.depthAll]; omega, by simp [nbL, h.b, hs.b]⟩
theorem pul_all {n : Nat} : ∀ {ds : List D}, (∀ d ∈ ds, Pu n d) → PuL n ds
  | [], _ => pul_nil
  | _ :: _, h => pul_cons (h _ List.mem_cons_self) (pul_all fun x hx => h x (List.mem_cons_of_mem _ hx))
theorem pu_list {n : Nat} {ds : List D} (h : PuL n ds) : Pu (n + 1) (.list ds) := ⟨by simp [PyData.canLay0, h.l], by have := h.d; simp only [PyData.depth]; omega, by simp [nbD, h.b]⟩
theorem pu_tuple {n : Nat} {ds : List D} (h : PuL n ds) : Pu (n + 1) (.tuple ds) := ⟨by simp [PyData.canLay0, h.l], by have := h.d; simp only [PyData.depth]; omega, by simp [nbD, h.b]⟩
theorem pul_ints {n : Nat} (ns : List Int) : PuL n (ns.map PyData.int) := pul_all fun d hd => by
  obtain ⟨i, _, e⟩ := List.mem_map.mp hd
  rw [← e]; exact pu_int
theorem Pu.sh {n : Nat} {d : D} (h : Pu n d) (hn : n ≤ 64 := by decide) : SeqAt.shaped d = true := shaped_of h.l (by have := h.d; omega)
theorem eqD_pu {n m : Nat} {d e : D} {b : Bool} (hd : Pu n d) (he : Pu m e) (hb : b = true ↔ d = e) (hn : n ≤ 64 := by decide) (hm : m ≤ 64 := by decide) : eqD d e = some (.v (.bool b)) := by
  have q : PyData.eqv d e = b := by rw [Bool.eq_iff_iff, eqv_nb d e hd.b he.b, hb]
  unfold eqD; rw [hd.sh hn, he.sh hm, q]; rfl
theorem neD_pu {n m : Nat} {d e : D} {b : Bool} (hd : Pu n d) (he : Pu m e) (hb : b = true ↔ d = e) (hn : n ≤ 64 := by decide) (hm : m ≤ 64 := by decide) : neD d e = some (.v (.bool (!b))) := by
  have q : PyData.eqv d e = b := by rw [Bool.eq_iff_iff, eqv_nb d e hd.b he.b, hb]
  unfold neD; rw [hd.sh hn, he.sh hm, q]; rfl
end
end Q
namespace Q
noncomputable section
open PySem L2
/-! ### more ways to walk: from the end, two at once, by steps -/
section
variable {X : Cx} {ξ : Addr × Nat} {W : WX} {cr : Nat → Value} {pos : Pos} {a b c e : Expr} {fa fb fc f g : Ev} {F H : Hp}
theorem se_lst {tl : TE} {f : Ev} (h : SE ξ W cr tl f) {F0 H0 : Hp} {env : En} {σ : St} {F H : Hp} {Rr : V → Hp → Prop} (s : Sim ξ F0 H0 env σ F H) (ne : itL f env ≠ .no)
    (ok : ∀ ds env', itL f env = .ok ds env' → ∀ a vs F' H', Sim ξ F0 H0 env' σ F' H' → Same F F' → Same H H' → (Rd F' a (.lst vs) ∨ Rd H0 a (.lst vs)) → RpAll F' vs ds → Rr (.ref a) H')
    (er : ∀ c env', itL f env = .err c env' → ∀ F' H', Sim ξ F0 H0 env' σ F' H' → W (cr c) none σ H') : tl σ H Rr := by
  have un : itL f env = match f env with
    | .ok (.a i) e => match gt e i with
      | .b ds => .ok ds e
      | .o ds => .ok ds (e.set i (.v (.list ds)))
      | .v (.list ds) => .ok ds e
      | _ => .no
    | .ok (.v (.list ds)) e => .ok ds e
    | .ok (.f ds) e => .ok ds e
    | .ok _ _ => .no
    | .err c e => .err c e
    | .no => .no := rfl
  refine h F0 H0 env σ F H _ s (fun z => ne (by rw [un]; simp only [z])) (fun vl e1 h1 v F1 H1 s1 f1 g1 ok1 => ?_) fun c e1 h1 => er c e1 (by rw [un]; simp only [h1])
  have vv : ∀ ds, Rp F1 v (.list ds) → itL f env = .ok ds e1 → Rr v H1 := fun ds hv hu => by
    cases hv with
    | lst hr ha => exact ok ds e1 hu _ _ F1 H1 s1 f1 g1 (.inl hr) ha
  cases vl with
  | v d =>
    cases d with
    | list ds => exact vv ds ok1 (by rw [un]; simp only [h1])
    | none => exact absurd (by rw [un]; simp only [h1]) ne
    | bool b => exact absurd (by rw [un]; simp only [h1]) ne
    | int b => exact absurd (by rw [un]; simp only [h1]) ne
    | str b => exact absurd (by rw [un]; simp only [h1]) ne
    | tuple b => exact absurd (by rw [un]; simp only [h1]) ne
    | dict b => exact absurd (by rw [un]; simp only [h1]) ne
  | f ds =>
    obtain ⟨a, vs, rfl, q1, q0, q2, q3, q4⟩ := ok1
    obtain ⟨r1, r2, r3⟩ := s1.keep q1 q0 q2 q3 q4
    exact ok ds e1 (by rw [un]; simp only [h1]) a vs _ H1 r3 (f1.trans r2) g1 (.inl (Rd.of upd_same)) (RpAll.mono r2 q3)
  | a i =>
    have gi : σ[i]? = some (some v) := ok1
    have q := s1.sl i
    rw [join_get gi] at q
    cases hs : gt e1 i with
    | b ds =>
      rw [hs] at q
      obtain ⟨a, vs, e, r1, r2⟩ := q; cases e
      exact ok ds e1 (by rw [un]; simp only [h1, hs]) a vs F1 H1 s1 f1 g1 (.inr r1) r2
    | o ds =>
      rw [hs] at q
      obtain ⟨a, vs, e, q1, q0, q2, q3⟩ := q; cases e
      obtain ⟨vs', r1, r2, r3, r4⟩ := s1.freeze hs gi
      rw [q2] at r1; cases r1
      exact ok ds _ (by rw [un]; simp only [h1, hs]) a vs _ H1 r4 (f1.trans r3) g1 (.inl (Rd.of upd_same)) (RpAll.mono r3 q3)
    | v d =>
      rw [hs] at q
      obtain ⟨v', e, q2⟩ := q; cases e
      cases d with
      | list ds => exact vv ds q2 (by rw [un]; simp only [h1, hs])
      | none => exact absurd (by rw [un]; simp only [h1, hs]) ne
      | bool b => exact absurd (by rw [un]; simp only [h1, hs]) ne
      | int b => exact absurd (by rw [un]; simp only [h1, hs]) ne
      | str b => exact absurd (by rw [un]; simp only [h1, hs]) ne
      | tuple b => exact absurd (by rw [un]; simp only [h1, hs]) ne
      | dict b => exact absurd (by rw [un]; simp only [h1, hs]) ne
    | un => exact absurd (by rw [un]; simp only [h1, hs]) ne
    | t kvs => exact absurd (by rw [un]; simp only [h1, hs]) ne
    | x c => exact absurd (by rw [un]; simp only [h1, hs]) ne
  | ft => exact absurd (by rw [un]; simp only [h1]) ne

theorem rd_any {F1 F H H0 : Hp} {a : Addr} {vs : List V} (hr : Rd F1 a (.lst vs) ∨ Rd H0 a (.lst vs)) (f : Same F1 F) (g : Same F H) (h : Same H0 H) : Rd H a (.lst vs) := by
  rcases hr with r | r
  · exact rd_mono (f.trans g) r
  · exact rd_mono h r
def itV (f : Ev) : Iv := fun env => match itL f env with
  | .ok ds e => .ok ds.reverse e
  | .err c e => .err c e
  | .no => .no
theorem it_rev {K : PySem.W.Frag} {F1 H0 : Hp} {a : Addr} {vs : List V} {ds : List D} (hr : Rd F1 a (.lst vs) ∨ Rd H0 a (.lst vs)) (ha : RpAll F1 vs ds) : ItOk F1 H0 (Itv K a vs.length) ds.reverse := fun F H f g h => by
  have r : Rd H a (.lst vs) := rd_any hr f g h
  refine ⟨fun i d hd => ?_, by rw [List.length_reverse, ha.length]; exact Nat.le_refl _⟩
  have hi : i < ds.length := by
    rcases Nat.lt_or_ge i ds.length with z | z
    · exact z
    · rw [List.getElem?_eq_none (by rw [List.length_reverse]; exact z)] at hd; cases hd
  rw [List.getElem?_reverse hi, ← ha.length] at hd
  obtain ⟨v, h1, h2⟩ := ha.get hd
  refine ⟨⟨by rw [ha.length]; exact hi, vs, v, rd_sq r, h1⟩, fun x H' hy => ?_⟩
  obtain ⟨rfl, q⟩ := hy
  have e := q vs (rd_sq r)
  rw [h1] at e; cases e
  exact ⟨F, Gr.refl g, Rp.mono f h2⟩
theorem si_rev {K : PySem.W.Frag} {tl : TE} (h : SE ξ W cr tl f) : SI ξ W cr (RT.iRevA K tl) (itV f) := fun F0 H0 env σ F H Rr s ne ok er => by
  have un : itV f env = match itL f env with
    | .ok ds e => .ok ds.reverse e
    | .err c e => .err c e
    | .no => .no := rfl
  refine se_lst h s (fun z => ne (by rw [un]; simp only [z])) (fun ds e1 h1 a vs F1 H1 s1 f1 g1 hr ha => ?_) fun c e1 h1 => er c e1 (by rw [un]; simp only [h1])
  exact ⟨a, vs, rfl, .inl ⟨rd_sq (rd_any hr (.refl _) s1.fh s1.h), ok _ e1 (by rw [un]; simp only [h1]) _ F1 H1 s1 f1 g1 (it_rev hr ha)⟩⟩
theorem nn_itV (h : NN f) : NN (itV f) := fun env a env' q i hi => by
  have un : itV f env = match itL f env with
    | .ok ds e => .ok ds.reverse e
    | .err c e => .err c e
    | .no => .no := rfl
  rw [un] at q
  cases h1 : itL f env with
  | ok ds e => simp only [h1] at q; cases q; exact nn_itL h env ds _ h1 i hi
  | err c e => simp only [h1] at q; cases q
  | no => simp only [h1] at q; cases q
theorem ji_rev {tg : Expr} {p : Pos} (hg : Gl X "reversed") (hm : X.mg "reversed" = none) (h : JE X ξ W cr e f) (hs : starEach [e] X.env = (false, eval e X.env) :: starEach [] X.env := by rfl) : JI X ξ W cr tg (.Call (.Name "reversed" p) [e] [] pos) (itV f) :=
  let ⟨_, a1, a2, a3⟩ := h; ⟨_, RT.pi_revA hg hm a1 hs, si_rev a2, nn_itV a3⟩
/-- two lists at once -/
def zipD (ds es : List D) : List D := List.zipWith (fun x y => PyData.tuple [x, y]) ds es
def zipI (f g : Ev) : Iv := fun env => match itL f env with
  | .ok ds e => match itL g e with
    | .ok es e' => .ok (zipD ds es) e'
    | .err c e' => .err c e'
    | .no => .no
  | .err c e => .err c e
  | .no => .no
theorem it_zip {K : PySem.W.Frag} {F1 H0 : Hp} {a b : Addr} {vs ws : List V} {ds es : List D} (hr : Rd F1 a (.lst vs) ∨ Rd H0 a (.lst vs)) (ha : RpAll F1 vs ds) (hr2 : Rd F1 b (.lst ws) ∨ Rd H0 b (.lst ws)) (hb : RpAll F1 ws es) : ItOk F1 H0 (Itz K a b) (zipD ds es) := fun F H f g h => by
  have r : Rd H a (.lst vs) := rd_any hr f g h
  have r2 : Rd H b (.lst ws) := rd_any hr2 f g h
  refine ⟨fun i d hd => ?_, vs, ws, rd_sq r, rd_sq r2, ?_⟩
  · unfold zipD at hd
    rw [List.getElem?_zipWith] at hd
    cases hx : ds[i]? with
    | none => rw [hx] at hd; cases hd
    | some x =>
      cases hy : es[i]? with
      | none => rw [hx, hy] at hd; cases hd
      | some y =>
        rw [hx, hy] at hd
        cases hd
        obtain ⟨v, h1, h2⟩ := ha.get hx
        obtain ⟨w, k1, k2⟩ := hb.get hy
        refine ⟨⟨vs, ws, v, w, rd_sq r, rd_sq r2, h1, k1⟩, fun x' H' hz => ?_⟩
        obtain ⟨T, v', w', rfl, hT, rfl, q1, q2⟩ := hz
        have e1 := q1 vs (rd_sq r)
        rw [h1] at e1; cases e1
        have e2 := q2 ws (rd_sq r2)
        rw [k1] at e2; cases e2
        exact ⟨upd F T (.tup [v, w]), Gr.data g hT, .tup upd_same (RpAll.mono (f.trans (same_new (g.free hT))) (.cons h2 (.cons k2 .nil)))⟩
  · unfold zipD
    rw [List.length_zipWith, ha.length, hb.length]
    omega
theorem si_zip {K : PySem.W.Frag} {tl tm : TE} (h : SE ξ W cr tl f) (h' : SE ξ W cr tm g) : SI ξ W cr (iZip K (tCons tl (tCons tm tNil))) (zipI f g) := fun F0 H0 env σ F H Rr s ne ok er => by
  have un : zipI f g env = match itL f env with
    | .ok ds e => match itL g e with
      | .ok es e' => .ok (zipD ds es) e'
      | .err c e' => .err c e'
      | .no => .no
    | .err c e => .err c e
    | .no => .no := rfl
  refine se_lst h s (fun z => ne (by rw [un]; simp only [z])) (fun ds e1 h1 a vs F1 H1 s1 f1 g1 hr ha => ?_) fun c e1 h1 => er c e1 (by rw [un]; simp only [h1])
  simp only [h1] at un
  refine se_lst h' s1 (fun z => ne (by rw [un]; simp only [z])) (fun es e2 k1 b ws F2 H2 s2 f2 g2 kr ka => ?_) fun c e2 k1 => er c e2 (by rw [un]; simp only [k1])
  have hr' : Rd F2 a (.lst vs) ∨ Rd H0 a (.lst vs) := hr.imp (rd_mono f2) id
  exact ⟨a, b, vs, ws, rfl, rd_sq (rd_any hr' (.refl _) s2.fh s2.h), rd_sq (rd_any kr (.refl _) s2.fh s2.h), ok _ e2 (by rw [un]; simp only [k1]) _ F2 H2 s2 (f1.trans f2) (g1.trans g2) (it_zip hr' (RpAll.mono f2 ha) kr ka)⟩
theorem nn_zipI (h : NN f) (h' : NN g) : NN (zipI f g) := fun env a env' q i hi => by
  have un : zipI f g env = match itL f env with
    | .ok ds e => match itL g e with
      | .ok es e' => .ok (zipD ds es) e'
      | .err c e' => .err c e'
      | .no => .no
    | .err c e => .err c e
    | .no => .no := rfl
  rw [un] at q
  cases h1 : itL f env with
  | ok ds e =>
    simp only [h1] at q
    cases h2 : itL g e with
    | ok es e2 => simp only [h2] at q; cases q; exact nn_itL h env ds _ h1 i (nn_itL h' e es _ h2 i hi)
    | err c e => simp only [h2] at q; cases q
    | no => simp only [h2] at q; cases q
  | err c e => simp only [h1] at q; cases q
  | no => simp only [h1] at q; cases q
theorem ji_zip {p tpos : Pos} {elts : List Expr} {kk : Nat} (hg : Gl X "zip") (hm : X.mg "zip" = none) (h : JE X ξ W cr a f) (h' : JE X ξ W cr b g) (hs : starEach [a, b] X.env = (false, eval a X.env) :: starEach [b] X.env := by rfl) (hs2 : starEach [b] X.env = (false, eval b X.env) :: starEach [] X.env := by rfl)
    (hpl : (backTo pos (starEach [b] X.env)).any (·.1) = false := by rfl) : JI X ξ W cr (.Tuple elts kk tpos) (.Call (.Name "zip" p) [a, b] [] pos) (zipI f g) :=
  let ⟨_, a1, a2, a3⟩ := h; let ⟨_, b1, b2, b3⟩ := h'; ⟨_, pi_zip hg hm (pa_cons a1 (pa_cons b1 pa_nil hs2) hs) hs hpl, si_zip a2 b2, nn_zipI a3 b3⟩
/-- range(n), from its end -/
theorem it_rangeC {F1 H0 : Hp} (lo c : Int) (n : Nat) : ItOk F1 H0 (Itc lo c n) (rgL lo c n) := fun F H f g h => by
  refine ⟨fun i d hd => ?_, by rw [rgL_len]; exact Nat.le_refl n⟩
  obtain ⟨h1, rfl⟩ := rgL_get hd
  refine ⟨h1, fun x H' hy => ?_⟩
  obtain ⟨rfl, rfl⟩ := hy
  exact ⟨F, Gr.refl g, .int _⟩
def itRR1 (f : Ev) : Iv := bnd f fun d e => match d with
  | .int j => if i62 j then .ok (rgL (0 + (((j - 0).toNat : Nat) : Int) - 1) (-1) (j - 0).toNat) e else .no
  | _ => .no
theorem si_rr1 {te : TE} (h : SE ξ W cr te f) : SI ξ W cr (iRevR (tRg1 te)) (itRR1 f) := fun F0 H0 env σ F H Rr s ne ok er => by
  refine se_bnd (k := fun d e => match d with
    | .int j => if i62 j then .ok (rgL (0 + (((j - 0).toNat : Nat) : Int) - 1) (-1) (j - 0).toNat) e else .no
    | _ => .no) h s ne (fun d e1 h1 v F1 H1 s1 f1 g1 c1 => ?_) er
  have h2 : itRR1 f env = _ := h1
  cases d with
  | int j =>
    cases c1
    by_cases hj : i62 j
    · simp only [if_pos hj] at h2
      exact ⟨j, rfl, by decide, by decide, hj.1, hj.2, ok _ e1 h2 _ F1 H1 s1 f1 g1 (it_rangeC _ _ _)⟩
    · simp only [if_neg hj] at h2; exact absurd h2 ne
  | _ => exact absurd h2 ne
theorem nn_itRR1 (h : NN f) : NN (itRR1 f) := nn_bnd h fun d env a env' q i hi => by
  cases d with
  | int j =>
    have q' : (if i62 j then R.ok (rgL (0 + (((j - 0).toNat : Nat) : Int) - 1) (-1) (j - 0).toNat) env else .no) = R.ok a env' := q
    by_cases hj : i62 j
    · rw [if_pos hj] at q'; cases q'; exact hi
    · rw [if_neg hj] at q'; cases q'
  | _ => cases q
theorem ji_rr1 {tg : Expr} {p p2 pos2 : Pos} (hg : Gl X "reversed") (hm : X.mg "reversed" = none) (hg2 : Gl X "range") (hm2 : X.mg "range" = none) (h : JE X ξ W cr e f) (na : starEach [e] X.env = (false, eval e X.env) :: starEach [] X.env := by rfl)
    (hs : starEach [.Call (.Name "range" p2) [e] [] pos2] X.env = (false, eval (.Call (.Name "range" p2) [e] [] pos2) X.env) :: starEach [] X.env := by rfl) : JI X ξ W cr tg (.Call (.Name "reversed" p) [.Call (.Name "range" p2) [e] [] pos2] [] pos) (itRR1 f) :=
  let ⟨_, a1, a2, a3⟩ := h; ⟨_, pi_revR hg hm (prg_1 hg2 hm2 a1 na) hs, si_rr1 a2, nn_itRR1 a3⟩
/-! ### a list of one's own is made shorter -/
def popS (i : Nat) : Sv := fun env => match gt env i with
  | .o ds => if ds = [] then .no else .nx (env.set i (.o ds.dropLast))
  | _ => .no
theorem RpAll.dropL {F : Hp} : ∀ {vs : List V} {ds : List D}, RpAll F vs ds → RpAll F vs.dropLast ds.dropLast
  | [], [], .nil => .nil
  | [_], [_], .cons _ .nil => .nil
  | _ :: _ :: _, _ :: _ :: _, .cons h (.cons h' hs) => .cons h (RpAll.dropL (.cons h' hs))
theorem ss_pop {K : PySem.W.Frag} {i : Nat} : SS ξ W cr (tDrop (tBM0 K "list" rPop (tVar i))) (popS i) := fun F0 H0 env σ F H De s ne nx rt bk ct er => by
  have un : popS i env = match gt env i with
    | .o ds => if ds = [] then .no else .nx (env.set i (.o ds.dropLast))
    | _ => .no := rfl
  cases hs : gt env i with
  | o ds =>
    simp only [hs] at un
    by_cases hn : ds = []
    · exact absurd (by rw [un, if_pos hn]) ne
    · rw [if_neg hn] at un
      obtain ⟨a, vs, e1, e2, e3, e4, e5⟩ := sim_own s hs
      have hv : ∃ y, vs[vs.length - 1]? = some y := by
        have : vs.length - 1 < vs.length := by
          have := e5.length
          have : 0 < ds.length := List.length_pos_iff.mpr hn
          omega
        exact ⟨_, List.getElem?_eq_getElem this⟩
      obtain ⟨y, hy⟩ := hv
      exact ⟨.ref a, e1, .inl ⟨rfl, _, SqL.of e4⟩, a, vs, y, rfl, rfl, e4, hy, nx _ un σ F _ (sim_mut s hs e1 (RpAll.dropL e5)) (.refl _)⟩
  | un => exact absurd (by rw [un]; simp only [hs]) ne
  | v d => exact absurd (by rw [un]; simp only [hs]) ne
  | b ds => exact absurd (by rw [un]; simp only [hs]) ne
  | t kvs => exact absurd (by rw [un]; simp only [hs]) ne
  | x c => exact absurd (by rw [un]; simp only [hs]) ne
def clrL (i : Nat) : Sv := fun env => match gt env i with
  | .o _ => .nx (env.set i (.o []))
  | _ => .no
theorem ss_clr {K : PySem.W.Frag} {i : Nat} : SS ξ W cr (tDrop (tBM0 K "list" rClear (tVar i))) (clrL i) := fun F0 H0 env σ F H De s ne nx rt bk ct er => by
  have un : clrL i env = match gt env i with
    | .o _ => .nx (env.set i (.o []))
    | _ => .no := rfl
  cases hs : gt env i with
  | o ds =>
    simp only [hs] at un
    obtain ⟨a, vs, e1, e2, e3, e4, e5⟩ := sim_own s hs
    exact ⟨.ref a, e1, .inl ⟨rfl, _, SqL.of e4⟩, a, vs, rfl, rfl, e4, nx _ un σ F _ (sim_mut s hs e1 .nil) (.refl _)⟩
  | un => exact absurd (by rw [un]; simp only [hs]) ne
  | v d => exact absurd (by rw [un]; simp only [hs]) ne
  | b ds => exact absurd (by rw [un]; simp only [hs]) ne
  | t kvs => exact absurd (by rw [un]; simp only [hs]) ne
  | x c => exact absurd (by rw [un]; simp only [hs]) ne
theorem js_pop (i : Nat) {x : Str} {apos p pos' : Pos} (hN : X.N[i]? = some x := by rfl) (hv : Vis X.env.scope x := by first | exact Or.inl rfl | exact Or.inr (Or.inl rfl) | exact Or.inr (Or.inr rfl)) (hd : (x == ("__debug__" : Str)) = false := by decide)
    (hcd : (x == ("__classdict__" : Str)) = false := by decide)
    (hb : ∀ {tr : TE}, PE X (.Name x p) tr → PE X (.Call (.Attribute (.Name x p) "pop" apos) [] [] pos') (tBM0 X.K "list" rPop tr))
    (hs : swapsWith (.Call (.Attribute (.Name x p) "pop" apos) [] [] pos') none pos.line X.env = pure false := by rfl) : JS X ξ W cr (.Expr (.Call (.Attribute (.Name x p) "pop" apos) [] [] pos') pos) (popS i) :=
  ⟨_, ps_expr (hb (pv i hN hv hd hcd)) hs, ss_pop⟩
theorem js_clr (i : Nat) {x : Str} {apos p pos' : Pos} (hN : X.N[i]? = some x := by rfl) (hv : Vis X.env.scope x := by first | exact Or.inl rfl | exact Or.inr (Or.inl rfl) | exact Or.inr (Or.inr rfl)) (hd : (x == ("__debug__" : Str)) = false := by decide)
    (hcd : (x == ("__classdict__" : Str)) = false := by decide)
    (hb : ∀ {tr : TE}, PE X (.Name x p) tr → PE X (.Call (.Attribute (.Name x p) "clear" apos) [] [] pos') (tBM0 X.K "list" rClear tr))
    (hs : swapsWith (.Call (.Attribute (.Name x p) "clear" apos) [] [] pos') none pos.line X.env = pure false := by rfl) : JS X ξ W cr (.Expr (.Call (.Attribute (.Name x p) "clear" apos) [] [] pos') pos) (clrL i) :=
  ⟨_, ps_expr (hb (pv i hN hv hd hcd)) hs, ss_clr⟩
end
@[simp] theorem itV_s {f : Ev} {env : En} : itV f env = match itL f env with
  | .ok ds e => .ok ds.reverse e
  | .err c e => .err c e
  | .no => .no := rfl
@[simp] theorem zipI_s {f g : Ev} {env : En} : zipI f g env = match itL f env with
  | .ok ds e => match itL g e with
    | .ok es e' => .ok (zipD ds es) e'
    | .err c e' => .err c e'
    | .no => .no
  | .err c e => .err c e
  | .no => .no := rfl
@[simp] theorem itRR1_s {f : Ev} {env : En} : itRR1 f env = bnd f (fun d e => match d with
  | .int j => if i62 j then .ok (rgL (0 + (((j - 0).toNat : Nat) : Int) - 1) (-1) (j - 0).toNat) e else .no
  | _ => .no) env := rfl
@[simp] theorem popS_s {i : Nat} {env : En} : popS i env = match gt env i with
  | .o ds => if ds = [] then .no else .nx (env.set i (.o ds.dropLast))
  | _ => .no := rfl
@[simp] theorem clrL_s {i : Nat} {env : En} : clrL i env = match gt env i with
  | .o _ => .nx (env.set i (.o []))
  | _ => .no := rfl
end
end Q
namespace Q
open PySem L2
noncomputable section
/-! ### dicts by tuples of ints -/
theorem hu_of {A : Around} (h : A.units + 64 < cLine) : A.units + 1 < cLine := by omega
section
variable {X : Cx} {ξ : Addr × Nat} {W : WX} {cr : Nat → Value} {pos : Pos} {a b c e : Expr} {fa fb fc f g : Ev} {F H F0 H0 : Hp} {env : En} {σ : St}
def valI (kvs : List (List Int × D)) (k : List Int) : Option D := (kvs.find? fun p => decide (p.1 = k)).map (·.2)
def putI (kvs : List (List Int × D)) (k : List Int) (d : D) : List (List Int × D) :=
  if (kvs.any fun p => decide (p.1 = k)) = true then kvs.map (fun p => if p.1 = k then (p.1, d) else p) else kvs ++ [(k, d)]
theorem inl_inj {k l : List Int} : (k.map Sum.inl : List Key) = l.map Sum.inl ↔ k = l := List.map_inj_right fun _ _ h => by injection h
theorem KvOk.len : ∀ {ws : List (List Key × V)} {kvs : List (List Int × D)}, KvOk F ws kvs → ws.length = kvs.length
  | [], [], _ => rfl
  | w :: ws, k :: ks, h => by rw [List.length_cons, List.length_cons, KvOk.len h.2.2]
  | [], _ :: _, h => h.elim
  | _ :: _, [], h => h.elim
theorem KvOk.val (k : List Int) : ∀ {ws : List (List Key × V)} {kvs : List (List Int × D)}, KvOk F ws kvs → (∀ d, valI kvs k = some d → ∃ v, valV ws (k.map Sum.inl) = some v ∧ Rp F v d) ∧ (valI kvs k = none → valV ws (k.map Sum.inl) = none)
  | [], [], _ => ⟨fun d h => by simp [valI] at h, fun _ => rfl⟩
  | w :: ws, q :: ks, h => by
    obtain ⟨h1, h2⟩ := KvOk.val k h.2.2
    by_cases z : q.1 = k
    · have e : valI (q :: ks) k = some q.2 := by simp [valI, z]
      have e2 : valV (w :: ws) (k.map Sum.inl) = some w.2 := valV_pos (by rw [h.1, z])
      refine ⟨fun d hd => ⟨w.2, e2, ?_⟩, fun hd => ?_⟩
      · rw [e] at hd; cases hd; exact h.2.1
      · rw [e] at hd; cases hd
    · have e : valI (q :: ks) k = valI ks k := by simp [valI, List.find?_cons, z]
      have e2 : valV (w :: ws) (k.map Sum.inl) = valV ws (k.map Sum.inl) := valV_neg (by rw [h.1, inl_inj]; exact z)
      rw [e, e2]
      exact ⟨h1, h2⟩
  | [], _ :: _, h => h.elim
  | _ :: _, [], h => h.elim
theorem KvOk.app {v : V} {d : D} (k : List Int) (r : Rp F v d) : ∀ {ws : List (List Key × V)} {kvs : List (List Int × D)}, KvOk F ws kvs → KvOk F (ws ++ [(k.map Sum.inl, v)]) (kvs ++ [(k, d)])
  | [], [], _ => ⟨rfl, r, trivial⟩
  | w :: ws, q :: ks, h => ⟨h.1, h.2.1, KvOk.app k r h.2.2⟩
  | [], _ :: _, h => h.elim
  | _ :: _, [], h => h.elim
theorem KvOk.mp {v : V} {d : D} (k : List Int) (r : Rp F v d) : ∀ {ws : List (List Key × V)} {kvs : List (List Int × D)}, KvOk F ws kvs → KvOk F (ws.map fun p => if p.1 = k.map Sum.inl then (p.1, v) else p) (kvs.map fun p => if p.1 = k then (p.1, d) else p)
  | [], [], _ => trivial
  | w :: ws, q :: ks, h => by
    have ih := KvOk.mp k r h.2.2
    rw [List.map_cons, List.map_cons]  -- q
    by_cases z : q.1 = k
    · have z2 : w.1 = k.map Sum.inl := by rw [h.1, z]
      rw [if_pos z, if_pos z2]
      exact ⟨h.1, r, ih⟩
    · have z2 : ¬ w.1 = k.map Sum.inl := by rw [h.1, inl_inj]; exact z
      rw [if_neg z, if_neg z2]
      exact ⟨h.1, h.2.1, ih⟩
  | [], _ :: _, h => h.elim
  | _ :: _, [], h => h.elim
theorem KvOk.any (k : List Int) : ∀ {ws : List (List Key × V)} {kvs : List (List Int × D)}, KvOk F ws kvs → (ws.any fun p => decide (p.1 = k.map Sum.inl)) = (kvs.any fun p => decide (p.1 = k))
  | [], [], _ => rfl
  | w :: ws, q :: ks, h => by
    rw [List.any_cons, List.any_cons, KvOk.any k h.2.2, h.1]
    congr 1
    rw [decide_eq_decide]
    exact inl_inj
  | [], _ :: _, h => h.elim
  | _ :: _, [], h => h.elim
theorem KvOk.put {ws : List (List Key × V)} {kvs : List (List Int × D)} {v : V} {d : D} (h : KvOk F ws kvs) (r : Rp F v d) (k : List Int) : KvOk F (putK ws (k.map Sum.inl) v) (putI kvs k d) := by
  unfold putK putI
  rw [h.any k]
  by_cases z : (kvs.any fun p => decide (p.1 = k)) = true
  · rw [if_pos z, if_pos z]; exact h.mp k r
  · rw [if_neg z, if_neg z]; exact h.app k r
theorem sim_dic (s : Sim ξ F0 H0 env σ F H) {i : Nat} {kvs : List (List Int × D)} (hi : gt env i = .t kvs) : ∃ a ws, σ[i]? = some (some (.ref a)) ∧ F a = none ∧ H0 a = none ∧ H a = some (.dT ws) ∧ KvOk F ws kvs := by
  have q := s.sl i
  rw [hi] at q
  obtain ⟨a, ws, e1, e2, e3, e4, e5⟩ := q
  exact ⟨a, ws, slot_get s e1, e2, e3, e4, e5⟩
theorem sim_mutT (s : Sim ξ F0 H0 env σ F H) {i : Nat} {kvs kvs' : List (List Int × D)} {a : Addr} {ws' : List (List Key × V)} (hi : gt env i = .t kvs) (e : σ[i]? = some (some (.ref a))) (h : KvOk F ws' kvs') : Sim ξ F0 H0 (env.set i (.t kvs')) σ F (upd H a (.dT ws')) := by
  have q := s.sl i
  rw [join_get e, hi] at q
  obtain ⟨b, vs, e1, q1, q2, q3, q4⟩ := q
  cases e1
  have hlt : i < env.length := gt_lt (by rw [hi]; intro z; cases z)
  have keepF : ∀ {G : Hp}, G a = none → Same G H → Same G (upd H a (.dT ws')) := fun {G} hG hs b o eb => by
    rw [upd_ne (ne_of_none eb hG)]
    exact hs _ _ eb
  have ow : ∀ j, (gt (env.set i (.t kvs')) j).own = true → (gt env j).own = true := fun j z => by
    rw [gt_set] at z
    by_cases h : i = j ∧ i < env.length
    · rw [← h.1, hi]; rfl
    · rw [if_neg h] at z; exact z
  refine ⟨s.f, keepF q2 s.h, keepF q1 s.fh, s.n, by rw [List.length_set]; exact s.len, fun j => ?_, fun j k b hj hk => s.sep j k b (ow j hj) (ow k hk)⟩
  rw [gt_set]
  by_cases hij : i = j
  · subst hij
    rw [if_pos ⟨rfl, hlt⟩, join_get e]
    exact ⟨a, ws', rfl, q1, q2, upd_same, h⟩
  · rw [if_neg (fun z => hij z.1)]
    have qj := s.sl j
    have nej : ∀ b, (gt env j).own = true → (σ[j]?).join = some (.ref b) → b ≠ a := fun b ho eb z => by
      subst z
      exact hij (s.sep i j b (by rw [hi]; rfl) ho e (slot_get s eb))
    cases hs : gt env j with
    | un => trivial
    | v d => rw [hs] at qj; exact qj
    | o es => rw [hs] at qj; obtain ⟨b, ws, e1, e2, e3, e4, e5⟩ := qj; exact ⟨b, ws, e1, e2, e3, by rw [upd_ne (nej b (by rw [hs]; rfl) e1)]; exact e4, e5⟩
    | b es => rw [hs] at qj; exact qj
    | t es => rw [hs] at qj; obtain ⟨b, ws, e1, e2, e3, e4, e5⟩ := qj; exact ⟨b, ws, e1, e2, e3, by rw [upd_ne (nej b (by rw [hs]; rfl) e1)]; exact e4, e5⟩
    | x c => rw [hs] at qj; exact qj
/-- {} -/
def dnewE : Ev := fun env => .ok .ft env
theorem Res.dic (g : Same F H) {p : Addr} (hp : H p = none) : Res F H F (upd H p (.dT [])) (.ref p) .ft := ⟨Gr.cell g hp, p, rfl, g.free hp, hp, upd_same⟩
theorem je_dnew : JE X ξ W cr (.Dict [] [] pos) dnewE := by
  refine ⟨_, pe_dnewT, fun F0 H0 env σ F H Qq s ne ok er => fun p hp => ?_, fun env a env' q i hi => by cases q; exact hi⟩
  have res := Res.dic s.fh hp
  obtain ⟨s2, ok2⟩ := res.ok s
  exact ok .ft env rfl _ _ _ s2 res.1.f res.1.h ok2
/-- a tuple of ints, as a key -/
theorem key_of {v : V} {ds : List D} {k : List Int} (h : Rp F v (.tuple ds)) (hk : intsOf ds = some k) (g : Same F H) : ∃ b, v = .ref b ∧ H b = some (.tup ((k.map Sum.inl).map kV)) := by
  cases h with
  | tup h1 h2 =>
    have e := ints_rp h2 hk
    refine ⟨_, rfl, ?_⟩
    rw [List.map_map]
    subst e
    exact g _ _ h1
/-- d.get(k, j) -/
def getK (i : Nat) (dk dd : D) (e : En) : R Vl := match gt e i, dk, dd with
  | .t kvs, .tuple ds, .int j => match intsOf ds with
    | some k => .ok (.v ((valI kvs k).getD (.int j))) e
    | none => .no
  | _, _, _ => .no
theorem getK_s {i : Nat} {dk dd : D} {e : En} : getK i dk dd e = match gt e i, dk, dd with
  | .t kvs, .tuple ds, .int j => match intsOf ds with
    | some k => .ok (.v ((valI kvs k).getD (.int j))) e
    | none => .no
  | _, _, _ => .no := rfl
def getE (i : Nat) (fk fd : Ev) : Ev := fun env => match gt env i with
  | .t _ => bnd fk (fun dk => bnd fd fun dd e => getK i dk dd e) env
  | _ => .no
theorem se_get {i : Nat} {tk td : TE} (hk : SE ξ W cr tk fa) (hd : SE ξ W cr td fb) : SE ξ W cr (tDGet2 (tVar i) tk td) (getE i fa fb) := fun F0 H0 env σ F H Qq s ne ok er => by
  have un : getE i fa fb env = match gt env i with
    | .t _ => bnd fa (fun dk => bnd fb fun dd e => getK i dk dd e) env
    | _ => .no := rfl
  cases hs : gt env i with
  | t kvs0 =>
    simp only [hs] at un
    obtain ⟨a, ws0, e1, e2, e3, e4, e5⟩ := sim_dic s hs
    refine ⟨.ref a, e1, a, rfl, .inr ⟨ws0, Rd.of e4⟩, ?_⟩
    refine se_bnd (k := fun dk => bnd fb fun dd e => getK i dk dd e) hk s (by rw [← un]; exact ne) (fun dk e1' h1 v F1 H1 s1 f1 g1 c1 => ?_) fun c e' h1 => er c e' (by rw [un, h1])
    refine se_bnd (k := fun dd e => getK i dk dd e) hd s1 (by rw [← h1, ← un]; exact ne) (fun dd e2' h2 v' F2 H2 s2 f2 g2 c2 => ?_) fun c e' h2 => er c e' (by rw [un, h1, h2])
    have h3 : getE i fa fb env = getK i dk dd e2' := by rw [un, h1, h2]
    have h4 : getK i dk dd e2' ≠ .no := by rw [← h3]; exact ne
    have u2 := getK_s (i := i) (dk := dk) (dd := dd) (e := e2')
    cases hs2 : gt e2' i with
    | t kvs =>
      cases dk with
      | tuple ds =>
        cases dd with
        | int j =>
          simp only [hs2] at u2
          cases hi : intsOf ds with
          | none => exact absurd (by rw [u2, hi]) h4
          | some k =>
            simp only [hi] at u2
            obtain ⟨b, ws, k1, k2, k3, k4, k5⟩ := sim_dic s2 hs2
            rw [e1] at k1; cases k1
            have c1' : Rp F1 v (.tuple ds) := c1
            obtain ⟨kb, rfl, hkb⟩ := key_of (Rp.mono f2 c1') hi s2.fh
            have c2' : Rp F2 v' (.int j) := c2
            obtain ⟨q1, q2⟩ := k5.val k
            refine ⟨_, DGet.t (k := k.map Sum.inl) k4 hkb, ?_⟩
            refine ok _ e2' (by rw [h3, u2]) _ F2 H2 s2 (f1.trans f2) (g1.trans g2) ?_
            show Rp F2 _ _
            cases hv : valI kvs k with
            | none => rw [q2 hv]; exact c2'
            | some d =>
              obtain ⟨v2, r1, r2⟩ := q1 d hv
              rw [r1]
              exact r2
        | _ => exact absurd (by rw [u2, hs2]) h4
      | _ => exact absurd (by rw [u2, hs2]) h4
    | _ => exact absurd (by rw [u2, hs2]) h4
  | _ => exact absurd (by rw [un]; simp only [hs]) ne
theorem nn_get {i : Nat} (h : NN fa) (h' : NN fb) : NN (getE i fa fb) := fun env a env' q j hj => by
  have un : getE i fa fb env = match gt env i with
    | .t _ => bnd fa (fun dk => bnd fb fun dd e => getK i dk dd e) env
    | _ => .no := rfl
  rw [un] at q
  have key : NN (bnd fa (fun dk => bnd fb fun dd e => getK i dk dd e)) := nn_bnd h fun dk => nn_bnd h' fun dd env a env' q j hj => by
    have u2 := getK_s (i := i) (dk := dk) (dd := dd) (e := env)
    rw [u2] at q
    split at q
    · split at q
      · cases q; exact hj
      · cases q
    · cases q
  cases hs : gt env i with
  | t kvs => simp only [hs] at q; exact key env a env' q j hj
  | _ => simp only [hs] at q; cases q
theorem je_get (i : Nat) {x : Str} {p apos : Pos} {k d : Expr} (hu : X.A.units + 1 < cLine) (hN : X.N[i]? = some x := by rfl) (hv : Vis X.env.scope x := by first | exact Or.inl rfl | exact Or.inr (Or.inl rfl) | exact Or.inr (Or.inr rfl)) (hk : JE X ξ W cr k fa) (hd : JE X ξ W cr d fb) (hdb : (x == ("__debug__" : Str)) = false := by decide)
    (hcd : (x == ("__classdict__" : Str)) = false := by decide) (m : M2 X (.Name x p) "get" apos k d pos) : JE X ξ W cr (.Call (.Attribute (.Name x p) "get" apos) [k, d] [] pos) (getE i fa fb) := by
  obtain ⟨tk, a1, a2, a3⟩ := hk
  obtain ⟨td, b1, b2, b3⟩ := hd
  exact ⟨_, pe_dget2 hu (pv i hN hv hdb hcd) a1 b1 m, se_get a2 b2, nn_get a3 b3⟩
/-- d[k] -/
def itemK (i : Nat) (dk : D) (e : En) : R Vl := match gt e i, dk with
  | .t kvs, .tuple ds => match intsOf ds with
    | some k => match valI kvs k with
      | some d => .ok (.v d) e
      | none => .no
    | none => .no
  | _, _ => .no
theorem itemK_s {i : Nat} {dk : D} {e : En} : itemK i dk e = match gt e i, dk with
  | .t kvs, .tuple ds => match intsOf ds with
    | some k => match valI kvs k with
      | some d => .ok (.v d) e
      | none => .no
    | none => .no
  | _, _ => .no := rfl
def itemE (i : Nat) (fk : Ev) : Ev := fun env => match gt env i with
  | .t _ => bnd fk (fun dk e => itemK i dk e) env
  | _ => .no
theorem se_item {i : Nat} {tk : TE} (hk : SE ξ W cr tk fa) : SE ξ W cr (tDGet (tVar i) tk) (itemE i fa) := fun F0 H0 env σ F H Qq s ne ok er => by
  have un : itemE i fa env = match gt env i with
    | .t _ => bnd fa (fun dk e => itemK i dk e) env
    | _ => .no := rfl
  cases hs : gt env i with
  | t kvs0 =>
    simp only [hs] at un
    obtain ⟨a, ws0, e1, e2, e3, e4, e5⟩ := sim_dic s hs
    refine ⟨.ref a, e1, ?_⟩
    refine se_bnd (k := fun dk e => itemK i dk e) hk s (by rw [← un]; exact ne) (fun dk e2' h1 v F2 H2 s2 f2 g2 c1 => ?_) fun c e' h1 => er c e' (by rw [un, h1])
    have h3 : itemE i fa env = itemK i dk e2' := by rw [un, h1]
    have h4 : itemK i dk e2' ≠ .no := by rw [← h3]; exact ne
    have u2 := itemK_s (i := i) (dk := dk) (e := e2')
    cases hs2 : gt e2' i with
    | t kvs =>
      cases dk with
      | tuple ds =>
        simp only [hs2] at u2
        cases hi : intsOf ds with
        | none => exact absurd (by rw [u2, hi]) h4
        | some k =>
          simp only [hi] at u2
          cases hv : valI kvs k with
          | none => exact absurd (by rw [u2, hv]) h4
          | some d =>
            simp only [hv] at u2
            obtain ⟨b, ws, k1, k2, k3, k4, k5⟩ := sim_dic s2 hs2
            rw [e1] at k1; cases k1
            have c1' : Rp F2 v (.tuple ds) := c1
            obtain ⟨kb, rfl, hkb⟩ := key_of c1' hi s2.fh
            obtain ⟨v2, r1, r2⟩ := (k5.val k).1 d hv
            have dg := DGet.t (k := k.map Sum.inl) k4 hkb
            rw [r1] at dg
            exact ⟨a, v2, rfl, dg, ok (.v d) e2' (by rw [h3, u2]) v2 F2 H2 s2 f2 g2 r2⟩
      | _ => exact absurd (by rw [u2, hs2]) h4
    | _ => exact absurd (by rw [u2, hs2]) h4
  | _ => exact absurd (by rw [un]; simp only [hs]) ne
theorem nn_item {i : Nat} (h : NN fa) : NN (itemE i fa) := fun env a env' q j hj => by
  have un : itemE i fa env = match gt env i with
    | .t _ => bnd fa (fun dk e => itemK i dk e) env
    | _ => .no := rfl
  rw [un] at q
  have key : NN (bnd fa (fun dk e => itemK i dk e)) := nn_bnd h fun dk env a env' q j hj => by
    have u2 := itemK_s (i := i) (dk := dk) (e := env)
    rw [u2] at q
    split at q
    · split at q
      · split at q
        · cases q; exact hj
        · cases q
      · cases q
    · cases q
  cases hs : gt env i with
  | t kvs => simp only [hs] at q; exact key env a env' q j hj
  | _ => simp only [hs] at q; cases q
theorem je_item (i : Nat) {x : Str} {p : Pos} {k : Expr} (hu : X.A.units + 1 < cLine) (hN : X.N[i]? = some x := by rfl) (hv : Vis X.env.scope x := by first | exact Or.inl rfl | exact Or.inr (Or.inl rfl) | exact Or.inr (Or.inr rfl)) (hk : JE X ξ W cr k fa) (hdb : (x == ("__debug__" : Str)) = false := by decide)
    (hcd : (x == ("__classdict__" : Str)) = false := by decide) (hs : NoSl k := by exact fun _ _ => rfl) : JE X ξ W cr (.Subscript (.Name x p) k pos) (itemE i fa) := by
  obtain ⟨tk, a1, a2, a3⟩ := hk
  exact ⟨_, pe_dget hu (pv i hN hv hdb hcd) a1 hs, se_item a2, nn_item a3⟩
/-- d[k] = v -/
def putT (i : Nat) (dk d : D) (e : En) : RS := match gt e i, dk with
  | .t kvs, .tuple ds => match intsOf ds with
    | some k => if kvs.length < LIM then .nx (e.set i (.t (putI kvs k d))) else .no
    | none => .no
  | _, _ => .no
theorem putT_s {i : Nat} {dk d : D} {e : En} : putT i dk d e = match gt e i, dk with
  | .t kvs, .tuple ds => match intsOf ds with
    | some k => if kvs.length < LIM then .nx (e.set i (.t (putI kvs k d))) else .no
    | none => .no
  | _, _ => .no := rfl
def putS (i : Nat) (fk fv : Ev) : Sv := fun env => match argE true fv env with
  | .ok a e => match gt e i with
    | .t _ => match bnd fk (fun k e' => R.ok k e') e with
      | .ok dk e' => putT i dk a.d e'
      | .err c e' => .err c e'
      | .no => .no
    | _ => .no
  | .err c e => .err c e
  | .no => .no
theorem se_bk {ta : TE} (h : SE ξ W cr ta fa) {F0 H0 : Hp} {env : En} {σ : St} {F H : Hp} {Qq : VK} (s : Sim ξ F0 H0 env σ F H) (ne : bnd fa (fun k e' => R.ok k e') env ≠ .no)
    (ok : ∀ d e1, bnd fa (fun k e' => R.ok k e') env = .ok d e1 → ∀ v F' H', Sim ξ F0 H0 e1 σ F' H' → Same F F' → Same H H' → Cont F' H' v d → Qq v H')
    (er : ∀ c e1, bnd fa (fun k e' => R.ok k e') env = .err c e1 → ∀ F' H', Sim ξ F0 H0 e1 σ F' H' → W (cr c) none σ H') : ta σ H Qq :=
  se_bnd (k := fun k e' => R.ok k e') h s ne ok er
theorem ss_put {i : Nat} {tk tv : TE} (hk : SE ξ W cr tk fa) (hv : SE ξ W cr tv fb) : SS ξ W cr (sDPut (tVar i) tk tv) (putS i fa fb) := fun F0 H0 env σ F H De s ne nx rt bk ct er => by
  have un : putS i fa fb env = match argE true fb env with
    | .ok a e => match gt e i with
      | .t _ => match bnd fa (fun k e' => R.ok k e') e with
        | .ok dk e' => putT i dk a.d e'
        | .err c e' => .err c e'
        | .no => .no
      | _ => .no
    | .err c e => .err c e
    | .no => .no := rfl
  refine se_arg (m := true) hv s (fun z => ne (by rw [un]; simp only [z])) (fun x e' h1 v F1 H1 s1 f1 g1 a1 => ?_) fun c e' h1 F1 H1 s1 => er c e' (by rw [un]; simp only [h1]) σ F1 H1 s1
  have hd : Rp F1 v x.d := by
    cases x with
    | s d => exact a1
    | c d => exact (argE_s h1).elim
  simp only [h1] at un
  cases hs : gt e' i with
  | t kvs0 =>
    simp only [hs] at un
    obtain ⟨a, ws0, e1, e2, e3, e4, e5⟩ := sim_dic s1 hs
    refine ⟨.ref a, e1, ?_⟩
    refine se_bk hk s1 (fun z => ne (by rw [un]; simp only [z])) (fun dk e2' h2 y F2 H2 s2 f2 g2 c1 => ?_) fun c e2' h2 F2 H2 s2 => er c e2' (by rw [un]; simp only [h2]) σ F2 H2 s2
    simp only [h2] at un
    have h4 : putT i dk x.d e2' ≠ .no := by rw [← un]; exact ne
    have u2 := putT_s (i := i) (dk := dk) (d := x.d) (e := e2')
    cases hs2 : gt e2' i with
    | t kvs =>
      cases dk with
      | tuple ds =>
        simp only [hs2] at u2
        cases hi : intsOf ds with
        | none => exact absurd (by rw [u2, hi]) h4
        | some k =>
          simp only [hi] at u2
          by_cases hl : kvs.length < LIM
          · rw [if_pos hl] at u2
            obtain ⟨b, ws, k1, k2, k3, k4, k5⟩ := sim_dic s2 hs2
            rw [e1] at k1; cases k1
            have c1' : Rp F2 y (.tuple ds) := c1
            obtain ⟨kb, rfl, hkb⟩ := key_of c1' hi s2.fh
            exact ⟨a, _, rfl, DPut.t (k := k.map Sum.inl) (v := v) k4 hkb (by rw [k5.len, ← LIM_eq]; exact hl), nx _ (by rw [un, u2]) σ F2 _ (sim_mutT s2 hs2 e1 (k5.put (Rp.mono f2 hd) k)) (f1.trans f2)⟩
          · exact absurd (by rw [u2, if_neg hl]) h4
      | _ => exact absurd (by rw [u2, hs2]) h4
    | _ => exact absurd (by rw [u2, hs2]) h4
  | _ => exact absurd (by rw [un, hs]) ne
theorem js_put (i : Nat) {x : Str} {p pos' : Pos} {k v : Expr} (hu : X.A.units + 1 < cLine) (hN : X.N[i]? = some x := by rfl) (hv : Vis X.env.scope x := by first | exact Or.inl rfl | exact Or.inr (Or.inl rfl) | exact Or.inr (Or.inr rfl)) (hk : JE X ξ W cr k fa) (he : JE X ξ W cr v fb) (hdb : (x == ("__debug__" : Str)) = false := by decide)
    (hcd : (x == ("__classdict__" : Str)) = false := by decide) (hs : swapsWith v (some (.Subscript (.Name x p) k pos')) pos.line X.env = pure false := by rfl) : JS X ξ W cr (.Assign [.Subscript (.Name x p) k pos'] v pos) (putS i fa fb) := by
  obtain ⟨tk, a1, a2, a3⟩ := hk
  obtain ⟨tv, b1, b2, b3⟩ := he
  exact ⟨_, ps_dput hu (pv i hN hv hdb hcd) a1 b1 hs, ss_put a2 b2⟩
end
@[simp] theorem dnewE_s {env : En} : dnewE env = .ok .ft env := rfl
@[simp] theorem getE_s {i : Nat} {fk fd : Ev} {env : En} : getE i fk fd env = match gt env i with
  | .t _ => bnd fk (fun dk => bnd fd fun dd e => getK i dk dd e) env
  | _ => .no := rfl
@[simp] theorem itemE_s {i : Nat} {fk : Ev} {env : En} : itemE i fk env = match gt env i with
  | .t _ => bnd fk (fun dk e => itemK i dk e) env
  | _ => .no := rfl
@[simp] theorem putS_s {i : Nat} {fk fv : Ev} {env : En} : putS i fk fv env = match argE true fv env with
  | .ok a e => match gt e i with
    | .t _ => match bnd fk (fun k e' => R.ok k e') e with
      | .ok dk e' => putT i dk a.d e'
      | .err c e' => .err c e'
      | .no => .no
    | _ => .no
  | .err c e => .err c e
  | .no => .no := rfl
end
end Q
namespace Srt2
open PySem PyProof.Rows SrtO PySem.W
section
variable {w : World} {prog : Program} {s : Shared} {A : Around}
/-- two tuples of ints, by turns -/
theorem kat_ints {b : Bool} {Q : Bool → Shared → Prop} : ∀ {xs ys : List Value} {ns ms : List Int}, IntsAre xs ns → IntsAre ys ms → ∀ (i : Nat) {fin : Bool}, fin = decide (ns.length < ms.length) → Q (HT.lexLt ns ms) s → KatLex prog w A b fin Q (xs.zip ys) i s
  | [], ys, _, ms, .nil, hy, i, fin, hf, h => by
    rw [List.zip_nil_left]
    refine kat_nil ?_
    cases hy with
    | nil =>
      rw [HT.lexLt_nil_nil] at h
      rw [hf]
      exact h
    | cons y u hy =>
      rw [HT.lexLt_nil_cons] at h
      rw [hf, decide_eq_true (by simp)]
      exact h
  | _ :: _, [], _, _, .cons x t hx, .nil, i, fin, hf, h => by
    rw [List.zip_nil_right]
    refine kat_nil ?_
    rw [HT.lexLt_cons_nil] at h
    rw [hf, decide_eq_false (by simp)]
    exact h
  | _ :: _, _ :: _, _, _, .cons x t hx, .cons y u hy, i, fin, hf, h => by
    rw [List.zip_cons_cons]
    rw [HT.lexLt_cons] at h
    refine kat_cons (SeqAt.EqAt.int_int x t y u prog w _ _ ?_)
    refine kat_go (fun e1 => ?_) (fun e1 => ?_)
    · have ex : x = y := by simpa using e1
      rw [if_pos ex] at h
      refine kat_yes (kat_ints hx hy (i + 1) ?_ h)
      rw [hf]
      simp
    · have ex : ¬ x = y := by simpa using e1
      rw [if_neg ex] at h
      exact kat_no (TS.oneLt_ints _ h)
theorem tups_cmp {c : Bool} {vs : List Value} {k : Value → List Int} (hp : ∀ v ∈ vs, TS.TupInts s.heap v (k v)) : Cmp prog w A s (tuples' c) (fun p => p.1 ∈ vs) (lt2 fun v u => HT.lexLt (k v) (k u)) := by
  intro p q hm hm'
  have h1 := hp _ hm
  have h2 := hp _ hm'
  show wpAny (model prog w) A (keyLt' (tuples' c) p.1 q.1) (fun r s' => s' = s ∧ r = HT.lexLt (k p.1) (k q.1)) (fun _ _ => False) s
  obtain ⟨a, xs, e, ⟨o, ho, hc, n, hd⟩, i⟩ := h1
  obtain ⟨a', xs', e', ⟨o', ho', hc', n', hd'⟩, i'⟩ := h2
  rw [e, e']
  rw [e] at i
  rw [e'] at i'
  refine kat_lt ho hd ho' hd' (kat_ints i i' 0 ?_ ⟨rfl, rfl⟩)
  have l1 := i.length
  have l2 := i'.length
  simp only [Array.length_toList] at l1 l2
  rw [l1, l2]
theorem firsts_ints {h : Heap} {k : Value → List Int} : ∀ {vs : List Value}, (∀ v ∈ vs, TS.TupInts h v (k v) ∧ k v ≠ []) → ∃ fs, KatTups h vs fs ∧ fs.length = vs.length ∧ ∀ f ∈ fs, ∃ x t, f = Value.int x t
  | [], _ => ⟨[], trivial, rfl, fun _ h => nomatch h⟩
  | v :: vs, hv => by
    obtain ⟨fs, h1, h2, h3⟩ := firsts_ints fun u hu => hv u (List.mem_cons_of_mem _ hu)
    obtain ⟨⟨a, xs, e, ⟨o, ho, hc, n, hd⟩, i⟩, hn⟩ := hv v List.mem_cons_self
    cases hl : xs.toList with
    | nil =>
      rw [hl] at i
      generalize k v = kv at i hn
      cases i
      exact absurd rfl hn
    | cons x r =>
      have hx : xs[0]? = some x := by rw [← Array.getElem?_toList, hl]; rfl
      rw [hl] at i
      generalize k v = kv at i hn
      cases i with
      | cons z t hr =>
        subst e
        refine ⟨Value.int z t :: fs, KatTups.cons ho hc hd hx h1, by rw [List.length_cons, List.length_cons, h2], fun f hf => ?_⟩
        rcases List.mem_cons.mp hf with q | q
        · exact ⟨z, t, q⟩
        · exact h3 f q
theorem tups_sortable {a : Addr} {vs : List Value} {k : Value → List Int} (h0 : 0 < vs.length) (hp : ∀ v ∈ vs, TS.TupInts s.heap v (k v) ∧ k v ≠ []) (ha : ∀ o, s.heap.get? a = some o → o.cls ≠ .type "tuple") : SortableO prog w A s a vs fun v u => HT.lexLt (k v) (k u) := by
  intro h' keep
  have hp' : ∀ v ∈ vs, TS.TupInts h' v (k v) ∧ k v ≠ [] := fun v hm => ⟨(hp v hm).1.keeps fun b o e c => keep b o (fun z => by subst z; exact ha o e c) e, (hp v hm).2⟩
  obtain ⟨fs, h1, h2, h3⟩ := firsts_ints hp'
  refine ⟨tuples' true, fun Q E hq => ?_, tups_cmp fun v hm => (hp' v hm).1⟩
  refine kat_kind (T := .type "int") h1 (by omega) (fun f hm => ?_) (by rfl) ?_
  · rcases h3 f hm with ⟨x, t, rfl⟩; exact PySem.W.Looks.now
  · rw [show (Value.type "int" != Value.type "tuple") = true from by decide +kernel]; exact hq
open SrtR L2 in
theorem sorted_dT {E : Value → Shared → Prop} {d : Addr} {o : Obj} {es : Array DictEntry} {ep : Nat} {vs : List Value} {b : Bool} {kw : List (Str × Value)} {ltv : Value → Value → Bool} {Q : Value → Shared → Prop}
    (hk : ∀ a, Builtin.«list.sort» ⟨[.ref a], kw⟩ = Builtin.«list.sort» ⟨[.ref a], [(Str.ofString "reverse", .bool b)]⟩) (h1 : argsOk "sorted" ⟨[.ref d], kw⟩) (h2 : ∀ a, argsOk "list.sort" ⟨[a], kw⟩) (O : Swo ltv)
    (lo : (d == sysModules) = false) (hx : o.ExactDict) (hd : o.data = .dict es ep) (ho : s.heap.get? d = some o) (hh : A.handled = none) (hz : es.size ≤ sizeLine) (hvs : vs = es.toList.map (·.key))
    (hS : ∀ (h' : Heap) (tk : Nat) (a : Addr), (∀ b o, s.heap.get? b = some o → b ≠ a ∧ h'.get? b = some o) → h'.get? a = some (seqObj "list" vs.toArray 0) → 2 ≤ vs.length → SortableO prog w A.in1.in1 { s with heap := h', toks := tk } a vs ltv)
    (h : ∀ (g h' : Heap) (tk : Nat) (out : List Value), (∀ b o, s.heap.get? b = some o → g.get? b = some o) → (∀ b o, g.get? b = some o → h'.get? b = some o) → Srtd ltv out → Stb ltv out (if b = true then vs.reverse else vs) → (∃ n, h'.get? g.objs.size = some (seqObj "list" (if b = true then out.toArray.reverse else out.toArray) n)) → Q (.ref g.objs.size) { s with heap := h', toks := tk }) :
    wpAny (model prog w) A (call (.builtin "sorted") [.ref d] kw) Q E s := by
  refine PyProof.Rows.call_function_entry_kw PyProof.Rows.kind_sorted PyProof.Rows.plain_sorted PyProof.Rows.entry_sorted h1 ?_
  unfold Builtin.«sorted»
  refine wpAny_bind (m := checkCount "sorted" 1 1 _) (wpAny_pure (wpAny_bind (PySem.W.kdu_collect (A := A.in1) (kdl_raw (prog := prog) (w := w) lo hx hd) hh ho hz fun h' tk acc hk' hacc => ?_)))
  have ea : acc.toList = vs := by
    rw [hvs]
    refine List.ext_getElem? ?_
    intro j
    rw [List.getElem?_map, Array.getElem?_toList, Array.getElem?_toList]
    cases hj : acc[j]? with
    | none =>
      have : es[j]? = none := by
        rw [Array.getElem?_eq_none_iff] at hj ⊢
        have := hacc.1
        omega
      rw [this]; rfl
    | some v =>
      obtain ⟨en, e1, e2⟩ := hacc.2 j v hj
      rw [e1, e2]; rfl
  have lv : vs.length ≤ sizeLine := by rw [← ea, Array.length_toList, hacc.1]; exact hz
  rw [ea]
  refine wpAny_bind (wpAny_newList ?_ lv)
  have hL : (h'.push (seqObj "list" vs.toArray 0)).get? h'.objs.size = some (seqObj "list" vs.toArray 0) := Heap.get?_push_size _ rfl
  have kp : ∀ b o, s.heap.get? b = some o → b ≠ h'.objs.size ∧ (h'.push (seqObj "list" vs.toArray 0)).get? b = some o := fun b o q =>
    ⟨Nat.ne_of_lt (Heap.lt_size (hk' b o q)), Heap.get?_push_of_some _ (hk' b o q)⟩
  refine wpAny_bind (wpAny_holding (wpAny_call_entry_kw PyProof.Rows.slot_list_sort ⟨_, hL, rfl⟩ PyProof.Rows.entry_list_sort ?_ (h2 _)))
  rw [hk]
  refine list_sort_ordR O hL lv (hS _ tk _ kp hL) fun out hs hb => ⟨_, rfl, wpAny_pure ⟨_, rfl, h h' _ tk out hk' (fun c u q => ?_) hs hb (PyProof.Rows.sortedHeap_at hL)⟩⟩
  rw [PyProof.Rows.sortedHeap_old (Nat.ne_of_lt (Heap.lt_size q)) (Heap.lt_size (Heap.get?_push_of_some _ q))]
  exact (show _ from Heap.get?_push_of_some _ q)
end
end Srt2
namespace Q
open PySem L2
section
variable {X : Cx}
/-- sorted(d, reverse=True), d by tuples of ints, none empty: a new list of the keys, falling -/
def rSortDT : List V → List V → Hp → VK → Prop := fun vs zs H Q => ∃ (a : Addr) (kvs : List (List Key × V)) (ks : List (List Int)), vs = [V.ref a] ∧ zs = [.bl true] ∧ Rd H a (.dT kvs) ∧ kvs.map (·.1) = ks.map (fun k => k.map Sum.inl) ∧ (∀ k ∈ ks, k ≠ []) ∧
  ∀ (ps : List (Addr × List Int)) (p : Addr), (ps.map (·.2)).Perm ks → ps.Pairwise (fun x y => HT.lexLt x.2 y.2 = false) → (∀ q ∈ ps, H q.1 = some (.tup (q.2.map V.int))) → H p = none → Q (.ref p) (upd H p (.lst (ps.map fun q => V.ref q.1)))
def NtAd : Value → Addr
  | .ref a => a
  | _ => 0
theorem cr_sortedDT (hc : X.calm = true) : CallRK X (.builtin "sorted") [Str.ofString "reverse"] rSortDT := by
  intro pins s σ H vs zs us ws Qq I r rz h
  obtain ⟨a, kvs, ks, rfl, rfl, hd, hk, hne, q⟩ := h
  obtain rfl := Vals.ref1 r
  obtain ⟨wb, rfl, e1⟩ := vals1 rz
  obtain rfl : wb = Value.bool true := e1
  obtain ⟨z, lo, xs, pr, o, es, ep, ho, hx, hdt, he, hn⟩ := (show ObjOk X.prog X.w H s.heap a (.dT kvs) from hd.ok I.hok)
  have hes : es.size = kvs.length := by
    have l1 : es.toList.length = xs.length := by rw [he, List.length_map]
    rw [← Array.length_toList, l1, ← Paired.length pr]
  have hvs : xs.map (fun x => Value.ref x.2.1) = es.toList.map (·.key) := by
    rw [he, List.map_map]
    rfl
  -- each key's tuple
  have kt : ∀ {l : List (List Key × V)} {m : List (List Key × Addr × Value)} {js : List (List Int)}, Paired (fun (p : List Key × V) (q : List Key × Addr × Value) => p.1 = q.1 ∧ H q.2.1 = some (.tup (p.1.map kV)) ∧ RelV p.2 q.2.2) l m → l.map (·.1) = js.map (fun k => k.map Sum.inl) →
      m.map (fun x => TS.intsOf s.heap (.ref x.2.1)) = js ∧ ∀ x ∈ m, H x.2.1 = some (.tup ((TS.intsOf s.heap (.ref x.2.1)).map V.int)) ∧ TS.TupInts s.heap (.ref x.2.1) (TS.intsOf s.heap (.ref x.2.1)) := fun {l} => by
    induction l with
    | nil =>
      intro m js h hj
      cases h
      cases js with
      | nil => exact ⟨rfl, fun _ h => nomatch h⟩
      | cons _ _ => cases hj
    | cons p l ih =>
      intro m js h hj
      cases h with
      | cons h1 h2 =>
        cases js with
        | nil => cases hj
        | cons j js =>
          rw [List.map_cons, List.map_cons] at hj
          injection hj with hj1 hj2
          obtain ⟨i1, i2⟩ := ih h2 hj2
          rename_i y _
          have ht : H y.2.1 = some (.tup (j.map V.int)) := by
            rw [h1.2.1, hj1, List.map_map]
            rfl
          have ti := tupI_raw I (ns := j) (.inl (Rd.of ht))
          have ei := ti.ints
          refine ⟨by rw [List.map_cons, i1, ei], fun x hx => ?_⟩
          rcases List.mem_cons.mp hx with hy | hx
          · subst hy; rw [ei]; exact ⟨ht, ti⟩
          · exact i2 x hx
  obtain ⟨k1, k2⟩ := kt pr hk
  have hv : ∀ v ∈ xs.map (fun x => Value.ref x.2.1), TS.TupInts s.heap v (TS.intsOf s.heap v) ∧ TS.intsOf s.heap v ≠ [] := fun v hm => by
    obtain ⟨x, hx', rfl⟩ := List.mem_map.mp hm
    refine ⟨(k2 x hx').2, hne _ ?_⟩
    rw [← k1]
    exact List.mem_map.mpr ⟨x, hx', rfl⟩
  refine Srt2.sorted_dT (ltv := fun v u => HT.lexLt (TS.intsOf s.heap v) (TS.intsOf s.heap u)) (fun _ => rfl) (PyProof.Rows.args_sorted_rev _ _) (fun _ => PyProof.Rows.args_list_sort_rev _ _) (NtL.swo_lexL fun v => TS.intsOf s.heap v) lo hx hdt ho (I.ok.hd hc) (by rw [hes]; exact z) hvs (fun h' tk l kp hl h2 => ?_) fun g h' tk out kg kh hs hb hl => ?_
  · refine Srt2.tups_sortable (by omega) (fun v hm => ⟨(hv v hm).1.keeps fun b o e _ => (kp b o e).2, (hv v hm).2⟩) fun o e => ?_
    rw [hl] at e
    cases e
    intro c
    injection c with c
    exact absurd c (by decide)
  · simp only [if_true] at hb hl
    obtain ⟨n, hl⟩ := hl
    have hp : out.reverse.Perm (xs.map fun x => Value.ref x.2.1) := (List.reverse_perm _).trans (hb.perm.trans (List.reverse_perm _))
    have hm : ∀ v ∈ out.reverse, ∃ x ∈ xs, v = Value.ref x.2.1 := fun v hv' => by
      obtain ⟨x, a1, a2⟩ := List.mem_map.mp (hp.mem_iff.mp hv')
      exact ⟨x, a1, a2.symm⟩
    have er : (out.toArray.reverse) = out.reverse.toArray := by simp
    rw [er] at hl
    have hs' : out.reverse.Pairwise fun x y => HT.lexLt (TS.intsOf s.heap x) (TS.intsOf s.heap y) = false := List.pairwise_reverse.mpr hs
    generalize out.reverse = R at hp hm hl hs'
    have ev : R = (R.map NtAd).map Value.ref := by
      rw [List.map_map]
      refine (List.map_id R).symm.trans (List.map_congr_left fun v hv' => ?_)
      obtain ⟨x, _, e⟩ := hm v hv'
      rw [e]; rfl
    have lR : R.length ≤ sizeLine := by
      rw [hp.length_eq, List.length_map, ← Paired.length pr]
      exact z
    have I1 : L2.Inv X pins σ H { s with heap := g, toks := tk } := I.kept kg
    have hr : ∀ as : List Addr, Vals (as.map V.ref) (as.map Value.ref) := fun as => by
      induction as with
      | nil => exact .nil
      | cons b as ih => exact .cons rfl ih
    have eq1 : (R.map fun v => (NtAd v, TS.intsOf s.heap v)).map (fun q => V.ref q.1) = (R.map NtAd).map V.ref := by rw [List.map_map, List.map_map]; rfl
    refine ⟨.ref g.objs.size, upd H g.objs.size (.lst ((R.map fun v => (NtAd v, TS.intsOf s.heap v)).map fun q => V.ref q.1)), I1.laid (t' := tk) kh (Nat.le_refl _) ⟨by rw [List.length_map, List.length_map]; exact lR, R, n, ?_, hl⟩, rfl, q _ _ ?_ ?_ (fun w hw => ?_) (I1.hok.fresh (Nat.le_refl _))⟩
    · rw [eq1]
      have := hr (R.map NtAd)
      rw [← ev] at this
      exact this
    · rw [List.map_map, ← k1]
      have := hp.map (TS.intsOf s.heap)
      rw [List.map_map] at this
      exact this
    · exact List.pairwise_map.mpr hs'
    · obtain ⟨v, v1, rfl⟩ := List.mem_map.mp hw
      obtain ⟨x, x1, rfl⟩ := hm v v1
      exact (k2 x x1).1
theorem lex_anti : ∀ x y : List Int, HT.lexLt x y = false → HT.lexLt y x = false → x = y
  | [], [], _, _ => rfl
  | [], y :: ys, h, _ => by rw [HT.lexLt_nil_cons] at h; cases h
  | x :: xs, [], _, h => by rw [HT.lexLt_nil_cons] at h; cases h
  | x :: xs, y :: ys, h1, h2 => by
    rw [HT.lexLt_cons] at h1 h2
    by_cases e : x = y
    · rw [if_pos e] at h1
      rw [if_pos e.symm] at h2
      rw [e, lex_anti xs ys h1 h2]
    · rw [if_neg e] at h1
      rw [if_neg (fun z => e z.symm)] at h2
      have a := of_decide_eq_false h1  -- q
      have b := of_decide_eq_false h2  -- q
      omega
theorem perm_uniq {α : Type} {R : α → α → Prop} (anti : ∀ x y, R x y → R y x → x = y) : ∀ {l m : List α}, l.Perm m → l.Pairwise R → m.Pairwise R → l = m
  | [], m, h, _, _ => (List.nil_perm.mp h).symm
  | x :: l, [], h, _, _ => by have := h.length_eq; simp at this
  | x :: l, y :: m, h, hl, hm => by
    have e : x = y := by
      rcases List.mem_cons.mp (h.mem_iff.mp List.mem_cons_self) with q | q
      · exact q
      · rcases List.mem_cons.mp (h.mem_iff.mpr (List.mem_cons_self (a := y))) with r | r
        · exact r.symm
        · exact anti x y ((List.pairwise_cons.mp hl).1 y r) ((List.pairwise_cons.mp hm).1 x q)
    subst e
    rw [perm_uniq anti ((List.perm_cons x).mp h) (List.pairwise_cons.mp hl).2 (List.pairwise_cons.mp hm).2]
/-- lists of ints, falling -/
def srtF (ks : List (List Int)) : List (List Int) := ks.mergeSort fun a b => !HT.lexLt a b
theorem srtF_perm (ks : List (List Int)) : (srtF ks).Perm ks := List.mergeSort_perm ks _
theorem srtF_fall (ks : List (List Int)) : (srtF ks).Pairwise fun x y => HT.lexLt x y = false := by
  have h := List.pairwise_mergeSort (le := fun a b => !HT.lexLt a b) (fun a b c h1 h2 => by
    rw [Bool.not_eq_true'] at h1 h2 ⊢
    exact NtL.lex_tr _ _ _ h2 h1) (fun a b => by
    cases h1 : HT.lexLt a b with
    | false => rfl
    | true => rw [NtL.lex_asym a b h1]; rfl) ks
  exact h.imp fun z => by simpa using z
theorem srtF_eq {ks js : List (List Int)} (h : js.Perm ks) (hs : js.Pairwise fun x y => HT.lexLt x y = false) : js = srtF ks :=
  perm_uniq (fun x y => lex_anti x y) (h.trans (srtF_perm ks).symm) hs (srtF_fall ks)
def keyD (k : List Int) : D := .tuple (k.map PyData.int)
def srtE (i : Nat) : Ev := fun env => match gt env i with
  | .t kvs => if ∀ p ∈ kvs, p.1 ≠ [] then .ok (.f ((srtF (kvs.map (·.1))).map keyD)) env else .no
  | _ => .no
variable {ξ : Addr × Nat} {W : WX} {cr : Nat → Value} {F H F0 H0 : Hp} {env : En} {σ : St} {pos : Pos}
theorem KvOk.keys : ∀ {ws : List (List Key × V)} {kvs : List (List Int × D)}, KvOk F ws kvs → ws.map (·.1) = (kvs.map (·.1)).map fun k => k.map Sum.inl
  | [], [], _ => rfl
  | w :: ws, k :: ks, h => by rw [List.map_cons, List.map_cons, List.map_cons, h.1, KvOk.keys h.2.2]
  | [], _ :: _, h => h.elim
  | _ :: _, [], h => h.elim
/-- tuples that are there stand still from now on -/
theorem Gr.still (g : Same F H) {p : Addr} {u : HO} (hp : H p = none) (ps : List (Addr × List Int)) (ht : ∀ q ∈ ps, H q.1 = some (.tup (q.2.map V.int))) :
    ∃ F', Gr F H F' (upd H p u) ∧ F' p = none ∧ ∀ q ∈ ps, F' q.1 = some (.tup (q.2.map V.int)) := by
  let F' : Hp := fun b => match F b with
    | some o => some o
    | none => if ps.any (fun q => q.1 == b) = true then H b else none
  have e1 : ∀ b o, F b = some o → F' b = some o := fun b o e => by show (match F b with | some o => some o | none => _) = _; rw [e]
  have e2 : ∀ b, F b = none → F' b = if ps.any (fun q => q.1 == b) = true then H b else none := fun b e => by show (match F b with | some o => some o | none => _) = _; rw [e]
  have e3 : ∀ b o, F' b = some o → H b = some o ∧ (F b = some o ∨ ∃ q ∈ ps, q.1 = b) := fun b o e => by
    cases z : F b with
    | some v =>
      rw [e1 b v z] at e; cases e
      exact ⟨g _ _ z, .inl rfl⟩
    | none =>
      rw [e2 b z] at e
      by_cases c : ps.any (fun q => q.1 == b) = true
      · rw [if_pos c] at e
        obtain ⟨q, q1, q2⟩ := List.any_eq_true.mp c
        exact ⟨e, .inr ⟨q, q1, by simpa using q2⟩⟩
      · rw [if_neg c] at e; cases e
  have e4 : ∀ q ∈ ps, F' q.1 = some (.tup (q.2.map V.int)) := fun q hq => by
    cases z : F q.1 with
    | some v =>
      have := g _ _ z
      rw [ht q hq] at this
      cases this
      exact e1 _ _ z
    | none =>
      rw [e2 _ z, if_pos (List.any_eq_true.mpr ⟨q, hq, by simp⟩)]
      exact ht q hq
  have e5 : F' p = none := by
    cases z : F' p with
    | none => rfl
    | some o => have := (e3 p o z).1; rw [hp] at this; cases this
  refine ⟨F', ⟨fun b o e => e1 b o e, same_new hp, fun b o e => ?_, fun b o e => ?_⟩, e5, e4⟩
  · have h1 := (e3 b o e).1
    rw [upd_ne (ne_of_none h1 hp)]
    exact h1
  · obtain ⟨h1, h2 | ⟨q, h2, rfl⟩⟩ := e3 b o e
    · exact .inl h2
    · have := e4 q h2
      rw [e] at this
      cases this
      exact .inr (.inr ⟨⟨_, rfl⟩, h1⟩)
theorem se_srt {i : Nat} : SE ξ W cr (tCKw rSortDT (tCons (tVar i) tNil) (tCons (tC (.bl true)) tNil)) (srtE i) := fun F0 H0 env σ F H Qq s ne ok er => by
  have un : srtE i env = match gt env i with
    | .t kvs => if ∀ p ∈ kvs, p.1 ≠ [] then .ok (.f ((srtF (kvs.map (·.1))).map keyD)) env else .no
    | _ => .no := rfl
  cases hs : gt env i with
  | t kvs =>
    simp only [hs] at un
    by_cases hn : ∀ p ∈ kvs, p.1 ≠ []
    · rw [if_pos hn] at un
      obtain ⟨a, ws, e1, e2, e3, e4, e5⟩ := sim_dic s hs
      refine ⟨.ref a, e1, a, ws, kvs.map (·.1), rfl, rfl, Rd.of e4, e5.keys, fun k hk => ?_, fun ps p hp hf ht hq => ?_⟩
      · obtain ⟨q, q1, rfl⟩ := List.mem_map.mp hk
        exact hn q q1
      · obtain ⟨F', g, hF, hT⟩ := Gr.still (u := .lst (ps.map fun q => V.ref q.1)) s.fh hq ps ht
        have ek : ps.map (·.2) = srtF (kvs.map (·.1)) := srtF_eq hp (List.pairwise_map.mpr hf)
        have rp : ∀ {ps : List (Addr × List Int)}, (∀ q ∈ ps, F' q.1 = some (.tup (q.2.map V.int))) → RpAll F' (ps.map fun q => V.ref q.1) ((ps.map (·.2)).map keyD) := fun {ps} => by
          induction ps with
          | nil => exact fun _ => .nil
          | cons q ps ih =>
            intro h
            have ri : ∀ ns : List Int, RpAll F' (ns.map V.int) (ns.map PyData.int) := fun ns => by
              induction ns with
              | nil => exact .nil
              | cons n ns ih => exact .cons (.int n) ih
            exact .cons (.tup (h q List.mem_cons_self) (ri q.2)) (ih fun x hx => h x (List.mem_cons_of_mem _ hx))
        have res : Res F H F' (upd H p (.lst (ps.map fun q => V.ref q.1))) (.ref p) (.f ((srtF (kvs.map (·.1))).map keyD)) := ⟨g, p, _, rfl, hF, hq, upd_same, by rw [← ek]; exact rp hT⟩
        obtain ⟨s2, ok2⟩ := res.ok s
        exact ok _ env un _ _ _ s2 g.f g.h ok2
    · exact absurd (by rw [un, if_neg hn]) ne
  | _ => exact absurd (by rw [un]; simp only [hs]) ne
theorem je_srt (i : Nat) {x : Str} {p p2 p3 p4 : Pos} {j : Nat} (hc : X.calm = true) (hg : Gl X "sorted") (hm : X.mg "sorted" = none) (hN : X.N[i]? = some x := by rfl) (hv : Vis X.env.scope x := by first | exact Or.inl rfl | exact Or.inr (Or.inl rfl) | exact Or.inr (Or.inr rfl)) (hdb : (x == ("__debug__" : Str)) = false := by decide)
    (hcd : (x == ("__classdict__" : Str)) = false := by decide) : JE X ξ W cr (.Call (.Name "sorted" p) [.Name x p2] [⟨some "reverse", .Constant (.bool true) j p3, p4⟩] pos) (srtE i) := by
  refine ⟨_, pe_callBK (cr_sortedDT hc) hg hm (by decide +kernel) (pa_cons (pv i hN hv hdb hcd) pa_nil rfl) (pk_cons pe_bl pk_nil), se_srt, fun env a env' q k hk => ?_⟩
  have un : srtE i env = match gt env i with
    | .t kvs => if ∀ p ∈ kvs, p.1 ≠ [] then .ok (.f ((srtF (kvs.map (·.1))).map keyD)) env else .no
    | _ => .no := rfl
  rw [un] at q
  cases hs : gt env i with
  | t kvs =>
    simp only [hs] at q
    by_cases hn : ∀ p ∈ kvs, p.1 ≠ []
    · rw [if_pos hn] at q; cases q; exact hk
    · rw [if_neg hn] at q; cases q
  | _ => simp only [hs] at q; cases q
@[simp] theorem srtE_s {i : Nat} {env : En} : srtE i env = match gt env i with
  | .t kvs => if ∀ p ∈ kvs, p.1 ≠ [] then .ok (.f ((srtF (kvs.map (·.1))).map keyD)) env else .no
  | _ => .no := rfl
end
end Q
namespace Q
noncomputable section
open PySem L2
/-! ### a second reading: lists by their places; who changes one changes it for all that hold it -/
inductive PV where
  | d (x : D) | t (xs : List PV) | r (n : Nat)
abbrev Sto := List (List PV)
mutual
inductive Vr (F : Hp) (A : List Addr) : V → PV → Prop
  | d {v : V} {x : D} : Rp F v x → Vr F A v (.d x)
  | t {a : Addr} {vs : List V} {xs : List PV} : F a = some (.tup vs) → VrAll F A vs xs → Vr F A (.ref a) (.t xs)
  | r {a : Addr} {n : Nat} : A[n]? = some a → Vr F A (.ref a) (.r n)
inductive VrAll (F : Hp) (A : List Addr) : List V → List PV → Prop
  | nil : VrAll F A [] []
  | cons {v : V} {vs : List V} {x : PV} {xs : List PV} : Vr F A v x → VrAll F A vs xs → VrAll F A (v :: vs) (x :: xs)
end
section
variable {F F' F2 H H' H2 : Hp} {A A' A2 : List Addr} {S S' : Sto}
theorem get_pre {B : List Addr} {n : Nat} {a : Addr} (h : A[n]? = some a) : (A ++ B)[n]? = some a := by
  have hl : n < A.length := by
    rcases Nat.lt_or_ge n A.length with q | q
    · exact q
    · rw [List.getElem?_eq_none q] at h; cases h
  rw [List.getElem?_append_left hl]; exact h
mutual
theorem Vr.mono {B : List Addr} (e : Same F F') : ∀ {x : PV} {v : V}, Vr F A v x → Vr F' (A ++ B) v x
  | _, _, .d h => .d (Rp.mono e h)
  | _, _, .t h hs => .t (e _ _ h) (VrAll.mono e hs)
  | _, _, .r h => .r (get_pre h)
theorem VrAll.mono {B : List Addr} (e : Same F F') : ∀ {xs : List PV} {vs : List V}, VrAll F A vs xs → VrAll F' (A ++ B) vs xs
  | _, _, .nil => .nil
  | _, _, .cons h hs => .cons (Vr.mono e h) (VrAll.mono e hs)
end
theorem Vr.monoF (e : Same F F') {x : PV} {v : V} (h : Vr F A v x) : Vr F' A v x := by
  have := h.mono (B := []) e
  rwa [List.append_nil] at this
theorem VrAll.monoF (e : Same F F') {x : List PV} {v : List V} (h : VrAll F A v x) : VrAll F' A v x := by
  have := h.mono (B := []) e
  rwa [List.append_nil] at this
theorem VrAll.length : ∀ {vs : List V} {xs : List PV}, VrAll F A vs xs → vs.length = xs.length
  | _, _, .nil => rfl
  | _, _, .cons _ h => congrArg (· + 1) (VrAll.length h)
theorem VrAll.get : ∀ {vs : List V} {xs : List PV} {i : Nat} {x : PV}, VrAll F A vs xs → xs[i]? = some x → ∃ v, vs[i]? = some v ∧ Vr F A v x
  | _, _, _, _, .nil, h => by simp at h
  | _, _, 0, _, .cons h _, e => by simp at e; subst e; exact ⟨_, rfl, h⟩
  | _, _, i + 1, _, .cons _ hs, e => by
    obtain ⟨v, h1, h2⟩ := VrAll.get (i := i) hs (by simpa using e)
    exact ⟨v, by simpa using h1, h2⟩
theorem VrAll.append : ∀ {vs ws : List V} {xs ys : List PV}, VrAll F A vs xs → VrAll F A ws ys → VrAll F A (vs ++ ws) (xs ++ ys)
  | _, _, _, _, .nil, h => h
  | _, _, _, _, .cons a b, h => .cons a (VrAll.append b h)
theorem VrAll.set : ∀ {vs : List V} {xs : List PV} {v : V} {x : PV} (i : Nat), VrAll F A vs xs → Vr F A v x → VrAll F A (vs.set i v) (xs.set i x)
  | _, _, _, _, _, .nil, _ => .nil
  | _, _, _, _, 0, .cons _ b, h => .cons h b
  | _, _, _, _, i + 1, .cons a b, h => .cons a (VrAll.set i b h)
theorem VrAll.take : ∀ {vs : List V} {xs : List PV} (n : Nat), VrAll F A vs xs → VrAll F A (vs.take n) (xs.take n)
  | _, _, 0, _ => .nil
  | _, _, _ + 1, .nil => .nil
  | _, _, n + 1, .cons a b => .cons a (VrAll.take n b)
theorem VrAll.drop : ∀ {vs : List V} {xs : List PV} (n : Nat), VrAll F A vs xs → VrAll F A (vs.drop n) (xs.drop n)
  | _, _, 0, h => h
  | _, _, _ + 1, .nil => .nil
  | _, _, n + 1, .cons _ b => VrAll.drop n b
theorem VrAll.ofRp : ∀ {vs : List V} {ds : List D}, RpAll F vs ds → VrAll F A vs (ds.map PV.d)
  | _, _, .nil => .nil
  | _, _, .cons h hs => .cons (.d h) (VrAll.ofRp hs)
/-! data within -/
mutual
def toD0 : PV → Option D
  | .d x => some x
  | .t xs => (toD0s xs).map PyData.tuple
  | .r _ => none
def toD0s : List PV → Option (List D)
  | [] => some []
  | x :: xs => (toD0 x).bind fun d => (toD0s xs).map (d :: ·)
end
mutual
theorem Vr.rp : ∀ {x : PV} {v : V} {d : D}, Vr F A v x → toD0 x = some d → Rp F v d
  | _, _, d, .d h, e => by
    simp only [toD0] at e; cases e; exact h
  | .t xs, _, d, .t h hs, e => by
    simp only [toD0] at e
    cases q : toD0s xs with
    | none => rw [q] at e; cases e  -- q
    | some ds => rw [q] at e; cases e; exact .tup h (VrAll.rp hs q)
  | _, _, _, .r _, e => by simp only [toD0] at e; cases e
theorem VrAll.rp : ∀ {xs : List PV} {vs : List V} {ds : List D}, VrAll F A vs xs → toD0s xs = some ds → RpAll F vs ds
  | [], _, ds, .nil, e => by simp only [toD0s] at e; cases e; exact .nil
  | x :: xs, _, ds, .cons h hs, e => by
    simp only [toD0s] at e
    cases q : toD0 x with
    | none => rw [q] at e; cases e  -- q
    | some d =>
      rw [q] at e
      cases q2 : toD0s xs with
      | none => rw [q2] at e; cases e
      | some es => rw [q2] at e; cases e; exact .cons (Vr.rp h q) (VrAll.rp hs q2)
end
structure StoOk (F : Hp) (A : List Addr) (S : Sto) (H : Hp) : Prop where
  fh : Same F H
  nd : A.Nodup
  len : A.length = S.length
  cell : ∀ (n : Nat) (a : Addr) (xs : List PV), A[n]? = some a → S[n]? = some xs → F a = none ∧ ∃ vs, H a = some (.lst vs) ∧ VrAll F A vs xs
structure Gp (F : Hp) (A : List Addr) (H F' : Hp) (A' : List Addr) (H' : Hp) : Prop where
  f : Same F F'
  a : ∃ B, A' = A ++ B
  h : ∀ (b : Addr) (o : HO), H b = some o → H' b = some o ∨ (b ∈ A ∧ ∃ vs, H' b = some (.lst vs))
  new : ∀ b ∈ A', b ∈ A ∨ H b = none
  n : ∀ (b : Addr) (o : HO), F' b = some o → F b = some o ∨ H b = none ∨ (Pl o ∧ H b = some o)
theorem Gp.refl : Gp F A H F A H := ⟨.refl _, ⟨[], (List.append_nil A).symm⟩, fun _ _ h => .inl h, fun _ h => .inl h, fun _ _ h => .inl h⟩
theorem Gp.there (g : Gp F A H F' A' H') {b : Addr} (h : H' b = none) : H b = none := by
  cases q : H b with
  | none => rfl
  | some o =>
    rcases g.h b o q with z | ⟨_, vs, z⟩
    · rw [h] at z; cases z
    · rw [h] at z; cases z
theorem Gp.trans (g : Gp F A H F' A' H') (k : Gp F' A' H' F2 A2 H2) : Gp F A H F2 A2 H2 := by
  have inA : ∀ b o, H b = some o → b ∈ A' → b ∈ A := fun b o h hb => by
    rcases g.new b hb with z | z
    · exact z
    · rw [h] at z; cases z
  refine ⟨g.f.trans k.f, ?_, fun b o h => ?_, fun b hb => ?_, fun b o h => ?_⟩
  · obtain ⟨B, hB⟩ := g.a
    obtain ⟨C, hC⟩ := k.a
    exact ⟨B ++ C, by rw [hC, hB, List.append_assoc]⟩
  · rcases g.h b o h with z | ⟨z, vs, w⟩
    · rcases k.h b o z with y | ⟨y, y2⟩
      · exact .inl y
      · exact .inr ⟨inA b o h y, y2⟩
    · rcases k.h b _ w with y | ⟨y, y2⟩
      · exact .inr ⟨z, vs, y⟩
      · exact .inr ⟨z, y2⟩
  · rcases k.new b hb with z | z
    · exact g.new b z
    · exact .inr (g.there z)
  · rcases k.n b o h with z | z | ⟨z, w⟩
    · exact g.n b o z
    · exact .inr (.inl (g.there z))
    · cases q : H b with
      | none => exact .inr (.inl rfl)
      | some u =>
        rcases g.h b u q with y | ⟨y, vs, y2⟩
        · rw [w] at y; cases y; exact .inr (.inr ⟨z, rfl⟩)
        · rw [w] at y2; cases y2; exact absurd z npl_lst
theorem StoOk.get (s : StoOk F A S H) {n : Nat} {a : Addr} (h : A[n]? = some a) : ∃ xs vs, S[n]? = some xs ∧ F a = none ∧ H a = some (.lst vs) ∧ VrAll F A vs xs := by
  have hl : n < A.length := by
    rcases Nat.lt_or_ge n A.length with q | q
    · exact q
    · rw [List.getElem?_eq_none q] at h; cases h
  have e : S[n]? = some (S[n]'(by rw [← s.len]; exact hl)) := List.getElem?_eq_getElem _
  obtain ⟨q1, vs, q2, q3⟩ := s.cell n a _ h e
  exact ⟨_, vs, e, q1, q2, q3⟩
theorem StoOk.in_ (s : StoOk F A S H) {a : Addr} (h : a ∈ A) : ∃ vs, H a = some (.lst vs) := by
  obtain ⟨n, hn⟩ := List.getElem?_of_mem h
  obtain ⟨xs, vs, _, _, q, _⟩ := s.get hn
  exact ⟨vs, q⟩
/-- a value from what a step on data gives -/
theorem StoOk.grow (s : StoOk F A S H) (g : Gr F H F' H') : StoOk F' A S H' ∧ Gp F A H F' A H' := by
  refine ⟨⟨g.fh, s.nd, s.len, fun n a xs h1 h2 => ?_⟩, ⟨g.f, ⟨[], (List.append_nil A).symm⟩, fun b o h => .inl (g.h b o h), fun b h => .inl h, g.n⟩⟩
  obtain ⟨q1, vs, q2, q3⟩ := s.cell n a xs h1 h2
  exact ⟨none_of g q1 q2 npl_lst, vs, g.h _ _ q2, VrAll.monoF g.f q3⟩
theorem StoOk.add (s : StoOk F A S H) {p : Addr} {vs : List V} {xs : List PV} (h1 : F p = none) (h2 : H p = some (.lst vs)) (h3 : p ∉ A) (h4 : VrAll F A vs xs) : StoOk F (A ++ [p]) (S ++ [xs]) H := by
  have mn : ∀ {vs : List V} {xs : List PV}, VrAll F A vs xs → VrAll F (A ++ [p]) vs xs := fun h => VrAll.mono (.refl _) h
  refine ⟨s.fh, List.nodup_append.mpr ⟨s.nd, by simp, fun a ha b hb e => h3 (by rw [List.mem_singleton.mp hb] at e; rw [← e]; exact ha)⟩, by simp [s.len], fun n a ys ha hy => ?_⟩
  by_cases hn : n < A.length
  · rw [List.getElem?_append_left hn] at ha
    rw [List.getElem?_append_left (by rw [← s.len]; exact hn)] at hy
    obtain ⟨q1, vs, q2, q3⟩ := s.cell n a ys ha hy
    exact ⟨q1, vs, q2, mn q3⟩
  · have hn2 : n = A.length := by
      have : n < (A ++ [p]).length := by
        rcases Nat.lt_or_ge n (A ++ [p]).length with q | q
        · exact q
        · rw [List.getElem?_eq_none q] at ha; cases ha
      simp at this
      omega
    subst hn2
    rw [List.getElem?_append_right (Nat.le_refl _)] at ha
    rw [List.getElem?_append_right (by rw [s.len]; exact Nat.le_refl _)] at hy
    simp at ha
    simp [s.len] at hy
    subst ha hy
    exact ⟨h1, vs, h2, mn h4⟩
theorem last_r (p : Addr) (s : StoOk F A S H) : Vr F (A ++ [p]) (.ref p) (.r S.length) := .r (by rw [← s.len]; simp)
theorem StoOk.alloc (s : StoOk F A S H) {p : Addr} {vs : List V} {xs : List PV} (hp : H p = none) (h : VrAll F A vs xs) : StoOk F (A ++ [p]) (S ++ [xs]) (upd H p (.lst vs)) ∧ Gp F A H F (A ++ [p]) (upd H p (.lst vs)) ∧ Vr F (A ++ [p]) (.ref p) (.r S.length) := by
  obtain ⟨s1, g1⟩ := s.grow (Gr.cell s.fh hp (o := .lst vs))
  have hA : p ∉ A := fun z => by
    obtain ⟨vs, q⟩ := s.in_ z
    rw [hp] at q; cases q
  refine ⟨s1.add (s.fh.free hp) upd_same hA h, ⟨g1.f, ⟨[p], rfl⟩, g1.h, fun b hb => ?_, g1.n⟩, last_r p s1⟩
  rcases List.mem_append.mp hb with q | q
  · exact .inl q
  · rw [List.mem_singleton.mp q]; exact .inr hp
theorem StoOk.tup (s : StoOk F A S H) {p : Addr} {vs : List V} {xs : List PV} (hp : H p = none) (h : VrAll F A vs xs) : StoOk (upd F p (.tup vs)) A S (upd H p (.tup vs)) ∧ Gp F A H (upd F p (.tup vs)) A (upd H p (.tup vs)) ∧ Vr (upd F p (.tup vs)) A (.ref p) (.t xs) := by
  have g := Gr.data s.fh hp (o := .tup vs)
  obtain ⟨s1, g1⟩ := s.grow g
  exact ⟨s1, g1, .t upd_same (VrAll.monoF g.f h)⟩
theorem StoOk.mut (s : StoOk F A S H) {n : Nat} {a : Addr} {vs' : List V} {xs' : List PV} (ha : A[n]? = some a) (h : VrAll F A vs' xs') : StoOk F A (S.set n xs') (upd H a (.lst vs')) ∧ Gp F A H F A (upd H a (.lst vs')) := by
  obtain ⟨xs, vs, e1, e2, e3, e4⟩ := s.get ha
  have hin : a ∈ A := List.mem_of_getElem? ha
  refine ⟨⟨fun b o hb => ?_, s.nd, by rw [List.length_set]; exact s.len, fun m b ys hb hy => ?_⟩, ⟨.refl _, ⟨[], (List.append_nil A).symm⟩, fun b o hb => ?_, fun b hb => .inl hb, fun _ _ h => .inl h⟩⟩
  · rw [upd_ne (fun z => by rw [z, e2] at hb; cases hb)]
    exact s.fh b o hb
  · by_cases hm : n = m
    · subst hm
      rw [ha] at hb; cases hb
      have hl : n < S.length := by
        rcases Nat.lt_or_ge n S.length with q | q
        · exact q
        · rw [List.getElem?_eq_none q] at e1; cases e1
      rw [List.getElem?_set_self hl] at hy
      cases hy
      exact ⟨e2, vs', upd_same, h⟩
    · rw [List.getElem?_set_ne hm] at hy
      obtain ⟨q1, ws, q2, q3⟩ := s.cell m b ys hb hy
      have ne : b ≠ a := fun z => hm (by
        have hl : n < A.length := by
          rcases Nat.lt_or_ge n A.length with q | q
          · exact q
          · rw [List.getElem?_eq_none q] at ha; cases ha
        exact (List.getElem?_inj hl s.nd).mp (by rw [ha, hb, z]))
      exact ⟨q1, ws, by rw [upd_ne ne]; exact q2, q3⟩
  · by_cases hba : b = a
    · subst hba; exact .inr ⟨hin, vs', upd_same⟩
    · rw [upd_ne hba]; exact .inl hb
/-- a result of a step on data, as a value here -/
def retV : Option Vl → Sto → Option (PV × Sto)
  | some (.v d), S => some (.d d, S)
  | some (.f ds), S => some (.r S.length, S ++ [ds.map PV.d])
  | _, _ => none
theorem StoOk.res (s : StoOk F A S H) {v : V} {vl : Vl} (r : Res F H F' H' v vl) {x : PV} (e : retV (some vl) S = some (x, S')) : ∃ A', StoOk F' A' S' H' ∧ Gp F A H F' A' H' ∧ Vr F' A' v x := by
  obtain ⟨g, q⟩ := r
  obtain ⟨s1, g1⟩ := s.grow g
  cases vl with
  | v d =>
    have e' : some (PV.d d, S) = some (x, S') := e
    cases e'
    exact ⟨A, s1, g1, .d q⟩
  | f ds =>
    have e' : some (PV.r S.length, S ++ [ds.map PV.d]) = some (x, S') := e
    cases e'
    obtain ⟨a, vs, rfl, q1, q2, q3, q4⟩ := q
    have hA : a ∉ A := fun z => by
      obtain ⟨vs, w⟩ := s.in_ z
      rw [q2] at w; cases w
    refine ⟨A ++ [a], s1.add q1 q3 hA (VrAll.ofRp q4), ⟨g1.f, ⟨[a], rfl⟩, g1.h, fun b hb => ?_, g1.n⟩, last_r a s1⟩
    rcases List.mem_append.mp hb with w | w
    · exact .inl w
    · rw [List.mem_singleton.mp w]; exact .inr q2
  | a i => cases e
  | ft => cases e
/-- a value's content, where all within stands still -/
def ct (S : Sto) : PV → Option D
  | .r n => (S[n]?).bind fun xs => (toD0s xs).map PyData.list
  | x => toD0 x
theorem ct_cont (s : StoOk F A S H) {v : V} {x : PV} {d : D} (h : Vr F A v x) (e : ct S x = some d) : Cont F H v d := by
  cases x with
  | d y => exact Cont.of s.fh (h.rp e)
  | t ys => exact Cont.of s.fh (h.rp e)
  | r n =>
    cases h with
    | r ha =>
      obtain ⟨xs, vs, e1, e2, e3, e4⟩ := s.get ha
      have e' : ((S[n]?).bind fun xs => (toD0s xs).map PyData.list) = some d := e
      rw [e1, Option.bind_some] at e'
      cases q : toD0s xs with
      | none => rw [q] at e'; cases e'
      | some ds => rw [q] at e'; cases e'; exact ⟨_, vs, rfl, Rd.of e3, e4.rp q⟩
/-- a value's content, as it is now -/
def rds (f : PV → Option D) : List PV → Option (List D)
  | [] => some []
  | x :: xs => (f x).bind fun d => (rds f xs).map (d :: ·)
def rd : Nat → Sto → PV → Option D
  | _, _, .d x => some x
  | 0, _, _ => none
  | k + 1, S, .t xs => (rds (rd k S) xs).map PyData.tuple
  | k + 1, S, .r n => (S[n]?).bind fun xs => (rds (rd k S) xs).map PyData.list
theorem rds_rp {f : PV → Option D} (h : ∀ x v d, Vr F A v x → f x = some d → Rp H v d) : ∀ {xs : List PV} {vs : List V} {ds : List D}, VrAll F A vs xs → rds f xs = some ds → RpAll H vs ds
  | [], _, ds, .nil, e => by cases e; exact .nil
  | x :: xs, _, ds, .cons a b, e => by
    have e' : ((f x).bind fun d => (rds f xs).map (d :: ·)) = some ds := e
    cases q : f x with
    | none => rw [q] at e'; cases e'
    | some d =>
      rw [q, Option.bind_some] at e'
      cases q2 : rds f xs with
      | none => rw [q2] at e'; cases e'
      | some es => rw [q2] at e'; cases e'; exact .cons (h _ _ _ a q) (rds_rp h b q2)
theorem rd_rp (s : StoOk F A S H) : ∀ (k : Nat) (x : PV) (v : V) (d : D), Vr F A v x → rd k S x = some d → Rp H v d
  | k, .d y, v, d, h, e => by
    have e' : some y = some d := by cases k <;> exact e
    cases e'
    cases h with
    | d h => exact Rp.mono s.fh h
  | 0, .t xs, _, _, _, e => by cases e
  | 0, .r n, _, _, _, e => by cases e
  | k + 1, .t xs, v, d, h, e => by
    have e' : (rds (rd k S) xs).map PyData.tuple = some d := e
    cases q : rds (rd k S) xs with
    | none => rw [q] at e'; cases e'
    | some ds =>
      rw [q] at e'; cases e'
      cases h with
      | t h1 h2 => exact .tup (s.fh _ _ h1) (rds_rp (rd_rp s k) h2 q)
  | k + 1, .r n, v, d, h, e => by
    have e' : ((S[n]?).bind fun xs => (rds (rd k S) xs).map PyData.list) = some d := e
    cases h with
    | r ha =>
      obtain ⟨xs, vs, e1, e2, e3, e4⟩ := s.get ha
      rw [e1, Option.bind_some] at e'
      cases q : rds (rd k S) xs with
      | none => rw [q] at e'; cases e'
      | some ds => rw [q] at e'; cases e'; exact .lst (Rd.of e3) (rds_rp (rd_rp s k) e4 q)
end
end
end Q
namespace Q
noncomputable section
open PySem L2
/-! ### the second reading: expressions -/
inductive PSl where
  | un | v (x : PV) | x (c : Nat)
abbrev PEn := List PSl
def pgt (e : PEn) (i : Nat) : PSl := e.getD i .un
inductive PR (α : Type) where
  | ok (a : α) (S : Sto) | err (c : Nat) (S : Sto) | no
def bindP {α γ : Type} : PR α → (α → Sto → PR γ) → PR γ
  | .ok a S, k => k a S
  | .err c S, _ => .err c S
  | .no, _ => .no
abbrev PF (α : Type) := PEn → Sto → PR α
abbrev PEv := PF PV
abbrev PTv := PF Bool
abbrev PAv := PF (List PV)
def PslOk (ξ : Addr × Nat) (F : Hp) (A : List Addr) : PSl → Option V → Prop
  | .un, _ => True
  | .v x, w => ∃ v, w = some v ∧ Vr F A v x
  | .x c, w => w = some (.ref ξ.1) ∧ c = ξ.2
structure SimP (ξ : Addr × Nat) (env : PEn) (σ : St) (F : Hp) (A : List Addr) (S : Sto) (H : Hp) : Prop where
  so : StoOk F A S H
  len : env.length = σ.length
  sl : ∀ i, PslOk ξ F A (pgt env i) (σ[i]?).join
/-- what a reading of values, truths, rows of values promises; R: how they are told -/
def SXp {α β : Type} (R : Hp → List Addr → β → α → Prop) (ξ : Addr × Nat) (W : WX) (cr : Nat → Value) (t : St → Hp → (β → Hp → Prop) → Prop) (f : PF α) : Prop :=
  ∀ (env : PEn) (σ : St) (F : Hp) (A : List Addr) (S : Sto) (H : Hp) (Qq : β → Hp → Prop), SimP ξ env σ F A S H → f env S ≠ .no →
  (∀ x S', f env S = .ok x S' → ∀ u F' A' H', StoOk F' A' S' H' → Gp F A H F' A' H' → R F' A' u x → Qq u H') →
  (∀ c S', f env S = .err c S' → ∀ F' A' H', StoOk F' A' S' H' → Gp F A H F' A' H' → W (cr c) none σ H') → t σ H Qq
def isO : Hp → List Addr → Option Int → Option Int → Prop := fun _ _ u x => u = x
def isB : Hp → List Addr → Bool → Bool → Prop := fun _ _ u x => u = x
def JEp (X : Cx) (ξ : Addr × Nat) (W : WX) (cr : Nat → Value) (e : Expr) (f : PEv) : Prop := ∃ te, PE X e te ∧ SXp Vr ξ W cr te f
def JTp (X : Cx) (ξ : Addr × Nat) (W : WX) (cr : Nat → Value) (e : Expr) (f : PTv) : Prop := ∃ tt, PT X e tt ∧ SXp isB ξ W cr tt f
def JWp (X : Cx) (ξ : Addr × Nat) (W : WX) (cr : Nat → Value) (e : Expr) (f : PTv) : Prop := ∃ tt, PW X e tt ∧ SXp isB ξ W cr tt f
def JAp (X : Cx) (ξ : Addr × Nat) (W : WX) (cr : Nat → Value) (es : List Expr) (f : PAv) : Prop := ∃ ta, PA X es ta ∧ SXp VrAll ξ W cr ta f
section
variable {ξ : Addr × Nat} {W : WX} {cr : Nat → Value} {F H F' H' : Hp} {A A' : List Addr} {S S' : Sto} {env : PEn} {σ : St}
theorem PslOk.mono (g : Gp F A H F' A' H') : ∀ {s : PSl} {w : Option V}, PslOk ξ F A s w → PslOk ξ F' A' s w
  | .un, _, _ => trivial
  | .v x, _, ⟨v, e, q⟩ => by
    obtain ⟨B, rfl⟩ := g.a
    exact ⟨v, e, q.mono g.f⟩
  | .x _, _, q => q
theorem SimP.grow (s : SimP ξ env σ F A S H) (o : StoOk F' A' S' H') (g : Gp F A H F' A' H') : SimP ξ env σ F' A' S' H' := ⟨o, s.len, fun i => (s.sl i).mono g⟩
theorem Vr.up (g : Gp F A H F' A' H') {v : V} {x : PV} (h : Vr F A v x) : Vr F' A' v x := by
  obtain ⟨B, rfl⟩ := g.a
  exact h.mono g.f
theorem VrAll.up (g : Gp F A H F' A' H') {v : List V} {x : List PV} (h : VrAll F A v x) : VrAll F' A' v x := by
  obtain ⟨B, rfl⟩ := g.a
  exact h.mono g.f
/-- first one part, then what follows: Z is what it comes to in all -/
theorem sx_bind {α β γ : Type} {R : Hp → List Addr → β → α → Prop} {t : St → Hp → (β → Hp → Prop) → Prop} {f : PF α} (hf : SXp R ξ W cr t f) {k : α → Sto → PR γ} (s : SimP ξ env σ F A S H) {P : β → Hp → Prop} {Z : PR γ} (hz : Z = bindP (f env S) k) (ne : Z ≠ .no)
    (ok : ∀ x S1, Z = k x S1 → ∀ u F1 A1 H1, SimP ξ env σ F1 A1 S1 H1 → Gp F A H F1 A1 H1 → R F1 A1 u x → P u H1)
    (er : ∀ c S1, Z = .err c S1 → ∀ F1 A1 H1, StoOk F1 A1 S1 H1 → Gp F A H F1 A1 H1 → W (cr c) none σ H1) : t σ H P := by
  refine hf env σ F A S H P s (fun z => ne (by rw [hz, z]; rfl)) (fun x S1 h u F1 A1 H1 o g r => ok x S1 (by rw [hz, h]; rfl) u F1 A1 H1 (s.grow o g) g r) fun c S1 h F1 A1 H1 o g => er c S1 (by rw [hz, h]; rfl) F1 A1 H1 o g
def varP (i : Nat) : PEv := fun env S => match pgt env i with
  | .v x => .ok x S
  | _ => .no
def cP (d : D) : PEv := fun _ S => .ok (.d d) S
def stepP : Option (PV × Sto) → PR PV
  | some p => .ok p.1 p.2
  | none => .no
def op1P (g : PV → Sto → Option (PV × Sto)) (fa : PEv) : PEv := fun env S => bindP (fa env S) fun x S => stepP (g x S)
def op2P (g : PV → PV → Sto → Option (PV × Sto)) (fa fb : PEv) : PEv := fun env S => bindP (fa env S) fun x S => bindP (fb env S) fun y S => stepP (g x y S)
def Op1p (r : V → Hp → VK → Prop) (g : PV → Sto → Option (PV × Sto)) : Prop := ∀ (F : Hp) (A : List Addr) (S : Sto) (H : Hp) (u : V) (x : PV) (v : PV) (S' : Sto) (Qq : VK), StoOk F A S H → Vr F A u x → g x S = some (v, S') → (∀ z F' A' H', StoOk F' A' S' H' → Gp F A H F' A' H' → Vr F' A' z v → Qq z H') → r u H Qq
def Op2p (r : R2) (g : PV → PV → Sto → Option (PV × Sto)) : Prop := ∀ (F : Hp) (A : List Addr) (S : Sto) (H : Hp) (u w : V) (x y : PV) (v : PV) (S' : Sto) (Qq : VK), StoOk F A S H → Vr F A u x → Vr F A w y → g x y S = some (v, S') → (∀ z F' A' H', StoOk F' A' S' H' → Gp F A H F' A' H' → Vr F' A' z v → Qq z H') → r u w H Qq
def OpNp (r : List V → Hp → VK → Prop) (g : List PV → Sto → Option (PV × Sto)) : Prop := ∀ (F : Hp) (A : List Addr) (S : Sto) (H : Hp) (us : List V) (xs : List PV) (v : PV) (S' : Sto) (Qq : VK), StoOk F A S H → VrAll F A us xs → g xs S = some (v, S') → (∀ z F' A' H', StoOk F' A' S' H' → Gp F A H F' A' H' → Vr F' A' z v → Qq z H') → r us H Qq
theorem step_ok {o : Option (PV × Sto)} {Z : PR PV} (h : Z = stepP o) (ne : Z ≠ .no) : ∃ v S', o = some (v, S') ∧ Z = .ok v S' := by
  cases o with
  | none => exact absurd h ne
  | some p => exact ⟨p.1, p.2, rfl, h⟩
theorem sx_var (i : Nat) : SXp Vr ξ W cr (tVar i) (varP i) := fun env σ F A S H Qq s ne ok _ => by
  have q := s.sl i
  cases hs : pgt env i with
  | v x =>
    rw [hs] at q
    obtain ⟨v, e1, e2⟩ := q
    have e3 : σ[i]? = some (some v) := by
      cases e : σ[i]? with
      | none => rw [e] at e1; cases e1
      | some w => rw [e] at e1; cases w with
        | none => cases e1
        | some u => cases e1; rfl
    exact ⟨v, e3, ok x S (by unfold varP; rw [hs]) v F A H s.so .refl e2⟩
  | un => exact absurd (by unfold varP; rw [hs]) ne
  | x c => exact absurd (by unfold varP; rw [hs]) ne
theorem sx_c {v : V} {d : D} (h : ∀ F, Rp F v d) : SXp Vr ξ W cr (tC v) (cP d) := fun env σ F A S H Qq s _ ok _ => ok (.d d) S rfl v F A H s.so .refl (.d (h F))
theorem sx_op1 {r : V → Hp → VK → Prop} {g : PV → Sto → Option (PV × Sto)} {ta : TE} {fa : PEv} (hr : Op1p r g) (ha : SXp Vr ξ W cr ta fa) : SXp Vr ξ W cr (tUn r ta) (op1P g fa) := fun env σ F A S H Qq s ne ok er => by
  refine sx_bind (k := fun x S => stepP (g x S)) ha s rfl ne (fun x S1 h1 u F1 A1 H1 s1 g1 r1 => ?_) er
  obtain ⟨v, S2, e1, e2⟩ := step_ok h1 ne
  exact hr F1 A1 S1 H1 u x v S2 Qq s1.so r1 e1 fun z F2 A2 H2 o2 g2 r2 => ok v S2 e2 z F2 A2 H2 o2 (g1.trans g2) r2
theorem sx_op2 {r : R2} {g : PV → PV → Sto → Option (PV × Sto)} {ta tb : TE} {fa fb : PEv} (hr : Op2p r g) (ha : SXp Vr ξ W cr ta fa) (hb : SXp Vr ξ W cr tb fb) : SXp Vr ξ W cr (tOp r ta tb) (op2P g fa fb) := fun env σ F A S H Qq s ne ok er => by
  refine sx_bind (k := fun x S => bindP (fb env S) fun y S => stepP (g x y S)) ha s rfl ne (fun x S1 h1 u F1 A1 H1 s1 g1 r1 => ?_) er
  refine sx_bind (k := fun y S => stepP (g x y S)) hb s1 h1 ne (fun y S2 h2 w F2 A2 H2 s2 g2 r2 => ?_) fun c S2 h2 F2 A2 H2 o2 g2 => er c S2 h2 F2 A2 H2 o2 (g1.trans g2)
  obtain ⟨v, S3, e1, e2⟩ := step_ok h2 ne
  exact hr F2 A2 S2 H2 u w x y v S3 Qq s2.so (r1.up g2) r2 e1 fun z F3 A3 H3 o3 g3 r3 => ok v S3 e2 z F3 A3 H3 o3 ((g1.trans g2).trans g3) r3
/-! what steps on data give here -/
def lift1 (g : D → Option Vl) (x : PV) (S : Sto) : Option (PV × Sto) := match ct S x with
  | some d => retV (g d) S
  | none => none
def retB : Option Vl → Sto → Option (PV × Sto)
  | some (.v (.bool b)), S => some (.d (.bool b), S)
  | _, _ => none
def lift2 (g : D → D → Option Vl) (x y : PV) (S : Sto) : Option (PV × Sto) := match ct S x, ct S y with
  | some d, some e => retV (g d e) S
  | _, _ => match rd 6 S x, rd 6 S y with
    | some d, some e => retB (g d e) S
    | _, _ => none
theorem retV_some {o : Option Vl} {S S' : Sto} {v : PV} (h : retV o S = some (v, S')) : ∃ vl, o = some vl := by
  cases o with
  | none => cases h
  | some vl => exact ⟨vl, rfl⟩
theorem op1_lift {r : V → Hp → VK → Prop} {g : D → Option Vl} (h : Op1 r g) : Op1p r (lift1 g) := fun F A S H u x v S' Qq s hx e q => by
  unfold lift1 at e
  cases hc : ct S x with
  | none => rw [hc] at e; cases e
  | some d =>
    rw [hc] at e
    have e : retV (g d) S = some (v, S') := e
    obtain ⟨vl, hv⟩ := retV_some e
    rw [hv] at e
    refine h F H u d vl Qq s.fh (ct_cont s hx hc) hv fun z F' H' res => ?_
    obtain ⟨A', o, gp, r⟩ := s.res res e
    exact q z F' A' H' o gp r
theorem gr_same (s : StoOk F A S H) (h : Same H H') : StoOk F A S H' ∧ Gp F A H F A H' := s.grow ⟨.refl _, h, s.fh.trans h, fun _ _ e => .inl e⟩
theorem op2_lift {r : R2} {g : D → D → Option Vl} (h : Op2 r g) : Op2p r (lift2 g) := fun F A S H u w x y v S' Qq s hx hy e q => by
  have deep : (match rd 6 S x, rd 6 S y with
    | some d, some e => retB (g d e) S
    | _, _ => none) = some (v, S') → r u w H Qq := fun e => by
    cases h1 : rd 6 S x with
    | none => rw [h1] at e; cases e
    | some d =>
      cases h2 : rd 6 S y with
      | none => rw [h1, h2] at e; cases e
      | some d' =>
        rw [h1, h2] at e
        have e' : retB (g d d') S = some (v, S') := e
        cases hg : g d d' with
        | none => rw [hg] at e'; cases e'
        | some vl =>
          rw [hg] at e'
          cases vl with
          | v z =>
            cases z with
            | bool b =>
              have e2 : some (PV.d (.bool b), S) = some (v, S') := e'
              cases e2
              refine h H H u w d d' _ Qq (.refl _) (Cont.of (.refl _) (rd_rp s 6 x u d hx h1)) (Cont.of (.refl _) (rd_rp s 6 y w d' hy h2)) hg fun z F' H' res => ?_
              obtain ⟨gr, rp⟩ := res
              cases rp
              obtain ⟨o, gp⟩ := gr_same s gr.h
              exact q _ F A H' o gp (.d (.bl b))
            | _ => cases e'
          | _ => cases e'
  unfold lift2 at e
  cases hc : ct S x with
  | none => rw [hc] at e; exact deep e
  | some d =>
    cases hc2 : ct S y with
    | none => rw [hc, hc2] at e; exact deep e
    | some d' =>
      rw [hc, hc2] at e
      have e' : retV (g d d') S = some (v, S') := e
      obtain ⟨vl, hv⟩ := retV_some e'
      rw [hv] at e'
      refine h F H u w d d' vl Qq s.fh (ct_cont s hx hc) (ct_cont s hy hc2) hv fun z F' H' res => ?_
      obtain ⟨A', o, gp, r⟩ := s.res res e'
      exact q z F' A' H' o gp r
def cts (S : Sto) : List PV → Option (List D)
  | [] => some []
  | x :: xs => (ct S x).bind fun d => (cts S xs).map (d :: ·)
def liftN (g : List D → Option Vl) (xs : List PV) (S : Sto) : Option (PV × Sto) := match cts S xs with
  | some ds => retV (g ds) S
  | none => none
theorem cts_ok (s : StoOk F A S H) : ∀ {xs : List PV} {vs : List V} {ds : List D}, VrAll F A vs xs → cts S xs = some ds → ArsOk F H vs (ds.map Ar.c)
  | [], _, ds, .nil, e => by cases e; exact .nil
  | x :: xs, _, ds, .cons a b, e => by
    have e' : ((ct S x).bind fun d => (cts S xs).map (d :: ·)) = some ds := e
    cases q : ct S x with
    | none => rw [q] at e'; cases e'
    | some d =>
      rw [q, Option.bind_some] at e'
      cases q2 : cts S xs with
      | none => rw [q2] at e'; cases e'
      | some es => rw [q2] at e'; cases e'; exact .cons (ct_cont s a q) (cts_ok s b q2)
theorem opN_lift {r : List V → Hp → VK → Prop} {g : List D → Option Vl} (h : OpN r g) : OpNp r (liftN g) := fun F A S H us xs v S' Qq s hx e q => by
  unfold liftN at e
  cases hc : cts S xs with
  | none => rw [hc] at e; cases e
  | some ds =>
    rw [hc] at e
    have e : retV (g ds) S = some (v, S') := e
    obtain ⟨vl, hv⟩ := retV_some e
    rw [hv] at e
    have em : (ds.map Ar.c).map Ar.d = ds := by rw [List.map_map]; exact List.map_id _
    refine h F H us (ds.map Ar.c) vl Qq s.fh (cts_ok s hx hc) (fun a ha => by
      obtain ⟨d, _, rfl⟩ := List.mem_map.mp ha
      exact ⟨d, rfl⟩) (by rw [em]; exact hv) fun z F' H' res => ?_
    obtain ⟨A', o, gp, r⟩ := s.res res e
    exact q z F' A' H' o gp r
/-! lists and tuples, their parts kept -/
def elL (S : Sto) : PV → Option (List PV)
  | .r n => S[n]?
  | .d (.list ds) => some (ds.map PV.d)
  | _ => none
def elT : PV → Option (List PV)
  | .t xs => some xs
  | .d (.tuple ds) => some (ds.map PV.d)
  | _ => none
theorem elL_ok (s : StoOk F A S H) {u : V} {x : PV} {xs : List PV} (h : Vr F A u x) (e : elL S x = some xs) : ∃ a vs, u = .ref a ∧ Rd H a (.lst vs) ∧ VrAll F A vs xs := by
  cases x with
  | r n =>
    cases h with
    | r ha =>
      obtain ⟨ys, vs, e1, e2, e3, e4⟩ := s.get ha
      have e' : S[n]? = some xs := e
      rw [e1] at e'; cases e'
      exact ⟨_, vs, rfl, Rd.of e3, e4⟩
  | d y =>
    cases y with
    | list ds =>
      cases e
      cases h with
      | d h =>
        cases h with
        | lst h1 h2 => exact ⟨_, _, rfl, rd_mono s.fh h1, VrAll.ofRp h2⟩
    | _ => cases e
  | t ys => cases e
theorem elT_ok (s : StoOk F A S H) {u : V} {x : PV} {xs : List PV} (h : Vr F A u x) (e : elT x = some xs) : ∃ a vs, u = .ref a ∧ Rd H a (.tup vs) ∧ VrAll F A vs xs ∧ F a = some (.tup vs) := by
  cases x with
  | r n => cases e
  | t ys =>
    cases e
    cases h with
    | t h1 h2 => exact ⟨_, _, rfl, Rd.of (s.fh _ _ h1), h2, h1⟩
  | d y =>
    cases y with
    | tuple ds =>
      cases e
      cases h with
      | d h =>
        cases h with
        | tup h1 h2 => exact ⟨_, _, rfl, Rd.of (s.fh _ _ h1), VrAll.ofRp h2, h1⟩
    | _ => cases e
def ixP (x y : PV) (S : Sto) : Option (PV × Sto) := match y with
  | .d (.int i) => match elL S x with
    | some xs => (atI xs i).map fun v => (v, S)
    | none => match elT x with
      | some xs => (atI xs i).map fun v => (v, S)
      | none => lift2 ixD x y S
  | _ => none
theorem atI_vr {vs : List V} {xs : List PV} {i : Int} {x : PV} (h : VrAll F A vs xs) (e : atI xs i = some x) : ∃ v, atI vs i = some v ∧ Vr F A v x := by
  unfold atI at e ⊢
  rw [h.length]
  cases q : ixN xs.length i with
  | none => exact absurd e (by rw [q]; simp)
  | some j =>
    rw [q] at e
    exact h.get e
theorem ap_ixP {K : PySem.W.Frag} : Op2p (rIx K) ixP := fun F A S H u w x y v S' Qq s hx hy e q => by
  unfold ixP at e
  cases y with
  | d z =>
    cases z with
    | int i =>
      simp only at e
      have hw : w = .int i := by
        cases hy with
        | d h => cases h; rfl
      subst hw
      cases h1 : elL S x with
      | some xs =>
        rw [h1] at e
        cases h2 : atI xs i with
        | none => simp only [h2] at e; cases e
        | some t =>
          simp only [h2] at e; cases e
          obtain ⟨a, vs, rfl, r1, r2⟩ := elL_ok s hx h1
          obtain ⟨z, r3, r4⟩ := atI_vr r2 h2
          exact .inl ⟨a, vs, i, z, rfl, rfl, rd_sq r1, r3, q z F A H s .refl r4⟩
      | none =>
        rw [h1] at e
        cases h3 : elT x with
        | some xs =>
          rw [h3] at e
          cases h2 : atI xs i with
          | none => simp only [h2] at e; cases e
          | some t =>
            simp only [h2] at e; cases e
            obtain ⟨a, vs, rfl, r1, r2, _⟩ := elT_ok s hx h3
            obtain ⟨z, r3, r4⟩ := atI_vr r2 h2
            exact .inr (.inl ⟨a, vs, i, z, rfl, rfl, .inl r1, r3, q z F A H s .refl r4⟩)
        | none =>
          rw [h3] at e
          exact op2_lift ap_ix F A S H u _ x _ v S' Qq s hx hy e q
    | _ => cases e
  | _ => cases e
/-- +: two lists, whatever they hold; else as data -/
def addP (x y : PV) (S : Sto) : Option (PV × Sto) := match elL S x, elL S y with
  | some xs, some ys => if xs.length + ys.length ≤ LIM then some (.r S.length, S ++ [xs ++ ys]) else none
  | _, _ => lift2 addD x y S
theorem ap_addP {K : PySem.W.Frag} : Op2p (fun x y H Q => rI0 (fun i j => .int (i + j)) x y H Q ∨ (∃ i j, x = .str i ∧ y = .str j ∧ i.length + j.length ≤ sizeLine ∧ Q (.str (i ++ j)) H) ∨ rCatQ x y H Q ∨ rCatA K x y H Q) addP := fun F A S H u w x y v S' Qq s hx hy e q => by
  unfold addP at e
  cases h1 : elL S x with
  | none => rw [h1] at e; exact op2_lift ap_add F A S H u w x y v S' Qq s hx hy e q
  | some xs =>
    cases h2 : elL S y with
    | none => rw [h1, h2] at e; exact op2_lift ap_add F A S H u w x y v S' Qq s hx hy e q
    | some ys =>
      rw [h1, h2] at e
      have e' : (if xs.length + ys.length ≤ LIM then some (PV.r S.length, S ++ [xs ++ ys]) else none) = some (v, S') := e
      by_cases hl : xs.length + ys.length ≤ LIM
      · rw [if_pos hl] at e'; cases e'
        obtain ⟨a, vs, rfl, r1, r2⟩ := elL_ok s hx h1
        obtain ⟨b, ws, rfl, k1, k2⟩ := elL_ok s hy h2
        refine .inr (.inr (.inl ⟨a, b, vs, ws, ⟨rfl, rfl⟩, ⟨r1, k1⟩, by rw [r2.length, k2.length, ← LIM_eq]; exact hl, fun p hp => ?_⟩))
        obtain ⟨o, gp, r⟩ := s.alloc hp (r2.append k2)
        exact q _ F _ _ o gp r
      · rw [if_neg hl] at e'; cases e'
end
end
end Q
namespace Q
noncomputable section
open PySem L2
/-! ### the second reading: tests, displays, calls -/
def toTP (f : PEv) : PTv := fun env S => bindP (f env S) fun x S => match x with
  | .d (.bool b) => .ok b S
  | _ => .no
def notTP (f : PTv) : PTv := fun env S => bindP (f env S) fun b S => .ok (!b) S
def andTP (f g : PTv) : PTv := fun env S => bindP (f env S) fun b S => if b = true then g env S else .ok false S
def orTP (f g : PTv) : PTv := fun env S => bindP (f env S) fun b S => if b = true then .ok true S else g env S
def notP (f : PEv) : PEv := fun env S => bindP (toTP f env S) fun b S => .ok (.d (.bool (!b))) S
def andP (f g : PEv) : PEv := fun env S => bindP (toTP f env S) fun b S => if b = true then g env S else .ok (.d (.bool false)) S
def orP (f g : PEv) : PEv := fun env S => bindP (toTP f env S) fun b S => if b = true then .ok (.d (.bool true)) S else g env S
def ifP (c : PTv) (f g : PEv) : PEv := fun env S => bindP (c env S) fun b S => if b = true then f env S else g env S
def chainP (g g' : PV → PV → Sto → Option (PV × Sto)) (fa fb fc : PEv) : PEv := fun env S => bindP (fa env S) fun x S => bindP (fb env S) fun y S => match g x y S with
  | some (.d (.bool b), S2) => if b = true then bindP (fc env S2) fun z S => stepP (g' y z S) else .ok (.d (.bool false)) S2
  | _ => .no
def argsP : List PEv → PAv
  | [] => fun _ S => .ok [] S
  | f :: r => fun env S => bindP (f env S) fun x S => bindP (argsP r env S) fun xs S => .ok (x :: xs) S
def tupP (fs : List PEv) : PEv := fun env S => bindP (argsP fs env S) fun xs S => .ok (.t xs) S
def lstP (fs : List PEv) : PEv := fun env S => bindP (argsP fs env S) fun xs S => .ok (.r S.length) (S ++ [xs])
def opNP (g : List PV → Sto → Option (PV × Sto)) (fs : List PEv) : PEv := fun env S => bindP (argsP fs env S) fun xs S => stepP (g xs S)
def lenP (xs : List PV) (S : Sto) : Option (PV × Sto) := match xs with
  | [x] => match elL S x with
    | some ys => some (.d (.int ys.length), S)
    | none => match elT x with
      | some ys => some (.d (.int ys.length), S)
      | none => liftN lenD [x] S
  | _ => none
def listP (xs : List PV) (S : Sto) : Option (PV × Sto) := match xs with
  | [x] => match elL S x with
    | some ys => some (.r S.length, S ++ [ys])
    | none => match elT x with
      | some ys => some (.r S.length, S ++ [ys])
      | none => none
  | _ => none
def cutP (xs : List PV) (lo hi : Option Int) : List PV := (xs.drop (HT.sIx xs.length 0 lo)).take (HT.sIx xs.length xs.length hi - HT.sIx xs.length 0 lo)
def sliPV (x : PV) (lo hi : Option Int) (S : Sto) : Option (PV × Sto) := match elL S x with
  | some ys => some (.r S.length, S ++ [cutP ys lo hi])
  | none => match elT x with
    | some ys => some (.t (cutP ys lo hi), S)
    | none => lift1 (fun d => sliD d lo hi) x S
def optP (f : Option PEv) (env : PEn) (S : Sto) : PR (Option Int) := match f with
  | none => .ok none S
  | some f => bindP (f env S) fun x S => match x with
    | .d (.int i) => .ok (some i) S
    | _ => .no
def sliP (f : PEv) (lo hi : Option PEv) : PEv := fun env S => bindP (f env S) fun x S => bindP (optP lo env S) fun l S => bindP (optP hi env S) fun h S => stepP (sliPV x l h S)
def tyP (x : PV) : String := match x with
  | .d y => tyN y
  | .t _ => "tuple"
  | .r _ => "list"
def isiPV (T : String) (x : PV) : Bool := tyP x == T || (tyP x == "bool" && T == "int")
def isiP (T : String) (f : PEv) : PEv := fun env S => bindP (f env S) fun x S => .ok (.d (.bool (isiPV T x))) S
/-- arguments as a def of the first reading takes them -/
def slQ (S : Sto) : List (Bool × PV) → Option (List Sl)
  | [] => some []
  | (true, x) :: r => match toD0 x, slQ S r with
    | some d, some l => some (.v d :: l)
    | _, _ => none
  | (false, x) :: r => match ct S x, slQ S r with
    | some d, some l => some ((Ar.c d).sl :: l)
    | _, _ => none
def callQ (m : Fv) (ms : List Bool) (fs : List PEv) : PEv := fun env S => bindP (argsP fs env S) fun xs S => match slQ S (ms.zip xs) with
  | some sl => match m sl with
    | .ok vl => stepP (retV (some vl) S)
    | .err c => .err c S
    | .no => .no
  | none => .no
abbrev PFv := List PV → Sto → PR PV
def callP (m : PFv) (fs : List PEv) : PEv := fun env S => bindP (argsP fs env S) fun xs S => m xs S
def spP (cr : Nat → Value) (np : Nat) (m : PFv) : Sp := fun us H Qq E => ∃ F A S xs, us.length = np ∧ StoOk F A S H ∧ VrAll F A us xs ∧ m xs S ≠ .no ∧
  (∀ v S', m xs S = .ok v S' → ∀ u F' A' H', StoOk F' A' S' H' → Gp F A H F' A' H' → Vr F' A' u v → Qq u H') ∧ (∀ c S', m xs S = .err c S' → ∀ F' A' H', StoOk F' A' S' H' → Gp F A H F' A' H' → E (cr c) none H')
section
variable {X : Cx} {ξ : Addr × Nat} {W : WX} {cr : Nat → Value} {F H F' H' : Hp} {A A' : List Addr} {S S' : Sto} {env : PEn} {σ : St} {pos : Pos} {a b c e : Expr} {es : List Expr} {fa fb fc f : PEv} {fs : List PEv}
theorem vr_bool {u : V} {k : Bool} (h : Vr F A u (.d (.bool k))) : u = .bl k := by
  cases h with
  | d h => cases h; rfl
theorem vr_int {u : V} {k : Int} (h : Vr F A u (.d (.int k))) : u = .int k := by
  cases h with
  | d h => cases h; rfl
theorem sx_toT {te : TE} (h : SXp Vr ξ W cr te f) : SXp isB ξ W cr (fun σ H Q => te σ H fun x H1 => ∃ k, x = .bl k ∧ Q k H1) (toTP f) := fun env σ F A S H Qq s ne ok er => by
  refine sx_bind (k := fun x S => match x with
    | .d (.bool b) => .ok b S
    | _ => .no) h s rfl ne (fun x S1 h1 u F1 A1 H1 s1 g1 r1 => ?_) er
  cases x with
  | d y =>
    cases y with
    | bool k => exact ⟨k, vr_bool r1, ok k S1 h1 k F1 A1 H1 s1.so g1 rfl⟩
    | _ => exact absurd h1 ne
  | _ => exact absurd h1 ne
theorem sx_not {tt : TT} {g : PTv} (h : SXp isB ξ W cr tt g) : SXp isB ξ W cr (tNot tt) (notTP g) := fun env σ F A S H Qq s ne ok er =>
  sx_bind (k := fun b S => .ok (!b) S) h s rfl ne (fun x S1 h1 u F1 A1 H1 s1 g1 r1 => by
    cases r1
    exact ok (!x) S1 h1 _ F1 A1 H1 s1.so g1 rfl) er
theorem sx_and {t u : TT} {f g : PTv} (h : SXp isB ξ W cr t f) (h' : SXp isB ξ W cr u g) : SXp isB ξ W cr (tAnd t u) (andTP f g) := fun env σ F A S H Qq s ne ok er => by
  refine sx_bind (k := fun b S => if b = true then g env S else .ok false S) h s rfl ne (fun x S1 h1 u F1 A1 H1 s1 g1 r1 => ?_) er
  cases r1
  cases x with
  | false => exact ok false S1 h1 _ F1 A1 H1 s1.so g1 rfl
  | true =>
    have h2 : andTP f g env S = g env S1 := h1
    exact h' env σ F1 A1 S1 H1 _ s1 (by rw [← h2]; exact ne) (fun y S2 e2 v F2 A2 H2 o2 g2 r2 => ok y S2 (h2.trans e2) v F2 A2 H2 o2 (g1.trans g2) r2) fun c S2 e2 F2 A2 H2 o2 g2 => er c S2 (h2.trans e2) F2 A2 H2 o2 (g1.trans g2)
theorem sx_or {t u : TT} {f g : PTv} (h : SXp isB ξ W cr t f) (h' : SXp isB ξ W cr u g) : SXp isB ξ W cr (tOr t u) (orTP f g) := fun env σ F A S H Qq s ne ok er => by
  refine sx_bind (k := fun b S => if b = true then .ok true S else g env S) h s rfl ne (fun x S1 h1 u F1 A1 H1 s1 g1 r1 => ?_) er
  cases r1
  cases x with
  | true => exact ok true S1 h1 _ F1 A1 H1 s1.so g1 rfl
  | false =>
    have h2 : orTP f g env S = g env S1 := h1
    exact h' env σ F1 A1 S1 H1 _ s1 (by rw [← h2]; exact ne) (fun y S2 e2 v F2 A2 H2 o2 g2 r2 => ok y S2 (h2.trans e2) v F2 A2 H2 o2 (g1.trans g2) r2) fun c S2 e2 F2 A2 H2 o2 g2 => er c S2 (h2.trans e2) F2 A2 H2 o2 (g1.trans g2)
theorem sx_notV {te : TE} (h : SXp Vr ξ W cr te f) : SXp Vr ξ W cr (tNotV te) (notP f) := fun env σ F A S H Qq s ne ok er =>
  sx_bind (k := fun b S => PR.ok (PV.d (.bool (!b))) S) (sx_toT h) s rfl ne (fun x S1 h1 u F1 A1 H1 s1 g1 r1 => by
    cases r1
    exact ok _ S1 h1 _ F1 A1 H1 s1.so g1 (.d (.bl _))) er
theorem sx_andV {ta tb : TE} {f g : PEv} (h : SXp Vr ξ W cr ta f) (h' : SXp Vr ξ W cr tb g) : SXp Vr ξ W cr (tAndV ta tb) (andP f g) := fun env σ F A S H Qq s ne ok er => by
  refine sx_bind (P := fun k H1 => if k = true then tb σ H1 Qq else Qq (.bl false) H1) (k := fun b S => if b = true then g env S else PR.ok (PV.d (.bool false)) S) (sx_toT h) s rfl ne (fun x S1 h1 u F1 A1 H1 s1 g1 r1 => ?_) er
  cases r1
  cases x with
  | false => exact ok _ S1 h1 _ F1 A1 H1 s1.so g1 (.d (.bl _))
  | true =>
    have h2 : andP f g env S = g env S1 := h1
    exact h' env σ F1 A1 S1 H1 _ s1 (by rw [← h2]; exact ne) (fun y S2 e2 v F2 A2 H2 o2 g2 r2 => ok y S2 (h2.trans e2) v F2 A2 H2 o2 (g1.trans g2) r2) fun c S2 e2 F2 A2 H2 o2 g2 => er c S2 (h2.trans e2) F2 A2 H2 o2 (g1.trans g2)
theorem sx_orV {ta tb : TE} {f g : PEv} (h : SXp Vr ξ W cr ta f) (h' : SXp Vr ξ W cr tb g) : SXp Vr ξ W cr (tOrV ta tb) (orP f g) := fun env σ F A S H Qq s ne ok er => by
  refine sx_bind (P := fun k H1 => if k = true then Qq (.bl true) H1 else tb σ H1 Qq) (k := fun b S => if b = true then PR.ok (PV.d (.bool true)) S else g env S) (sx_toT h) s rfl ne (fun x S1 h1 u F1 A1 H1 s1 g1 r1 => ?_) er
  cases r1
  cases x with
  | true => exact ok _ S1 h1 _ F1 A1 H1 s1.so g1 (.d (.bl _))
  | false =>
    have h2 : orP f g env S = g env S1 := h1
    exact h' env σ F1 A1 S1 H1 _ s1 (by rw [← h2]; exact ne) (fun y S2 e2 v F2 A2 H2 o2 g2 r2 => ok y S2 (h2.trans e2) v F2 A2 H2 o2 (g1.trans g2) r2) fun c S2 e2 F2 A2 H2 o2 g2 => er c S2 (h2.trans e2) F2 A2 H2 o2 (g1.trans g2)
theorem sx_if {t : TT} {ta tb : TE} {c : PTv} {f g : PEv} (hc : SXp isB ξ W cr t c) (h : SXp Vr ξ W cr ta f) (h' : SXp Vr ξ W cr tb g) : SXp Vr ξ W cr (tIf t ta tb) (ifP c f g) := fun env σ F A S H Qq s ne ok er => by
  refine sx_bind (k := fun b S => if b = true then f env S else g env S) hc s rfl ne (fun x S1 h1 u F1 A1 H1 s1 g1 r1 => ?_) er
  cases r1
  cases x with
  | true =>
    have h2 : ifP c f g env S = f env S1 := h1
    exact h env σ F1 A1 S1 H1 _ s1 (by rw [← h2]; exact ne) (fun y S2 e2 v F2 A2 H2 o2 g2 r2 => ok y S2 (h2.trans e2) v F2 A2 H2 o2 (g1.trans g2) r2) fun c S2 e2 F2 A2 H2 o2 g2 => er c S2 (h2.trans e2) F2 A2 H2 o2 (g1.trans g2)
  | false =>
    have h2 : ifP c f g env S = g env S1 := h1
    exact h' env σ F1 A1 S1 H1 _ s1 (by rw [← h2]; exact ne) (fun y S2 e2 v F2 A2 H2 o2 g2 r2 => ok y S2 (h2.trans e2) v F2 A2 H2 o2 (g1.trans g2) r2) fun c S2 e2 F2 A2 H2 o2 g2 => er c S2 (h2.trans e2) F2 A2 H2 o2 (g1.trans g2)
theorem sx_chain {r r' : R2} {g g' : PV → PV → Sto → Option (PV × Sto)} {ta tb tc : TE} (hr : Op2p r g) (hr' : Op2p r' g') (ha : SXp Vr ξ W cr ta fa) (hb : SXp Vr ξ W cr tb fb) (hc : SXp Vr ξ W cr tc fc) : SXp Vr ξ W cr (tChain r r' ta tb tc) (chainP g g' fa fb fc) := fun env σ F A S H Qq s ne ok er => by
  refine sx_bind (k := fun x S => bindP (fb env S) fun y S => match g x y S with
  | some (.d (.bool b), S2) => if b = true then bindP (fc env S2) fun z S => stepP (g' y z S) else .ok (.d (.bool false)) S2
  | _ => .no) ha s rfl ne (fun x S1 h1 u F1 A1 H1 s1 g1 r1 => ?_) er
  refine sx_bind (k := fun y S => match g x y S with
  | some (.d (.bool b), S2) => if b = true then bindP (fc env S2) fun z S => stepP (g' y z S) else .ok (.d (.bool false)) S2
  | _ => .no) hb s1 h1 ne (fun y S2 h2 w F2 A2 H2 s2 g2 r2 => ?_) fun c S2 h2 F2 A2 H2 o2 g2 => er c S2 h2 F2 A2 H2 o2 (g1.trans g2)
  cases hg : g x y S2 with
  | none => rw [hg] at h2; exact absurd h2 ne
  | some p =>
    obtain ⟨v, S3⟩ := p
    rw [hg] at h2
    cases v with
    | d z =>
      cases z with
      | bool k =>
        refine hr F2 A2 S2 H2 u w x y (.d (.bool k)) S3 _ s2.so (r1.up g2) r2 hg fun z F3 A3 H3 o3 g3 r3 => ⟨k, vr_bool r3, ?_⟩
        have s3 := s2.grow o3 g3
        cases k with
        | false => exact ok _ S3 h2 _ F3 A3 H3 o3 ((g1.trans g2).trans g3) (.d (.bl _))
        | true =>
          refine sx_bind (k := fun z S => stepP (g' y z S)) hc s3 h2 ne (fun z S4 h4 t F4 A4 H4 s4 g4 r4 => ?_) fun c S4 h4 F4 A4 H4 o4 g4 => er c S4 h4 F4 A4 H4 o4 (((g1.trans g2).trans g3).trans g4)
          obtain ⟨v, S5, e1, e2⟩ := step_ok h4 ne
          exact hr' F4 A4 S4 H4 w t y z v S5 Qq s4.so (r2.up (g3.trans g4)) r4 e1 fun q F5 A5 H5 o5 g5 r5 => ok v S5 e2 q F5 A5 H5 o5 ((((g1.trans g2).trans g3).trans g4).trans g5) r5
      | _ => exact absurd h2 ne
    | _ => exact absurd h2 ne
theorem sx_nil : SXp VrAll ξ W cr tNil (argsP []) := fun env σ F A S H Qq s _ ok _ => ok [] S rfl [] F A H s.so .refl .nil
theorem sx_cons {te : TE} {ta : TA} (h : SXp Vr ξ W cr te f) (hr : SXp VrAll ξ W cr ta (argsP fs)) : SXp VrAll ξ W cr (tCons te ta) (argsP (f :: fs)) := fun env σ F A S H Qq s ne ok er => by
  refine sx_bind (k := fun x S => bindP (argsP fs env S) fun xs S => .ok (x :: xs) S) h s rfl ne (fun x S1 h1 u F1 A1 H1 s1 g1 r1 => ?_) er
  refine sx_bind (k := fun xs S => .ok (x :: xs) S) hr s1 h1 ne (fun xs S2 h2 us F2 A2 H2 s2 g2 r2 => ?_) fun c S2 h2 F2 A2 H2 o2 g2 => er c S2 h2 F2 A2 H2 o2 (g1.trans g2)
  exact ok (x :: xs) S2 h2 (u :: us) F2 A2 H2 s2.so (g1.trans g2) (.cons (r1.up g2) r2)
theorem argsP_len : ∀ {fs : List PEv} {env : PEn} {S S' : Sto} {xs : List PV}, argsP fs env S = .ok xs S' → xs.length = fs.length
  | [], _, _, _, _, h => by cases h; rfl
  | f :: fs, env, S, S', xs, h => by
    have h' : bindP (f env S) (fun x S => bindP (argsP fs env S) fun xs S => .ok (x :: xs) S) = PR.ok xs S' := h
    cases q : f env S with
    | ok x S1 =>
      rw [q] at h'
      have h2 : bindP (argsP fs env S1) (fun xs S => .ok (x :: xs) S) = PR.ok xs S' := h'
      cases q2 : argsP fs env S1 with
      | ok ys S2 => rw [q2] at h2; cases h2; exact congrArg (· + 1) (argsP_len q2)
      | err c S2 => rw [q2] at h2; cases h2
      | no => rw [q2] at h2; cases h2
    | err c S1 => rw [q] at h'; cases h'
    | no => rw [q] at h'; cases h'
theorem sx_bindA {γ : Type} {ta : TA} (hf : SXp VrAll ξ W cr ta (argsP fs)) {k : List PV → Sto → PR γ} (s : SimP ξ env σ F A S H) {P : List V → Hp → Prop} {Z : PR γ} (hz : Z = bindP (argsP fs env S) k) (ne : Z ≠ .no)
    (ok : ∀ x S1, x.length = fs.length → Z = k x S1 → ∀ u F1 A1 H1, SimP ξ env σ F1 A1 S1 H1 → Gp F A H F1 A1 H1 → VrAll F1 A1 u x → P u H1)
    (er : ∀ c S1, Z = .err c S1 → ∀ F1 A1 H1, StoOk F1 A1 S1 H1 → Gp F A H F1 A1 H1 → W (cr c) none σ H1) : ta σ H P := by
  refine hf env σ F A S H P s (fun z => ne (by rw [hz, z]; rfl)) (fun x S1 h u F1 A1 H1 o g r => ok x S1 (argsP_len h) (by rw [hz, h]; rfl) u F1 A1 H1 (s.grow o g) g r) fun c S1 h F1 A1 H1 o g => er c S1 (by rw [hz, h]; rfl) F1 A1 H1 o g
theorem sx_tup {ta : TA} (h : SXp VrAll ξ W cr ta (argsP fs)) (hn : fs.length ≤ 1000) : SXp Vr ξ W cr (tTup ta) (tupP fs) := fun env σ F A S H Qq s ne ok er => by
  refine sx_bindA (k := fun xs S => PR.ok (PV.t xs) S) h s rfl ne (fun xs S1 hl h1 us F1 A1 H1 s1 g1 r1 => ⟨by rw [r1.length, hl]; exact Nat.le_trans hn (by decide), fun p hp => ?_⟩) er
  obtain ⟨o, g2, r⟩ := s1.so.tup hp r1
  exact ok _ S1 h1 _ _ _ _ o (g1.trans g2) r
theorem sx_lst {ta : TA} (h : SXp VrAll ξ W cr ta (argsP fs)) (hn : fs.length ≤ 1000) : SXp Vr ξ W cr (tLst ta) (lstP fs) := fun env σ F A S H Qq s ne ok er => by
  refine sx_bindA (k := fun xs S => PR.ok (PV.r S.length) (S ++ [xs])) h s rfl ne (fun xs S1 hl h1 us F1 A1 H1 s1 g1 r1 => ⟨by rw [r1.length, hl]; exact Nat.le_trans hn (by decide), fun p hp => ?_⟩) er
  obtain ⟨o, g2, r⟩ := s1.so.alloc hp r1
  exact ok _ _ h1 _ _ _ _ o (g1.trans g2) r
theorem sx_opN {r : List V → Hp → VK → Prop} {g : List PV → Sto → Option (PV × Sto)} {ta : TA} (hr : OpNp r g) (h : SXp VrAll ξ W cr ta (argsP fs)) : SXp Vr ξ W cr (tCB r ta) (opNP g fs) := fun env σ F A S H Qq s ne ok er => by
  refine sx_bindA (k := fun xs S => stepP (g xs S)) h s rfl ne (fun xs S1 hl h1 us F1 A1 H1 s1 g1 r1 => ?_) er
  obtain ⟨v, S2, e1, e2⟩ := step_ok h1 ne
  exact hr F1 A1 S1 H1 us xs v S2 Qq s1.so r1 e1 fun z F2 A2 H2 o2 g2 r2 => ok v S2 e2 z F2 A2 H2 o2 (g1.trans g2) r2
theorem vr_one {us : List V} {x : PV} (h : VrAll F A us [x]) : ∃ u, us = [u] ∧ Vr F A u x := by
  cases h with
  | cons a b => cases b; exact ⟨_, rfl, a⟩
theorem an_lenP {K : PySem.W.Frag} : OpNp (fun xs H Q => (∃ p ys, xs = [.ref p] ∧ (SqL K H p ys ∨ SqT K H p ys) ∧ Q (.int ys.length) H) ∨ ∃ z, xs = [.str z] ∧ z.length ≤ sizeLine ∧ Q (.int z.length) H) lenP := fun F A S H us xs v S' Qq s hx e q => by
  unfold lenP at e
  cases xs with
  | nil => cases e
  | cons x xs =>
    cases xs with
    | cons _ _ => cases e
    | nil =>
      obtain ⟨u, rfl, hu⟩ := vr_one hx
      simp only at e
      cases h1 : elL S x with
      | some ys =>
        simp only [h1] at e; cases e
        obtain ⟨a, vs, rfl, r1, r2⟩ := elL_ok s hu h1
        refine .inl ⟨a, vs, rfl, .inl (rd_sq r1), ?_⟩
        rw [r2.length]; exact q _ F A H s .refl (.d (.int _))
      | none =>
        simp only [h1] at e
        cases h2 : elT x with
        | some ys =>
          simp only [h2] at e; cases e
          obtain ⟨a, vs, rfl, r1, r2, _⟩ := elT_ok s hu h2
          refine .inl ⟨a, vs, rfl, .inr (.inl r1), ?_⟩
          rw [r2.length]; exact q _ F A H s .refl (.d (.int _))
        | none =>
          simp only [h2] at e
          exact opN_lift an_len F A S H _ _ v S' Qq s hx e q
theorem an_listP {K : PySem.W.Frag} : OpNp (fun xs H Q => ∃ p ys, xs = [.ref p] ∧ (SqL K H p ys ∨ SqT K H p ys) ∧ ∀ l, H l = none → Q (.ref l) (upd H l (.lst ys))) listP := fun F A S H us xs v S' Qq s hx e q => by
  unfold listP at e
  cases xs with
  | nil => cases e
  | cons x xs =>
    cases xs with
    | cons _ _ => cases e
    | nil =>
      obtain ⟨u, rfl, hu⟩ := vr_one hx
      simp only at e
      cases h1 : elL S x with
      | some ys =>
        simp only [h1] at e; cases e
        obtain ⟨a, vs, rfl, r1, r2⟩ := elL_ok s hu h1
        refine ⟨a, vs, rfl, .inl (rd_sq r1), fun p hp => ?_⟩
        obtain ⟨o, gp, r⟩ := s.alloc hp r2
        exact q _ F _ _ o gp r
      | none =>
        simp only [h1] at e
        cases h2 : elT x with
        | some ys =>
          simp only [h2] at e; cases e
          obtain ⟨a, vs, rfl, r1, r2, _⟩ := elT_ok s hu h2
          refine ⟨a, vs, rfl, .inr (.inl r1), fun p hp => ?_⟩
          obtain ⟨o, gp, r⟩ := s.alloc hp r2
          exact q _ F _ _ o gp r
        | none => simp only [h2] at e; cases e
theorem cut_vr {vs : List V} {xs : List PV} {lo hi : Option Int} (h : VrAll F A vs xs) : VrAll F A (cutV vs lo hi) (cutP xs lo hi) := by
  unfold cutV cutP
  rw [h.length]
  exact (h.drop _).take _
theorem cutP_whole {xs : List PV} {lo hi : Option Int} (h : HT.sIx xs.length 0 lo = 0 ∧ HT.sIx xs.length xs.length hi = xs.length) : cutP xs lo hi = xs := by
  unfold cutP
  rw [h.1, h.2, List.drop_zero, Nat.sub_zero, List.take_length]
theorem sliPV_ok {K : PySem.W.Frag} {u : V} {x v : PV} {lo hi : Option Int} {Qq : VK} (s : StoOk F A S H) (hx : Vr F A u x) (e : sliPV x lo hi S = some (v, S')) (q : ∀ z F' A' H', StoOk F' A' S' H' → Gp F A H F' A' H' → Vr F' A' z v → Qq z H') : rSlQ K u lo hi H Qq := by
  unfold sliPV at e
  cases h1 : elL S x with
  | some ys =>
    simp only [h1] at e; cases e
    obtain ⟨a, vs, rfl, r1, r2⟩ := elL_ok s hx h1
    refine .inl ⟨a, vs, rfl, rd_sq r1, fun p hp => ?_⟩
    obtain ⟨o, gp, r⟩ := s.alloc hp (cut_vr r2)
    exact q _ F _ _ o gp r
  | none =>
    simp only [h1] at e
    cases h2 : elT x with
    | some ys =>
      simp only [h2] at e; cases e
      obtain ⟨a, vs, rfl, r1, r2, r3⟩ := elT_ok s hx h2
      refine .inr (.inl ⟨a, vs, rfl, .inl r1, fun z => ?_, fun _ p hp => ?_⟩)
      · rw [cutP_whole (by rw [← r2.length]; exact z)] at q
        exact q _ F A H s .refl (.t r3 r2)
      · obtain ⟨o, gp, r⟩ := s.tup hp (cut_vr r2)
        exact q _ _ _ _ o gp r
    | none =>
      simp only [h2] at e
      unfold lift1 at e
      cases hc : ct S x with
      | none => rw [hc] at e; cases e
      | some d =>
        rw [hc] at e
        have e : retV (sliD d lo hi) S = some (v, S') := e
        obtain ⟨vl, hv⟩ := retV_some e
        rw [hv] at e
        refine sl_ok s.fh (ct_cont s hx hc) hv fun z F' H' res => ?_
        obtain ⟨A', o, gp, r⟩ := s.res res e
        exact q z F' A' H' o gp r
theorem slQ_ok (s : StoOk F A S H) : ∀ {ms : List Bool} {xs : List PV} {vs : List V} {sl : List Sl}, ms.length = xs.length → VrAll F A vs xs → slQ S (ms.zip xs) = some sl → SlsA F H vs sl
  | [], [], _, sl, _, .nil, e => by cases e; exact .nil
  | m :: ms, x :: xs, _, sl, hl, .cons a b, e => by
    have hl' : ms.length = xs.length := by simpa using hl
    cases m with
    | true =>
      have e' : (match toD0 x, slQ S (ms.zip xs) with
        | some d, some l => some (Sl.v d :: l)
        | _, _ => none) = some sl := e
      cases q : toD0 x with
      | none => rw [q] at e'; cases e'
      | some d =>
        cases q2 : slQ S (ms.zip xs) with
        | none => rw [q, q2] at e'; cases e'
        | some l => rw [q, q2] at e'; cases e'; exact .cons (a.rp q) (slQ_ok s hl' b q2)
    | false =>
      have e' : (match ct S x, slQ S (ms.zip xs) with
        | some d, some l => some ((Ar.c d).sl :: l)
        | _, _ => none) = some sl := e
      cases q : ct S x with
      | none => rw [q] at e'; cases e'
      | some d =>
        cases q2 : slQ S (ms.zip xs) with
        | none => rw [q, q2] at e'; cases e'
        | some l =>
          rw [q, q2] at e'; cases e'
          refine .cons ?_ (slQ_ok s hl' b q2)
          have k := ct_cont s a q
          cases d with
          | list ds => exact k
          | _ => exact k
theorem sx_callQ {m : Fv} {ms : List Bool} {ta : TA} {np : Nat} (ha : SXp VrAll ξ W cr ta (argsP fs)) (hl : fs.length = np) (hm : ms.length = fs.length) : SXp Vr ξ W cr (tCallS (spOf cr np m) (WE W) ta) (callQ m ms fs) := fun env σ F A S H Qq s ne ok er => by
  refine sx_bindA (k := fun xs S => match slQ S (ms.zip xs) with
  | some sl => match m sl with
    | .ok vl => stepP (retV (some vl) S)
    | .err c => .err c S
    | .no => .no
  | none => .no) ha s rfl ne (fun xs S1 hx h1 us F1 A1 H1 s1 g1 r1 => ?_) er
  cases hs : slQ S1 (ms.zip xs) with
  | none => rw [hs] at h1; exact absurd h1 ne
  | some sl =>
    rw [hs] at h1
    refine ⟨F1, sl, by rw [r1.length, hx]; exact hl, s1.so.fh, slQ_ok s1.so (by rw [hm, hx]) r1 hs, fun z => ?_, fun vl hv v F2 H2 res => ?_, fun c hc H2 g2 => ?_⟩
    · simp only [z] at h1; exact absurd h1 ne
    · simp only [hv] at h1
      obtain ⟨v', S2, e1, e2⟩ := step_ok h1 ne
      obtain ⟨A2, o2, gp, r⟩ := s1.so.res res e1
      exact ok v' S2 e2 v F2 A2 H2 o2 (g1.trans gp) r
    · simp only [hc] at h1
      obtain ⟨o, gp⟩ := gr_same s1.so g2
      exact er c S1 h1 F1 A1 H2 o (g1.trans gp)
theorem sx_callP {m : PFv} {ta : TA} {np : Nat} (ha : SXp VrAll ξ W cr ta (argsP fs)) (hl : fs.length = np) : SXp Vr ξ W cr (tCallS (spP cr np m) (WE W) ta) (callP m fs) := fun env σ F A S H Qq s ne ok er => by
  refine sx_bindA (k := fun xs S => m xs S) ha s rfl ne (fun xs S1 hx h1 us F1 A1 H1 s1 g1 r1 => ?_) er
  exact ⟨F1, A1, S1, xs, by rw [r1.length, hx]; exact hl, s1.so, r1, by rw [← h1]; exact ne, fun v S2 e2 u F2 A2 H2 o2 g2 r2 => ok v S2 (h1.trans e2) u F2 A2 H2 o2 (g1.trans g2) r2, fun c S2 e2 F2 A2 H2 o2 g2 => er c S2 (h1.trans e2) F2 A2 H2 o2 (g1.trans g2)⟩
theorem vr_ty {K : PySem.W.Frag} {u : V} {x : PV} (s : StoOk F A S H) (h : Vr F A u x) : TyX K H u (.type (tyP x)) := by
  cases x with
  | d y =>
    cases h with
    | d h => exact cont_ty s.fh (Cont.of s.fh h)
  | t ys =>
    cases h with
    | t h1 h2 => exact .base (.tup (s.fh _ _ h1))
  | r n =>
    cases h with
    | r ha =>
      obtain ⟨xs, vs, e1, e2, e3, e4⟩ := s.get ha
      exact .base (.lst e3)
end
end
end Q
namespace Q
noncomputable section
open PySem L2
/-! ### the second reading: what is walked, comprehensions, statements -/
abbrev Wat := List (Nat × List PV)
abbrev PIv := PF (List PV × Wat)
def okW (w : Wat) (S : Sto) : Prop := ∀ p ∈ w, S[p.1]? = some p.2
instance {w : Wat} {S : Sto} : Decidable (okW w S) := Classical.propDecidable _
def ItP (F1 : Hp) (A1 : List Addr) (w : Wat) (J : It) (xs : List PV) : Prop := ∀ (F : Hp) (A : List Addr) (S : Sto) (H : Hp), StoOk F A S H → Same F1 F → (∃ B, A = A1 ++ B) → okW w S →
  (∀ (i : Nat) (x : PV), xs[i]? = some x → J.go i H ∧ ∀ (u : V) (H' : Hp), J.yld i H u H' → ∃ F', StoOk F' A S H' ∧ Gp F A H F' A H' ∧ Vr F' A u x) ∧ J.stop xs.length H
def SIp (ξ : Addr × Nat) (W : WX) (cr : Nat → Value) (wi : TI) (f : PIv) : Prop := ∀ (env : PEn) (σ : St) (F : Hp) (A : List Addr) (S : Sto) (H : Hp) (Rr : It → Hp → Prop), SimP ξ env σ F A S H → f env S ≠ .no →
  (∀ p S', f env S = .ok p S' → ∀ J F' A' H', StoOk F' A' S' H' → Gp F A H F' A' H' → ItP F' A' p.2 J p.1 → Rr J H') →
  (∀ c S', f env S = .err c S' → ∀ F' A' H', StoOk F' A' S' H' → Gp F A H F' A' H' → W (cr c) none σ H') → wi σ H Rr
def JIp (X : Cx) (ξ : Addr × Nat) (W : WX) (cr : Nat → Value) (tg iter : Expr) (f : PIv) : Prop := ∃ wi, PI X tg iter wi ∧ SIp ξ W cr wi f
abbrev PBv := PV → PEn → Option PEn
def SGp (ξ : Addr × Nat) (g : TG) (bd : PBv) (vs : List Nat) : Prop := ∀ (e e' : PEn) (σ : St) (F : Hp) (A : List Addr) (S : Sto) (H : Hp) (v : V) (x : PV) (Qq : St → Hp → Prop), SimP ξ e σ F A S H → Vr F A v x → bd x e = some e' → (∀ σ', SimP ξ e' σ' F A S H → wipe σ' vs = wipe σ vs → Qq σ' H) → g v σ H Qq
def SGsp (ξ : Addr × Nat) (g : TGs) (bd : List PV → PEn → Option PEn) (vs : List Nat) : Prop := ∀ (e e' : PEn) (σ : St) (F : Hp) (A : List Addr) (S : Sto) (H : Hp) (us : List V) (xs : List PV) (Qq : St → Hp → Prop), SimP ξ e σ F A S H → VrAll F A us xs → bd xs e = some e' → (∀ σ', SimP ξ e' σ' F A S H → wipe σ' vs = wipe σ vs → Qq σ' H) → g us σ H Qq
def JGp (X : Cx) (ξ : Addr × Nat) (tg : Expr) (bd : PBv) (vs : List Nat) : Prop := ∃ g, PG X tg g ∧ SGp ξ g bd vs
def JGsp (X : Cx) (ξ : Addr × Nat) (tgs : List Expr) (bd : List PV → PEn → Option PEn) (vs : List Nat) : Prop := ∃ g, PGs X tgs g ∧ SGsp ξ g bd vs
def bdNP (i : Nat) : PBv := fun x e => some (e.set i (.v x))
def bdAP : List PBv → List PV → PEn → Option PEn
  | [], [], e => some e
  | b :: bs, x :: xs, e => match b x e with
    | some e' => bdAP bs xs e'
    | none => none
  | _, _, _ => none
def bdTP (bs : List PBv) : PBv := fun x e => match elT x with
  | some xs => bdAP bs xs e
  | none => none
def lsP (S : Sto) : PV → Option (List PV × Wat)
  | .r n => (S[n]?).map fun xs => (xs, [(n, xs)])
  | .d (.list ds) => some (ds.map PV.d, [])
  | _ => none
def seqP (f : PEv) : PIv := fun env S => bindP (f env S) fun x S => match elT x with
  | some xs => .ok (xs, []) S
  | none => match lsP S x with
    | some p => .ok p S
    | none => .no
def rgP (lo : Int) (n : Nat) : List PV := (rgL lo 1 n).map PV.d
def itR1P (f : PEv) : PIv := fun env S => bindP (f env S) fun x S => match x with
  | .d (.int j) => if i62 j then .ok (rgP 0 j.toNat, []) S else .no
  | _ => .no
def rg2P (x y : PV) (S : Sto) : PR (List PV × Wat) := match x, y with
  | .d (.int i), .d (.int j) => if i62 i ∧ i62 j then .ok (rgP i (j - i).toNat, []) S else .no
  | _, _ => .no
def itR2P (f g : PEv) : PIv := fun env S => bindP (f env S) fun x S => bindP (g env S) fun y S => rg2P x y S
def zipP (f g : PEv) : PIv := fun env S => bindP (f env S) fun x S => bindP (g env S) fun y S => match lsP S x, lsP S y with
  | some p, some q => .ok (List.zipWith (fun x y => PV.t [x, y]) p.1 q.1, p.2 ++ q.2) S
  | _, _ => .no
section
variable {X : Cx} {ξ : Addr × Nat} {W : WX} {cr : Nat → Value} {F H F' H' F1 : Hp} {A A' A1 : List Addr} {S S' : Sto} {env : PEn} {σ : St} {pos : Pos} {a b c e : Expr} {es : List Expr} {fa fb fc f g : PEv} {fs : List PEv}
/-- the list that a value holds, as long as it is watched -/
theorem lsP_at (s : StoOk F1 A1 S H) {u : V} {x : PV} {p : List PV × Wat} (h : Vr F1 A1 u x) (e : lsP S x = some p) : ∃ a, u = .ref a ∧ (∃ ys, SqL X.K H a ys) ∧ ∀ (F : Hp) (A : List Addr) (S' : Sto) (H' : Hp), StoOk F A S' H' → Same F1 F → (∃ B, A = A1 ++ B) → okW p.2 S' → ∃ vs, Rd H' a (.lst vs) ∧ VrAll F A vs p.1 := by
  cases x with
  | r n =>
    cases h with
    | @r a _ ha =>
      obtain ⟨xs, vs, e1, e2, e3, e4⟩ := s.get ha
      have e' : ((S[n]?).map fun xs => (xs, [(n, xs)])) = some p := e
      rw [e1] at e'; cases e'
      refine ⟨a, rfl, ⟨vs, SqL.of e3⟩, fun F A S' H' s' f hA w => ?_⟩
      obtain ⟨B, rfl⟩ := hA
      have wn : S'[n]? = some xs := w (n, xs) List.mem_cons_self
      obtain ⟨q1, ws, q2, q3⟩ := s'.cell n a xs (get_pre ha) wn
      exact ⟨ws, Rd.of q2, q3⟩
  | d y =>
    cases y with
    | list ds =>
      have e' : some (ds.map PV.d, ([] : Wat)) = some p := e
      cases e'
      cases h with
      | d h =>
        cases h with
        | @lst a vs _ h1 h2 => exact ⟨a, rfl, ⟨vs, rd_sq (rd_mono s.fh h1)⟩, fun F A S' H' s' f hA w => ⟨vs, rd_mono (f.trans s'.fh) h1, VrAll.ofRp (RpAll.mono f h2)⟩⟩
    | _ => cases e
  | t ys => cases e
theorem itP_list {w : Wat} {xs : List PV} {a : Addr} (h : ∀ (F : Hp) (A : List Addr) (S' : Sto) (H' : Hp), StoOk F A S' H' → Same F1 F → (∃ B, A = A1 ++ B) → okW w S' → ∃ vs, Rd H' a (.lst vs) ∧ VrAll F A vs xs) : ItP F1 A1 w (Itl X.K a) xs := fun F A S H s f hA hw => by
  obtain ⟨vs, r, q⟩ := h F A S H s f hA hw
  refine ⟨fun i x hx => ?_, vs, rd_sq r, by rw [q.length]; exact Nat.le_refl _⟩
  obtain ⟨v, h1, h2⟩ := q.get hx
  refine ⟨⟨vs, v, rd_sq r, h1⟩, fun u H' hy => ?_⟩
  obtain ⟨rfl, z⟩ := hy
  have e := z vs (rd_sq r)
  rw [h1] at e; cases e
  exact ⟨F, s, .refl, h2⟩
theorem itP_tup {xs : List PV} {a : Addr} {vs : List V} (h : F1 a = some (.tup vs)) (hv : VrAll F1 A1 vs xs) : ItP F1 A1 [] (Itt X.K a) xs := fun F A S H s f hA hw => by
  have r : Rd H a (.tup vs) := Rd.of (s.fh _ _ (f _ _ h))
  obtain ⟨B, rfl⟩ := hA
  have q := hv.mono (B := B) f
  refine ⟨fun i x hx => ?_, vs, .inl r, by rw [q.length]; exact Nat.le_refl _⟩
  obtain ⟨v, h1, h2⟩ := q.get hx
  refine ⟨⟨vs, v, .inl r, h1⟩, fun u H' hy => ?_⟩
  obtain ⟨rfl, z⟩ := hy
  have e := z vs (.inl r)
  rw [h1] at e; cases e
  exact ⟨F, s, .refl, h2⟩
theorem itP_rng (lo : Int) (n : Nat) : ItP F1 A1 [] (Itr lo n) (rgP lo n) := fun F A S H s f hA hw => by
  refine ⟨fun i x hx => ?_, by unfold rgP; rw [List.length_map, rgL_len]; exact Nat.le_refl n⟩
  unfold rgP at hx
  rw [List.getElem?_map] at hx
  cases q : (rgL lo 1 n)[i]? with
  | none => rw [q] at hx; cases hx
  | some d =>
    rw [q] at hx; cases hx
    obtain ⟨h1, rfl⟩ := rgL_get q
    refine ⟨h1, fun u H' hy => ?_⟩
    obtain ⟨rfl, rfl⟩ := hy
    exact ⟨F, s, .refl, .d (by rw [Int.mul_one]; exact .int _)⟩
theorem jip_seq {tg : Expr} (h : JEp X ξ W cr e f) : JIp X ξ W cr tg e (seqP f) := by
  obtain ⟨te, a1, a2⟩ := h
  have p1 : PI X tg e (iTup X.K te) := pi_tup a1
  have p2 : PI X tg e (iList X.K te) := pi_list a1
  refine ⟨fun σ H R => iTup X.K te σ H R ∨ iList X.K te σ H R, ⟨fun pins s σ H R I h => h.elim (p1.run pins s σ H R I) (p2.run pins s σ H R I)⟩, fun env σ F A S H Rr s ne ok er => ?_⟩
  by_cases ht : ∃ x S1 xs, f env S = .ok x S1 ∧ elT x = some xs
  · left
    obtain ⟨x, S1, xs, h1, h2⟩ := ht
    have un : seqP f env S = .ok (xs, []) S1 := by unfold seqP; rw [h1]; show (match elT x with | some xs => _ | none => _) = _; rw [h2]
    refine a2 env σ F A S H _ s (by rw [h1]; exact fun z => nomatch z) (fun x' S' e' u F1 A1 H1 o g r => ?_) fun c S' e' => by rw [h1] at e'; cases e'
    rw [h1] at e'; cases e'
    obtain ⟨a, vs, rfl, r1, r2, r3⟩ := elT_ok o r h2
    exact ⟨a, rfl, ⟨vs, .inl r1⟩, ok (xs, []) S1 un _ F1 A1 H1 o g (itP_tup r3 r2)⟩
  · right
    refine a2 env σ F A S H _ s (fun z => ne (by simp only [seqP, z, bindP])) (fun x S1 h0 u F1 A1 H1 o g1 r1 => ?_) fun c S1 h0 => er c S1 (by simp only [seqP, h0, bindP])
    have h3 : elT x = none := by
      cases q : elT x with
      | none => rfl
      | some xs => exact absurd ⟨x, S1, xs, h0, q⟩ ht
    cases h4 : lsP S1 x with
    | none => exact absurd (by simp only [seqP, h0, bindP, h3, h4]) ne
    | some p =>
      obtain ⟨a, rfl, q1, q2⟩ := lsP_at (X := X) o r1 h4
      exact ⟨a, rfl, q1, ok p S1 (by simp only [seqP, h0, bindP, h3, h4]) _ F1 A1 H1 o g1 (itP_list q2)⟩
theorem jip_range1 {tg : Expr} {p : Pos} (hg : Gl X "range") (hm : X.mg "range" = none) (h : JEp X ξ W cr e f) (hs : starEach [e] X.env = [(false, eval e X.env)] := by rfl) : JIp X ξ W cr tg (.Call (.Name "range" p) [e] [] pos) (itR1P f) := by
  obtain ⟨te, a1, a2⟩ := h
  refine ⟨_, pi_range1 hg hm (pa_cons a1 pa_nil hs) hs, fun env σ F A S H Rr s ne ok er => ?_⟩
  refine sx_bind (P := fun u H1 => ∃ j : Int, [u] = [V.int j] ∧ -(2 ^ 62) ≤ j ∧ j < 2 ^ 62 ∧ Rr (Itr 0 j.toNat) H1) (k := fun x S => match x with
    | .d (.int j) => if i62 j then .ok (rgP 0 j.toNat, []) S else .no
    | _ => .no) a2 s (rfl : itR1P f env S = _) ne (fun x S1 h1 u F1 A1 H1 s1 g1 r1 => ?_) er
  cases x with
  | d y =>
    cases y with
    | int j =>
      have hj : i62 j := by
        by_cases q : i62 j
        · exact q
        · simp only [if_neg q] at h1; exact absurd h1 ne
      simp only [if_pos hj] at h1
      exact ⟨j, by rw [vr_int r1], hj.1, hj.2, ok _ S1 h1 _ F1 A1 H1 s1.so g1 (itP_rng 0 j.toNat)⟩
    | _ => exact absurd h1 ne
  | _ => exact absurd h1 ne
theorem jip_range2 {tg : Expr} {p : Pos} (hg : Gl X "range") (hm : X.mg "range" = none) (h : JEp X ξ W cr a fa) (h' : JEp X ξ W cr b fb) (hs : starEach [a, b] X.env = [(false, eval a X.env), (false, eval b X.env)] := by rfl) (hs2 : starEach [b] X.env = [(false, eval b X.env)] := by rfl) :
    JIp X ξ W cr tg (.Call (.Name "range" p) [a, b] [] pos) (itR2P fa fb) := by
  obtain ⟨ta, a1, a2⟩ := h
  obtain ⟨tb, b1, b2⟩ := h'
  refine ⟨_, pi_range2 hg hm (pa_cons a1 (pa_cons b1 pa_nil hs2) (by rw [hs, hs2])) hs hs2, fun env σ F A S H Rr s ne ok er => ?_⟩
  refine sx_bind (k := fun x S => bindP (fb env S) fun y S => rg2P x y S) a2 s (rfl : itR2P fa fb env S = _) ne (fun x S1 h1 u F1 A1 H1 s1 g1 r1 => ?_) er
  refine sx_bind (P := fun w H1 => ∃ i j : Int, [u, w] = [V.int i, V.int j] ∧ (-(2 ^ 62) ≤ i ∧ i < 2 ^ 62 ∧ -(2 ^ 62) ≤ j ∧ j < 2 ^ 62) ∧ Rr (Itr i (j - i).toNat) H1) (k := fun y S => rg2P x y S) b2 s1 h1 ne (fun y S2 h2 w F2 A2 H2 s2 g2 r2 => ?_) fun c S2 h2 F2 A2 H2 o2 g2 => er c S2 h2 F2 A2 H2 o2 (g1.trans g2)
  cases x with
  | d x0 =>
    cases x0 with
    | int i =>
      cases y with
      | d y0 =>
        cases y0 with
        | int j =>
          have h3 : itR2P fa fb env S = (if i62 i ∧ i62 j then .ok (rgP i (j - i).toNat, []) S2 else .no) := h2
          have hj : i62 i ∧ i62 j := by
            by_cases q : i62 i ∧ i62 j
            · exact q
            · rw [if_neg q] at h3; exact absurd h3 ne
          rw [if_pos hj] at h3
          exact ⟨i, j, by rw [vr_int r1, vr_int r2], ⟨hj.1.1, hj.1.2, hj.2.1, hj.2.2⟩, ok _ S2 h3 _ F2 A2 H2 s2.so (g1.trans g2) (itP_rng i (j - i).toNat)⟩
        | _ => exact absurd h2 ne
      | _ => exact absurd h2 ne
    | _ => exact absurd h2 ne
  | _ => exact absurd h2 ne
theorem itP_zip {w w' : Wat} {xs ys : List PV} {a b : Addr} (h : ∀ (F : Hp) (A : List Addr) (S' : Sto) (H' : Hp), StoOk F A S' H' → Same F1 F → (∃ B, A = A1 ++ B) → okW w S' → ∃ vs, Rd H' a (.lst vs) ∧ VrAll F A vs xs)
    (h' : ∀ (F : Hp) (A : List Addr) (S' : Sto) (H' : Hp), StoOk F A S' H' → Same F1 F → (∃ B, A = A1 ++ B) → okW w' S' → ∃ vs, Rd H' b (.lst vs) ∧ VrAll F A vs ys) : ItP F1 A1 (w ++ w') (Itz X.K a b) (List.zipWith (fun x y => PV.t [x, y]) xs ys) := fun F A S H s f hA hw => by
  obtain ⟨vs, r, q⟩ := h F A S H s f hA fun p hp => hw p (List.mem_append_left _ hp)
  obtain ⟨ws, r', q'⟩ := h' F A S H s f hA fun p hp => hw p (List.mem_append_right _ hp)
  refine ⟨fun i x hx => ?_, vs, ws, rd_sq r, rd_sq r', ?_⟩
  · rw [List.getElem?_zipWith] at hx
    cases hd1 : xs[i]? with
    | none => rw [hd1] at hx; cases hx
    | some x1 =>
      cases hd2 : ys[i]? with
      | none => rw [hd1, hd2] at hx; cases hx
      | some y1 =>
        rw [hd1, hd2] at hx; cases hx
        obtain ⟨v, k1, k2⟩ := q.get hd1
        obtain ⟨t, m1, m2⟩ := q'.get hd2
        refine ⟨⟨vs, ws, v, t, rd_sq r, rd_sq r', k1, m1⟩, fun u H' hy => ?_⟩
        obtain ⟨T, x2, y2, rfl, hT, rfl, z1, z2⟩ := hy
        have e1 := z1 vs (rd_sq r)
        have e2 := z2 ws (rd_sq r')
        rw [k1] at e1; cases e1
        rw [m1] at e2; cases e2
        obtain ⟨o, gp, rr⟩ := s.tup hT (.cons k2 (.cons m2 .nil))
        exact ⟨_, o, gp, rr⟩
  · rw [List.length_zipWith, q.length, q'.length]
    omega
theorem jip_zip {p tpos : Pos} {elts : List Expr} {kk : Nat} (hg : Gl X "zip") (hm : X.mg "zip" = none) (h : JEp X ξ W cr a f) (h' : JEp X ξ W cr b g) (hs : starEach [a, b] X.env = (false, eval a X.env) :: starEach [b] X.env := by rfl) (hs2 : starEach [b] X.env = (false, eval b X.env) :: starEach [] X.env := by rfl)
    (hpl : (backTo pos (starEach [b] X.env)).any (·.1) = false := by rfl) : JIp X ξ W cr (.Tuple elts kk tpos) (.Call (.Name "zip" p) [a, b] [] pos) (zipP f g) := by
  obtain ⟨ta, a1, a2⟩ := h
  obtain ⟨tb, b1, b2⟩ := h'
  refine ⟨_, pi_zip hg hm (pa_cons a1 (pa_cons b1 pa_nil hs2) hs) hs hpl, fun env σ F A S H Rr s ne ok er => ?_⟩
  refine sx_bind (k := fun x S => bindP (g env S) fun y S => match lsP S x, lsP S y with
    | some p, some q => .ok (List.zipWith (fun x y => PV.t [x, y]) p.1 q.1, p.2 ++ q.2) S
    | _, _ => .no) a2 s (rfl : zipP f g env S = _) ne (fun x S1 h1 u F1 A1 H1 s1 g1 r1 => ?_) er
  refine sx_bind (P := fun w H1 => _) (k := fun y S => match lsP S x, lsP S y with
    | some p, some q => .ok (List.zipWith (fun x y => PV.t [x, y]) p.1 q.1, p.2 ++ q.2) S
    | _, _ => .no) b2 s1 h1 ne (fun y S2 h2 w F2 A2 H2 s2 g2 r2 => ?_) fun c S2 h2 F2 A2 H2 o2 g2 => er c S2 h2 F2 A2 H2 o2 (g1.trans g2)
  cases h3 : lsP S2 x with
  | none => simp only [h3] at h2; exact absurd h2 ne
  | some p =>
    cases h4 : lsP S2 y with
    | none => simp only [h3, h4] at h2; exact absurd h2 ne
    | some q =>
      simp only [h3, h4] at h2
      obtain ⟨a, rfl, ⟨y1, q1⟩, q2⟩ := lsP_at (X := X) s2.so (r1.up g2) h3
      obtain ⟨b, rfl, ⟨y2, k1⟩, k2⟩ := lsP_at (X := X) s2.so r2 h4
      exact ⟨a, b, _, _, rfl, q1, k1, ok _ S2 h2 _ F2 A2 H2 s2.so (g1.trans g2) (itP_zip q2 k2)⟩
end
end
end Q
namespace Q
noncomputable section
open PySem L2
/-! ### the second reading: comprehensions, statements -/
def txOf {α β : Type} (R : Hp → List Addr → β → α → Prop) (ξ : Addr × Nat) (W : WX) (cr : Nat → Value) (f : PF α) : St → Hp → (β → Hp → Prop) → Prop := fun σ H Qq => ∃ env F A S, SimP ξ env σ F A S H ∧ f env S ≠ .no ∧
  (∀ x S', f env S = .ok x S' → ∀ u F' A' H', StoOk F' A' S' H' → Gp F A H F' A' H' → R F' A' u x → Qq u H') ∧ (∀ c S', f env S = .err c S' → ∀ F' A' H', StoOk F' A' S' H' → Gp F A H F' A' H' → W (cr c) none σ H')
def tgOfP (ξ : Addr × Nat) (bd : PBv) (vs : List Nat) : TG := fun v σ H Qq => ∃ e e' F A S x, SimP ξ e σ F A S H ∧ Vr F A v x ∧ bd x e = some e' ∧ ∀ σ', SimP ξ e' σ' F A S H → wipe σ' vs = wipe σ vs → Qq σ' H
inductive PRS where
  | nx (e : PEn) (S : Sto) | rt (v : PV) (S : Sto) | bk (e : PEn) (S : Sto) | ct (e : PEn) (S : Sto) | err (c : Nat) (e : PEn) (S : Sto) | no
abbrev PSv := PEn → Sto → PRS
def SSp (ξ : Addr × Nat) (W : WX) (cr : Nat → Value) (ts : TS) (f : PSv) : Prop := ∀ (env : PEn) (σ : St) (F : Hp) (A : List Addr) (S : Sto) (H : Hp) (De : Ends), SimP ξ env σ F A S H → f env S ≠ .no →
  (∀ e' S', f env S = .nx e' S' → ∀ σ' F' A' H', SimP ξ e' σ' F' A' S' H' → Gp F A H F' A' H' → De.nx σ' H') →
  (∀ v S', f env S = .rt v S' → ∀ u F' A' H', StoOk F' A' S' H' → Gp F A H F' A' H' → Vr F' A' u v → De.rt u H') →
  (∀ e' S', f env S = .bk e' S' → ∀ σ' F' A' H', SimP ξ e' σ' F' A' S' H' → Gp F A H F' A' H' → De.bk σ' H') →
  (∀ e' S', f env S = .ct e' S' → ∀ σ' F' A' H', SimP ξ e' σ' F' A' S' H' → Gp F A H F' A' H' → De.ct σ' H') →
  (∀ c e' S', f env S = .err c e' S' → ∀ σ' F' A' H', SimP ξ e' σ' F' A' S' H' → Gp F A H F' A' H' → W (cr c) none σ' H') → ts De σ H
def tsOfP (ξ : Addr × Nat) (W : WX) (cr : Nat → Value) (f : PSv) : TS := fun De σ H => ∃ env F A S, SimP ξ env σ F A S H ∧ f env S ≠ .no ∧
  (∀ e' S', f env S = .nx e' S' → ∀ σ' F' A' H', SimP ξ e' σ' F' A' S' H' → Gp F A H F' A' H' → De.nx σ' H') ∧
  (∀ v S', f env S = .rt v S' → ∀ u F' A' H', StoOk F' A' S' H' → Gp F A H F' A' H' → Vr F' A' u v → De.rt u H') ∧
  (∀ e' S', f env S = .bk e' S' → ∀ σ' F' A' H', SimP ξ e' σ' F' A' S' H' → Gp F A H F' A' H' → De.bk σ' H') ∧
  (∀ e' S', f env S = .ct e' S' → ∀ σ' F' A' H', SimP ξ e' σ' F' A' S' H' → Gp F A H F' A' H' → De.ct σ' H') ∧
  (∀ c e' S', f env S = .err c e' S' → ∀ σ' F' A' H', SimP ξ e' σ' F' A' S' H' → Gp F A H F' A' H' → W (cr c) none σ' H')
def JSp (X : Cx) (ξ : Addr × Nat) (W : WX) (cr : Nat → Value) (st : Stmt) (f : PSv) : Prop := ∃ ts, PS X st ts ∧ SSp ξ W cr ts f
def JSsp (X : Cx) (ξ : Addr × Nat) (W : WX) (cr : Nat → Value) (st : List Stmt) (f : PSv) : Prop := ∃ ts, PSs X st ts ∧ SSp ξ W cr ts f
/-! what statements come to -/
def ofR {α : Type} (env : PEn) : PR α → (α → Sto → PRS) → PRS
  | .ok a S, k => k a S
  | .err c S, _ => .err c env S
  | .no, _ => .no
def skipSP : PSv := fun e S => .nx e S
def bkSP : PSv := fun e S => .bk e S
def ctSP : PSv := fun e S => .ct e S
def errSP (c : Nat) : PSv := fun e S => .err c e S
def seqSP (f g : PSv) : PSv := fun env S => match f env S with
  | .nx e S => g e S
  | r => r
def asgSP (i : Nat) (f : PEv) : PSv := fun env S => ofR env (f env S) fun x S => .nx (env.set i (.v x)) S
def unpSP (f : PEv) (bd : PBv) : PSv := fun env S => ofR env (f env S) fun x S => match bd x env with
  | some e => .nx e S
  | none => .no
def dropSP (f : PEv) : PSv := fun env S => ofR env (f env S) fun _ S => .nx env S
def ifSP (c : PTv) (f g : PSv) : PSv := fun env S => ofR env (c env S) fun b S => if b = true then f env S else g env S
def retSP (f : PEv) : PSv := fun env S => ofR env (f env S) fun x S => .rt x S
def appSP (fo fe : PEv) : PSv := fun env S => ofR env (fo env S) fun o S => match o with
  | .r n => ofR env (fe env S) fun x S => match S[n]? with
    | some xs => if xs.length < LIM then .nx env (S.set n (xs ++ [x])) else .no
    | none => .no
  | _ => .no
def clrSP (fo : PEv) : PSv := fun env S => ofR env (fo env S) fun o S => match o with
  | .r n => .nx env (S.set n [])
  | _ => .no
def setStep (o i x : PV) (env : PEn) (S : Sto) : PRS := match o, i with
  | .r n, .d (.int k) => match S[n]? with
    | some xs => match ixN xs.length k with
      | some j => .nx env (S.set n (xs.set j x))
      | none => .no
    | none => .no
  | _, _ => .no
def setSP (fo fi fe : PEv) : PSv := fun env S => ofR env (fe env S) fun x S => ofR env (fo env S) fun o S => ofR env (fi env S) fun i S => setStep o i x env S
def forPL (bd : PBv) (b : PSv) (w : Wat) : List PV → PSv
  | [] => fun e S => if okW w S then .nx e S else .no
  | x :: xs => fun e S => if okW w S then match bd x e with
    | some e1 => match b e1 S with
      | .nx e2 S2 => forPL bd b w xs e2 S2
      | .ct e2 S2 => forPL bd b w xs e2 S2
      | .bk e2 S2 => .nx e2 S2
      | r => r
    | none => .no
    else .no
def forSP (src : PIv) (bd : PBv) (b : PSv) : PSv := fun env S => ofR env (src env S) fun p S => forPL bd b p.2 p.1 env S
def whlP (c : PTv) (b : PSv) : Nat → PSv
  | 0 => fun _ _ => .no
  | n + 1 => fun env S => ofR env (c env S) fun t S => if t = true then match b env S with
      | .nx e' S' => whlP c b n e' S'
      | .ct e' S' => whlP c b n e' S'
      | .bk e' S' => .nx e' S'
      | r => r
    else .nx env S
open Classical in
def whileSP (c : PTv) (b : PSv) : PSv := fun env S => if h : ∃ n, whlP c b n env S ≠ .no then whlP c b (Classical.choose h) env S else .no
def wipeP (e : PEn) : List Nat → PEn
  | [] => e
  | i :: r => (wipeP e r).set i .un
def lcPL (bd : PBv) (c : PTv) (f : PEv) (w : Wat) (e : PEn) : List PV → List PV → Sto → PR (List PV)
  | [], acc, S => if okW w S then .ok acc S else .no
  | x :: xs, acc, S => if okW w S then match bd x e with
    | some e1 => bindP (c e1 S) fun b S => if b = true then bindP (f e1 S) fun y S => lcPL bd c f w e xs (acc ++ [y]) S else lcPL bd c f w e xs acc S
    | none => .no
    else .no
def lcP (src : PIv) (bd : PBv) (c : PTv) (f : PEv) (vs : List Nat) : PEv := fun env S => bindP (src env S) fun p S => if p.1.length ≤ LIM then match lcPL bd c f p.2 (wipeP env vs) p.1 [] S with
    | .ok es S' => .ok (.r S'.length) (S' ++ [es])
    | _ => .no
  else .no
def ttP : PTv := fun _ S => .ok true S
section
variable {X : Cx} {ξ : Addr × Nat} {W : WX} {cr : Nat → Value} {F H F' H' F1 H1 : Hp} {A A' A1 : List Addr} {S S' : Sto} {env : PEn} {σ : St} {pos : Pos} {a b c e : Expr} {es : List Expr} {fa fb fc f g : PEv} {fs : List PEv}
theorem sx_of {α β : Type} {R : Hp → List Addr → β → α → Prop} {f : PF α} : SXp R ξ W cr (txOf R ξ W cr f) f := fun env σ F A S H Qq s ne ok er => ⟨env, F, A, S, s, ne, ok, er⟩
theorem ss_ofP {f : PSv} : SSp ξ W cr (tsOfP ξ W cr f) f := fun env σ F A S H De s ne nx rt bk ct er => ⟨env, F, A, S, s, ne, nx, rt, bk, ct, er⟩
theorem sg_ofP {bd : PBv} {vs : List Nat} : SGp ξ (tgOfP ξ bd vs) bd vs := fun e e' σ F A S H v x Qq s r h q => ⟨e, e', F, A, S, x, s, r, h, q⟩
theorem JEp.pe (h : JEp X ξ W cr e f) : PE X e (txOf Vr ξ W cr f) := by
  obtain ⟨te, h1, h2⟩ := h
  exact ⟨fun pins s σ H Qq I ⟨env, F, A, S, q1, q2, q3, q4⟩ => h1.run pins s σ H Qq I (h2 env σ F A S H Qq q1 q2 q3 q4)⟩
theorem JTp.pt {f : PTv} (h : JTp X ξ W cr e f) : PT X e (txOf isB ξ W cr f) := by
  obtain ⟨te, h1, h2⟩ := h
  exact ⟨fun pins s σ H Qq I ⟨env, F, A, S, q1, q2, q3, q4⟩ => h1.run pins s σ H Qq I (h2 env σ F A S H Qq q1 q2 q3 q4)⟩
theorem JSsp.ps {sts : List Stmt} {f : PSv} (h : JSsp X ξ W cr sts f) : PSs X sts (tsOfP ξ W cr f) := by
  obtain ⟨te, h1, h2⟩ := h
  exact ⟨fun pins s σ H De I ⟨env, F, A, S, q1, q2, q3, q4, q5, q6, q7⟩ => h1.run pins s σ H De I (h2 env σ F A S H De q1 q2 q3 q4 q5 q6 q7)⟩
theorem JGp.pg {tg : Expr} {bd : PBv} {vs : List Nat} (h : JGp X ξ tg bd vs) : PG X tg (tgOfP ξ bd vs) := by
  obtain ⟨g, h1, h2⟩ := h
  exact ⟨fun pins s σ H v u Qq I r ⟨e, e', F, A, S, x, q1, q2, q3, q4⟩ => h1.run pins s σ H v u Qq I r (h2 e e' σ F A S H v x Qq q1 q2 q3 q4)⟩
/-! slots -/
theorem pgt_set {e : PEn} {i j : Nat} {x : PSl} : pgt (e.set i x) j = if i = j ∧ i < e.length then x else pgt e j := by
  unfold pgt
  rw [List.getD_eq_getElem?_getD, List.getD_eq_getElem?_getD, List.getElem?_set]
  by_cases h : i = j
  · subst h
    by_cases h2 : i < e.length
    · simp [h2]
    · simp [h2]
  · simp [h]
theorem simP_put (s : SimP ξ env σ F A S H) (i : Nat) {x : PSl} {w : Option V} (h : PslOk ξ F A x w) : SimP ξ (env.set i x) (σ.set i w) F A S H := by
  refine ⟨s.so, by rw [List.length_set, List.length_set]; exact s.len, fun j => ?_⟩
  rw [pgt_set]
  by_cases hj : i = j
  · subst hj
    by_cases hl : i < env.length
    · rw [if_pos ⟨rfl, hl⟩, List.getElem?_set_self (by rw [← s.len]; exact hl)]
      exact h
    · rw [if_neg fun z => hl z.2]
      have : pgt env i = .un := by
        unfold pgt
        rw [List.getD_eq_getElem?_getD, List.getElem?_eq_none (by omega)]; rfl
      rw [this]; trivial
  · rw [if_neg fun z => hj z.1, List.getElem?_set_ne hj]
    exact s.sl j
theorem wipeP_len (e : PEn) : ∀ vs, (wipeP e vs).length = e.length
  | [] => rfl
  | v :: vs => by rw [wipeP, List.length_set, wipeP_len e vs]
theorem simP_wipe (s : SimP ξ env σ F A S H) : ∀ vs : List Nat, SimP ξ (wipeP env vs) (wipe σ vs) F A S H := fun vs => by
  refine ⟨s.so, by rw [wipeP_len, wipe_length]; exact s.len, fun j => ?_⟩
  have key : pgt (wipeP env vs) j = if j ∈ vs ∧ j < env.length then .un else pgt env j := by
    induction vs with
    | nil => simp [wipeP]
    | cons i r ih =>
      rw [wipeP, pgt_set, ih, wipeP_len]
      by_cases h : i = j
      · subst h
        by_cases hl : i < env.length <;> simp [hl]
      · have : ¬ j = i := fun z => h z.symm
        simp [h, this]
  rw [key, wipe_get]
  by_cases h : j ∈ vs ∧ j < env.length
  · rw [if_pos h]; trivial
  · rw [if_neg h, if_neg (by rw [← s.len]; exact h)]
    exact s.sl j
/-! targets -/
theorem jgp_name (i : Nat) {x : Str} {vs : List Nat} (hN : X.N.Nodup) (hi : X.N[i]? = some x) (hx : Loc X.env.scope x) (hv : i ∈ vs) (hf : X.fn x = true ∨ X.env.scope.names.lookup x = some .local := by first | exact .inl rfl | exact .inr rfl | assumption) : JGp X ξ (.Name x pos) (bdNP i) vs :=
  ⟨_, pg_name hN hi hx hf, fun e e' σ F A S H v y Qq s r h q => by
    have h' : some (e.set i (.v y)) = some e' := h
    cases h'
    exact q _ (simP_put s i ⟨v, rfl, r⟩) (wipe_set hv)⟩
theorem jgsp_nil {vs : List Nat} : JGsp X ξ [] (bdAP []) vs := ⟨_, pgs_nil, fun e e' σ F A S H us xs Qq s r h q => by
  cases r with
  | nil =>
    have h' : some e = some e' := h
    cases h'
    exact ⟨rfl, q σ s rfl⟩
  | cons a b => cases h⟩
theorem jgsp_cons {t : Expr} {ts : List Expr} {b : PBv} {bs : List PBv} {vs : List Nat} (h : JGp X ξ t b vs) (h' : JGsp X ξ ts (bdAP bs) vs) (hs : (assignEach (t :: ts) X.env).map (·.2) = assign t X.env :: (assignEach ts X.env).map (·.2) := by rfl) : JGsp X ξ (t :: ts) (bdAP (b :: bs)) vs := by
  obtain ⟨g, a1, a2⟩ := h
  obtain ⟨gs, b1, b2⟩ := h'
  refine ⟨_, pgs_cons a1 b1 hs, fun e e' σ F A S H us xs Qq s r h q => ?_⟩
  cases r with
  | nil => cases h
  | @cons v us x xs r rs =>
    have un : (match b x e with
      | some e' => bdAP bs xs e'
      | none => none) = some e' := h
    cases hb : b x e with
    | none => rw [hb] at un; cases un
    | some e1 =>
      rw [hb] at un
      exact ⟨v, us, rfl, a2 e e1 σ F A S H v x _ s r hb fun σ1 s1 w1 => b2 e1 e' σ1 F A S H us xs _ s1 rs un fun σ2 s2 w2 => q σ2 s2 (w2.trans w1)⟩
theorem bdAP_len : ∀ {bs : List PBv} {xs : List PV} {e e' : PEn}, bdAP bs xs e = some e' → xs.length = bs.length
  | [], [], _, _, _ => rfl
  | [], _ :: _, _, _, h => by cases h
  | _ :: _, [], _, _, h => by cases h
  | b :: bs, x :: xs, e, e', h => by
    have un : (match b x e with
      | some e' => bdAP bs xs e'
      | none => none) = some e' := h
    cases hb : b x e with
    | none => rw [hb] at un; cases un
    | some e1 => rw [hb] at un; exact congrArg (· + 1) (bdAP_len (e := e1) un)
theorem jgp_tup {k : Nat} {bs : List PBv} {vs : List Nat} (hc : X.calm = true) (h : JGsp X ξ es (bdAP bs) vs)
    (hn : (assignEach es X.env).length = bs.length := by rfl) (hst : (assignEach es X.env).findIdx? (·.1) = none := by rfl) : JGp X ξ (.Tuple es k pos) (bdTP bs) vs := by
  obtain ⟨g, a1, a2⟩ := h
  refine ⟨_, pg_tup hc a1 hn hst, fun e e' σ F A S H v x Qq s r h q => ?_⟩
  unfold bdTP at h
  cases h1 : elT x with
  | none => rw [h1] at h; cases h  -- q
  | some xs =>
    rw [h1] at h
    obtain ⟨a, us, rfl, r1, r2, r3⟩ := elT_ok s.so r h1
    exact ⟨a, us, rfl, .inl r1, by rw [r2.length]; exact bdAP_len h, a2 e e' σ F A S H us xs Qq s r2 h q⟩
/-! expressions: the rules -/
theorem jep_var (i : Nat) {x : Str} (hN : X.N[i]? = some x := by rfl) (hv : Vis X.env.scope x := by first | exact Or.inl rfl | exact Or.inr (Or.inl rfl) | exact Or.inr (Or.inr rfl)) (hd : (x == ("__debug__" : Str)) = false := by decide)
    (hcd : (x == ("__classdict__" : Str)) = false := by decide) : JEp X ξ W cr (.Name x pos) (varP i) := ⟨_, pv i hN hv hd hcd, sx_var i⟩
theorem jep_int {i : Int} {j : Nat} : JEp X ξ W cr (.Constant (.int i) j pos) (cP (.int i)) := ⟨_, pe_int, sx_c (fun _ => .int i)⟩
theorem jep_bool {i : Bool} {j : Nat} : JEp X ξ W cr (.Constant (.bool i) j pos) (cP (.bool i)) := ⟨_, pe_bl, sx_c (fun _ => .bl i)⟩
theorem jep_none {j : Nat} : JEp X ξ W cr (.Constant .none j pos) (cP .none) := ⟨_, pe_non, sx_c (fun _ => .non)⟩
theorem jep_str {i : Str} {j : Nat} : JEp X ξ W cr (.Constant (.str i) j pos) (cP (.str i)) := ⟨_, pe_str, sx_c (fun _ => .str i)⟩
theorem jep_glob {x : Str} {i : Int} {t : Tok} (hg : Gl X x) (hm : X.mg x = some (.int i t)) (hd : (x == ("__debug__" : Str)) = false := by decide) : JEp X ξ W cr (.Name x pos) (cP (.int i)) := ⟨_, pe_glob (v := .int i) hg hm ⟨t, rfl⟩ hd, sx_c (fun _ => .int i)⟩
theorem jep_globS {x : Str} {i : Str} {t : Tok} (hg : Gl X x) (hm : X.mg x = some (.str i t)) (hd : (x == ("__debug__" : Str)) = false := by decide) : JEp X ξ W cr (.Name x pos) (cP (.str i)) := ⟨_, pe_glob (v := .str i) hg hm ⟨t, rfl⟩ hd, sx_c (fun _ => .str i)⟩
theorem jep_op {op : Operator} {r : R2} {g : PV → PV → Sto → Option (PV × Sto)} (ho : OpR X (binaryOp op) r) (hg : Op2p r g) (ha : JEp X ξ W cr a fa) (hb : JEp X ξ W cr b fb) : JEp X ξ W cr (.BinOp a op b pos) (op2P g fa fb) :=
  let ⟨_, a1, a2⟩ := ha; let ⟨_, b1, b2⟩ := hb; ⟨_, pe_op ho a1 b1, sx_op2 hg a2 b2⟩
theorem jep_un {op : UnaryOp} {r : V → Hp → VK → Prop} {g : PV → Sto → Option (PV × Sto)} (ho : UnR X (unaryOp op) r) (hg : Op1p r g) (ha : JEp X ξ W cr a fa) : JEp X ξ W cr (.UnaryOp op a pos) (op1P g fa) :=
  let ⟨_, a1, a2⟩ := ha; ⟨_, pe_un ho a1, sx_op1 hg a2⟩
theorem jep_cmp {op : CmpOp} {r : R2} {g : PV → PV → Sto → Option (PV × Sto)} (ho : OpR X (compareOp op) r) (hg : Op2p r g) (ha : JEp X ξ W cr a fa) (hb : JEp X ξ W cr b fb) (hm : behindInMarks op b = false) : JEp X ξ W cr (.Compare a [op] [b] pos) (op2P g fa fb) :=
  let ⟨_, a1, a2⟩ := ha; let ⟨_, b1, b2⟩ := hb; ⟨_, pe_cmpR ho a1 b1 hm, sx_op2 hg a2 b2⟩
theorem jtp_cmp {op : CmpOp} {r : R2} {g : PV → PV → Sto → Option (PV × Sto)} (ho : OpR X (compareOp op) r) (hg : Op2p r g) (ha : JEp X ξ W cr a fa) (hb : JEp X ξ W cr b fb) (hm : behindInMarks op b = false) : JTp X ξ W cr (.Compare a [op] [b] pos) (toTP (op2P g fa fb)) :=
  let ⟨_, a1, a2⟩ := ha; let ⟨_, b1, b2⟩ := hb; ⟨_, pt_cmpR ho a1 b1 hm, sx_toT (sx_op2 hg a2 b2)⟩
theorem jep_chain {op op' : CmpOp} {r r' : R2} {g g' : PV → PV → Sto → Option (PV × Sto)} (ho : OpR X (compareOp op) r) (hg : Op2p r g) (ho' : OpR X (compareOp op') r') (hg' : Op2p r' g') (ha : JEp X ξ W cr a fa) (hb : JEp X ξ W cr b fb) (hc : JEp X ξ W cr c fc)
    (hm : lastMarks [op, op'] [b, c] = false := by with_unfolding_all rfl) : JEp X ξ W cr (.Compare a [op, op'] [b, c] pos) (chainP g g' fa fb fc) :=
  let ⟨_, a1, a2⟩ := ha; let ⟨_, b1, b2⟩ := hb; let ⟨_, c1, c2⟩ := hc; ⟨_, pe_chain ho ho' a1 b1 c1 hm, sx_chain hg hg' a2 b2 c2⟩
theorem jtp_chain {op op' : CmpOp} {r r' : R2} {g g' : PV → PV → Sto → Option (PV × Sto)} (ho : OpR X (compareOp op) r) (hg : Op2p r g) (ho' : OpR X (compareOp op') r') (hg' : Op2p r' g') (ha : JEp X ξ W cr a fa) (hb : JEp X ξ W cr b fb) (hc : JEp X ξ W cr c fc)
    (hm : lastMarks [op, op'] [b, c] = false := by with_unfolding_all rfl) : JTp X ξ W cr (.Compare a [op, op'] [b, c] pos) (toTP (chainP g g' fa fb fc)) :=
  let ⟨_, a1, a2⟩ := ha; let ⟨_, b1, b2⟩ := hb; let ⟨_, c1, c2⟩ := hc; ⟨_, pt_chain ho ho' a1 b1 c1 hm, sx_toT (sx_chain hg hg' a2 b2 c2)⟩
theorem jtp_val (ha : JEp X ξ W cr a fa) (he : ∀ whole, isTrue a X.env whole = (do let v ← whole; standAt a.pos; holding [v] (truthy v)) := by intro _; rfl) : JTp X ξ W cr a (toTP fa) :=
  let ⟨_, a1, a2⟩ := ha; ⟨_, pt_val a1 he, sx_toT a2⟩
theorem jtp_not {f : PTv} (ha : JTp X ξ W cr a f) : JTp X ξ W cr (.UnaryOp .Not a pos) (notTP f) := let ⟨_, a1, a2⟩ := ha; ⟨_, pt_not a1, sx_not a2⟩
theorem jwp_and1 {f : PTv} (ha : JTp X ξ W cr a f) : JWp X ξ W cr (.BoolOp .And [a] pos) f := let ⟨_, a1, a2⟩ := ha; ⟨_, pw_and1 a1, a2⟩
theorem jwp_or1 {f : PTv} (ha : JTp X ξ W cr a f) : JWp X ξ W cr (.BoolOp .Or [a] pos) f := let ⟨_, a1, a2⟩ := ha; ⟨_, pw_or1 a1, a2⟩
theorem jwp_and {f g : PTv} (ha : JTp X ξ W cr a f) (hb : JWp X ξ W cr (.BoolOp .And (b :: es) pos) g) : JWp X ξ W cr (.BoolOp .And (a :: b :: es) pos) (andTP f g) :=
  let ⟨_, a1, a2⟩ := ha; let ⟨_, b1, b2⟩ := hb; ⟨_, pw_and a1 b1, sx_and a2 b2⟩
theorem jwp_or {f g : PTv} (ha : JTp X ξ W cr a f) (hb : JWp X ξ W cr (.BoolOp .Or (b :: es) pos) g) : JWp X ξ W cr (.BoolOp .Or (a :: b :: es) pos) (orTP f g) :=
  let ⟨_, a1, a2⟩ := ha; let ⟨_, b1, b2⟩ := hb; ⟨_, pw_or a1 b1, sx_or a2 b2⟩
theorem JWp.t {f : PTv} (h : JWp X ξ W cr a f) : JTp X ξ W cr a f := let ⟨_, a1, a2⟩ := h; ⟨_, a1.pt, a2⟩
theorem jep_not (ha : JEp X ξ W cr a fa) : JEp X ξ W cr (.UnaryOp .Not a pos) (notP fa) := let ⟨_, a1, a2⟩ := ha; ⟨_, pe_not a1, sx_notV a2⟩
theorem jep_one {op : BoolOp} (ha : JEp X ξ W cr a fa) : JEp X ξ W cr (.BoolOp op [a] pos) fa := let ⟨_, a1, a2⟩ := ha; ⟨_, pe_one a1, a2⟩
theorem jep_and (ha : JEp X ξ W cr a fa) (hb : JEp X ξ W cr (.BoolOp .And (b :: es) pos) fb) : JEp X ξ W cr (.BoolOp .And (a :: b :: es) pos) (andP fa fb) :=
  let ⟨_, a1, a2⟩ := ha; let ⟨_, b1, b2⟩ := hb; ⟨_, pe_and a1 b1, sx_andV a2 b2⟩
theorem jep_or (ha : JEp X ξ W cr a fa) (hb : JEp X ξ W cr (.BoolOp .Or (b :: es) pos) fb) : JEp X ξ W cr (.BoolOp .Or (a :: b :: es) pos) (orP fa fb) :=
  let ⟨_, a1, a2⟩ := ha; let ⟨_, b1, b2⟩ := hb; ⟨_, pe_or a1 b1, sx_orV a2 b2⟩
theorem jep_if {f : PTv} (hc : JTp X ξ W cr c f) (ha : JEp X ξ W cr a fa) (hb : JEp X ξ W cr b fb) : JEp X ξ W cr (.IfExp c a b pos) (ifP f fa fb) :=
  let ⟨_, c1, c2⟩ := hc; let ⟨_, a1, a2⟩ := ha; let ⟨_, b1, b2⟩ := hb; ⟨_, pe_ifExp c1 a1 b1, sx_if c2 a2 b2⟩
theorem jap_nil : JAp X ξ W cr [] (argsP []) := ⟨_, pa_nil, sx_nil⟩
theorem jap_cons (ha : JEp X ξ W cr e fa) (hr : JAp X ξ W cr es (argsP fs)) (hs : starEach (e :: es) X.env = (false, eval e X.env) :: starEach es X.env := by rfl) : JAp X ξ W cr (e :: es) (argsP (fa :: fs)) :=
  let ⟨_, a1, a2⟩ := ha; let ⟨_, b1, b2⟩ := hr; ⟨_, pa_cons a1 b1 hs, sx_cons a2 b2⟩
theorem jep_ix (ha : JEp X ξ W cr a fa) (hb : JEp X ξ W cr b fb) (hs : PlainIx b := by exact fun _ _ => rfl) : JEp X ξ W cr (.Subscript a b pos) (op2P ixP fa fb) :=
  let ⟨_, a1, a2⟩ := ha; let ⟨_, b1, b2⟩ := hb; ⟨_, pe_ix ix_seq a1 b1 hs, sx_op2 ap_ixP a2 b2⟩
theorem jep_tup {k : Nat} (ha : JAp X ξ W cr es (argsP fs)) (hn : fs.length ≤ 1000 := by decide) : JEp X ξ W cr (.Tuple es k pos) (tupP fs) := let ⟨_, a1, a2⟩ := ha; ⟨_, pe_tup a1, sx_tup a2 hn⟩
theorem jep_lst (ha : JAp X ξ W cr es (argsP fs)) (hn : fs.length ≤ 1000 := by decide) : JEp X ξ W cr (.List es pos) (lstP fs) := let ⟨_, a1, a2⟩ := ha; ⟨_, pe_lst a1, sx_lst a2 hn⟩
theorem jep_bltn {r : List V → Hp → VK → Prop} {g : List PV → Sto → Option (PV × Sto)} {id : String} {x : Str} {p : Pos} (hc : CallR X (.builtin id) r) (hr : OpNp r g) (hg : Gl X x) (hm : X.mg x = none) (hv : bootBuiltins x = some (.builtin id)) (ha : JAp X ξ W cr (e :: es) (argsP fs))
    (hn : x ≠ "__name__" := by decide) (hdb : (x == ("__debug__" : Str)) = false := by decide) (hs1 : starEach (e :: es) X.env = (false, eval e X.env) :: starEach es X.env := by rfl) (hs2 : (backTo pos (starEach es X.env)).any (·.1) = false := by rfl) : JEp X ξ W cr (.Call (.Name x p) (e :: es) [] pos) (opNP g fs) :=
  let ⟨_, a1, a2⟩ := ha; ⟨_, pe_callB hc hg hm hv a1 hn hdb hs1 hs2, sx_opN hr a2⟩
theorem jep_bltT {r : List V → Hp → VK → Prop} {g : List PV → Sto → Option (PV × Sto)} {T : String} {x : Str} {p : Pos} (hc : CallR X (.type T) r) (hr : OpNp r g) (hg : Gl X x) (hm : X.mg x = none) (hv : bootBuiltins x = some (.type T)) (ha : JAp X ξ W cr (e :: es) (argsP fs))
    (hn : x ≠ "__name__" := by decide) (hdb : (x == ("__debug__" : Str)) = false := by decide) (hs1 : starEach (e :: es) X.env = (false, eval e X.env) :: starEach es X.env := by rfl) (hs2 : (backTo pos (starEach es X.env)).any (·.1) = false := by rfl) : JEp X ξ W cr (.Call (.Name x p) (e :: es) [] pos) (opNP g fs) :=
  let ⟨_, a1, a2⟩ := ha; ⟨_, pe_callTy hc hg hm hv a1 hn hdb hs1 hs2, sx_opN hr a2⟩
theorem jep_callQ {k : Nat} {f : Addr} {fd : FuncData} {ps : List Str} {m : Fv} {ms : List Bool} {x : Str} {p : Pos} (G : FnOk X.prog X.w X.K X.mg X.base (L2.CX X.prog X.w) k f fd ps (spOf cr ps.length m)) (tk : Takes X W) (hr : Room k X.A)
    (hm : X.mg x = some (.ref f)) (hk : PySem.W.keepIn X.K (.ref f) = true) (hb : Binds X.K fd ps []) (hg : Gl X x) (ha : JAp X ξ W cr (e :: es) (argsP fs)) (hl : fs.length = ps.length) (hms : ms.length = fs.length) (hdb : (x == ("__debug__" : Str)) = false := by decide)
    (he : starEach (e :: es) X.env = (false, eval e X.env) :: starEach es X.env := by rfl) (hpl : (backTo pos (starEach es X.env)).any (·.1) = false := by rfl) : JEp X ξ W cr (.Call (.Name x p) (e :: es) [] pos) (callQ m ms fs) := by
  obtain ⟨_, a1, a2⟩ := ha
  exact ⟨_, pe_callS G hr hg hm hk hb (fun σ => passAt tk σ) a1 hdb he hpl, sx_callQ a2 hl hms⟩
theorem jep_callP {k : Nat} {f : Addr} {fd : FuncData} {ps : List Str} {m : PFv} {x : Str} {p : Pos} (G : FnOk X.prog X.w X.K X.mg X.base (L2.CX X.prog X.w) k f fd ps (spP cr ps.length m)) (tk : Takes X W) (hr : Room k X.A)
    (hm : X.mg x = some (.ref f)) (hk : PySem.W.keepIn X.K (.ref f) = true) (hb : Binds X.K fd ps []) (hg : Gl X x) (ha : JAp X ξ W cr (e :: es) (argsP fs)) (hl : fs.length = ps.length) (hdb : (x == ("__debug__" : Str)) = false := by decide)
    (he : starEach (e :: es) X.env = (false, eval e X.env) :: starEach es X.env := by rfl) (hpl : (backTo pos (starEach es X.env)).any (·.1) = false := by rfl) : JEp X ξ W cr (.Call (.Name x p) (e :: es) [] pos) (callP m fs) := by
  obtain ⟨_, a1, a2⟩ := ha
  exact ⟨_, pe_callS G hr hg hm hk hb (fun σ => passAt tk σ) a1 hdb he hpl, sx_callP a2 hl⟩
/-! slices -/
def JOp (X : Cx) (ξ : Addr × Nat) (W : WX) (cr : Nat → Value) (e : Option Expr) (f : Option PEv) : Prop := ∃ to, PO X e to ∧ SXp isO ξ W cr to (optP f)
end
end
end Q
namespace Q
noncomputable section
open PySem L2
/-! ### the second reading: slices, comprehensions, statements: the rules -/
section
variable {X : Cx} {ξ : Addr × Nat} {W : WX} {cr : Nat → Value} {F H F' H' F1 H1 : Hp} {A A' A1 : List Addr} {S S' : Sto} {env : PEn} {σ : St} {pos : Pos} {a b c e : Expr} {es : List Expr} {fa fb fc f g : PEv} {fs : List PEv}
theorem jop_none : JOp X ξ W cr none none := ⟨_, po_none, fun env σ F A S H Qq s ne ok er => ok none S rfl none F A H s.so .refl rfl⟩
theorem jop_some (h : JEp X ξ W cr e f) : JOp X ξ W cr (some e) (some f) := by
  obtain ⟨te, h1, h2⟩ := h
  refine ⟨_, po_some h1, fun env σ F A S H Qq s ne ok er => ?_⟩
  refine sx_bind (k := fun x S => match x with
    | .d (.int i) => .ok (some i) S
    | _ => .no) h2 s (rfl : optP (some f) env S = _) ne (fun x S1 h1 u F1 A1 H1 s1 g1 r1 => ?_) er
  cases x with
  | d y =>
    cases y with
    | int i => exact ⟨i, vr_int r1, ok (some i) S1 h1 _ F1 A1 H1 s1.so g1 rfl⟩
    | _ => exact absurd h1 ne
  | _ => exact absurd h1 ne
theorem jep_sli {lo hi : Option Expr} {fl fh : Option PEv} {p2 : Pos} (he : JEp X ξ W cr e f) (hl : JOp X ξ W cr lo fl) (hh : JOp X ξ W cr hi fh) : JEp X ξ W cr (.Subscript e (.Slice lo hi none p2) pos) (sliP f fl fh) := by
  obtain ⟨te, a1, a2⟩ := he
  obtain ⟨tl, b1, b2⟩ := hl
  obtain ⟨th, c1, c2⟩ := hh
  refine ⟨_, pe_slice sl_Q a1 b1 c1, fun env σ F A S H Qq s ne ok er => ?_⟩
  refine sx_bind (k := fun x S => bindP (optP fl env S) fun l S => bindP (optP fh env S) fun h S => stepP (sliPV x l h S)) a2 s (rfl : sliP f fl fh env S = _) ne (fun x S1 h1 u F1 A1 H1 s1 g1 r1 => ?_) er
  refine sx_bind (k := fun l S => bindP (optP fh env S) fun h S => stepP (sliPV x l h S)) b2 s1 h1 ne (fun l S2 h2 l' F2 A2 H2 s2 g2 r2 => ?_) fun c S2 h2 F2 A2 H2 o2 g2 => er c S2 h2 F2 A2 H2 o2 (g1.trans g2)
  refine sx_bind (k := fun h S => stepP (sliPV x l h S)) c2 s2 h2 ne (fun h S3 h3 h' F3 A3 H3 s3 g3 r3 => ?_) fun c S3 h3 F3 A3 H3 o3 g3 => er c S3 h3 F3 A3 H3 o3 ((g1.trans g2).trans g3)
  cases r2
  cases r3
  obtain ⟨v, S4, e1, e2⟩ := step_ok h3 ne
  exact sliPV_ok s3.so ((r1.up g2).up g3) e1 fun z F4 A4 H4 o4 g4 r4 => ok v S4 e2 z F4 A4 H4 o4 (((g1.trans g2).trans g3).trans g4) r4
theorem tyP_mem (x : PV) : tyP x ∈ kNames := by
  cases x with
  | d y => exact tyN_mem y
  | t ys => simp [tyP, kNames]
  | r n => simp [tyP, kNames]
theorem jep_isi {T : String} {x : Str} {p p2 : Pos} (ht : KitOk T) (hg : Gl X "isinstance") (hm : X.mg "isinstance" = none) (hgT : Gl X x) (hmT : X.mg x = none) (hvT : bootBuiltins x = some (.type T)) (he : JEp X ξ W cr e f)
    (hn : x ≠ "__name__" := by decide) (hdb : (x == ("__debug__" : Str)) = false := by decide) (hs1 : starEach [e, .Name x p2] X.env = (false, eval e X.env) :: starEach [.Name x p2] X.env := by rfl) (hs2 : (backTo pos (starEach [.Name x p2] X.env)).any (·.1) = false := by rfl)
    (hs3 : starEach [.Name x p2] X.env = (false, eval (.Name x p2) X.env) :: starEach [] X.env := by rfl) : JEp X ξ W cr (.Call (.Name "isinstance" p) [e, .Name x p2] [] pos) (isiP T f) := by
  obtain ⟨te, a1, a2⟩ := he
  refine ⟨_, pe_callB call_isi hg hm (by decide +kernel) (pa_cons a1 (pa_cons (pe_bltn (v := .ty T) hgT hmT hvT rfl hn hdb) pa_nil hs3) hs1) (by decide) (by decide) hs1 hs2, fun env σ F A S H Qq s ne ok er => ?_⟩
  refine sx_bind (k := fun x S => PR.ok (PV.d (.bool (isiPV T x))) S) a2 s (rfl : isiP T f env S = _) ne (fun x S1 h1 u F1 A1 H1 s1 g1 r1 => ?_) er
  exact ⟨u, .ty T, .type (tyP x), .type T, isiPV T x, rfl, .ty T, vr_ty s1.so r1, ht (tyP x) (tyP_mem x), ok _ S1 h1 _ F1 A1 H1 s1.so g1 (.d (.bl _))⟩
/-! comprehensions -/
theorem StoOk.out (s : StoOk F A S H) {p : Addr} {o : HO} (h1 : F p = none) (h2 : p ∉ A) : StoOk F A S (upd H p o) := by
  refine ⟨fun b u hb => ?_, s.nd, s.len, fun n a xs ha hx => ?_⟩
  · rw [upd_ne (fun z => by rw [z, h1] at hb; cases hb)]
    exact s.fh b u hb
  · obtain ⟨q1, vs, q2, q3⟩ := s.cell n a xs ha hx
    exact ⟨q1, vs, by rw [upd_ne (fun z => h2 (by rw [← z]; exact List.mem_of_getElem? ha))]; exact q2, q3⟩
theorem Gp.out (g : Gp F A H F' A' H') {p : Addr} {o : HO} (h1 : H p = none) : Gp F A H F' A' (upd H' p o) :=
  ⟨g.f, g.a, fun b u hb => by
    rw [upd_ne (fun z => by rw [z, h1] at hb; cases hb)]
    exact g.h b u hb, g.new, g.n⟩
theorem Gp.apart (g : Gp F A H F' A' H') {p : Addr} {vs : List V} (h1 : F p = none) (h2 : H p = some (.lst vs)) (h3 : p ∉ A) : F' p = none ∧ p ∉ A' ∧ H' p = some (.lst vs) := by
  refine ⟨?_, fun z => ?_, ?_⟩
  · cases q : F' p with
    | none => rfl
    | some o =>
      rcases g.n p o q with z | z | ⟨z, w⟩
      · rw [h1] at z; cases z
      · rw [h2] at z; cases z
      · rw [h2] at w; cases w; exact absurd z npl_lst
  · rcases g.new p z with w | w
    · exact h3 w
    · rw [h2] at w; cases w
  · rcases g.h p _ h2 with z | ⟨z, _⟩
    · exact z
    · exact absurd z h3
structure LcP (ξ : Addr × Nat) (F1 : Hp) (A1 : List Addr) (H1 : Hp) (D : Addr) (i : Nat) (F : Hp) (A : List Addr) (S : Sto) (H : Hp) (acc : List PV) : Prop where
  so : StoOk F A S H
  g : Gp F1 A1 H1 F A H
  f : F D = none
  a : D ∉ A
  l : ∃ us, H D = some (.lst us) ∧ VrAll F A us acc
  n : acc.length ≤ i
def lcEnd (k : List PV → Sto → PR PV) : PR (List PV) → PR PV
  | .ok es S' => k es S'
  | _ => .no
theorem lc_core {wi : TI} {gt : TG} {tq : TT} {te : TE} {src : PIv} {bd : PBv} {c : PTv} {f : PEv} {vs : List Nat} (hi : SIp ξ W cr wi src) (hg : SGp ξ gt bd vs) (hc : SXp isB ξ W0 cr tq c) (hf : SXp Vr ξ W0 cr te f) {Qq : VK} (s : SimP ξ env σ F A S H) {Z : PR PV} {k : List PV → Sto → PR PV}
    (hz : Z = bindP (src env S) fun p S => if p.1.length ≤ LIM then lcEnd k (lcPL bd c f p.2 (wipeP env vs) p.1 [] S) else .no) (ne : Z ≠ .no)
    (fin : ∀ es S', Z = k es S' → ∀ F' A' H' D us, StoOk F' A' S' H' → Gp F A H F' A' H' → H D = none → F' D = none → D ∉ A' → H' D = some (.lst us) → VrAll F' A' us es → Qq (.ref D) H')
    (er : ∀ c S', Z = .err c S' → ∀ F' A' H', StoOk F' A' S' H' → Gp F A H F' A' H' → W (cr c) none σ H') : tLc wi gt tq te vs σ H Qq := by
  refine hi env σ F A S H _ s (fun z => ne (by rw [hz, z]; rfl)) (fun p S1 h1 J F1 A1 H1 o1 g1 it => ?_) fun c S1 h1 => er c S1 (by rw [hz, h1]; rfl)
  have un : Z = (if p.1.length ≤ LIM then lcEnd k (lcPL bd c f p.2 (wipeP env vs) p.1 [] S1) else .no) := by rw [hz, h1]; rfl
  by_cases hl : p.1.length ≤ LIM
  · rw [if_pos hl] at un
    intro Dl hD
    cases hr : lcPL bd c f p.2 (wipeP env vs) p.1 [] S1 with
    | err x S' => rw [hr] at un; exact absurd un ne
    | no => rw [hr] at un; exact absurd un ne
    | ok es Sf =>
      rw [hr] at un
      have un : Z = k es Sf := un
      have fD : F1 Dl = none := o1.fh.free hD
      have aD : Dl ∉ A1 := fun z => by
        obtain ⟨vs, w⟩ := o1.in_ z
        rw [hD] at w; cases w
      have s1 : SimP ξ env σ F1 A1 S1 H1 := s.grow o1 g1
      refine ⟨fun i m H' => m = p.1.length - i ∧ i ≤ p.1.length ∧ ∃ F' A' S' acc, LcP ξ F1 A1 H1 Dl i F' A' S' H' acc ∧ lcPL bd c f p.2 (wipeP env vs) (p.1.drop i) acc S' = .ok es Sf,
        ⟨p.1.length, rfl, Nat.zero_le _, F1, A1, S1, [], ⟨o1.out fD aD, Gp.refl.out hD, fD, aD, ⟨[], upd_same, .nil⟩, Nat.le_refl _⟩, hr⟩, ?_⟩
      rintro i m H' ⟨rfl, hi', F', A', S', acc, ⟨so, gp, f', a', ⟨us, l1, l2⟩, hn⟩, hw⟩
      have okw : okW p.2 S' := by
        by_cases q : okW p.2 S'
        · exact q
        · exfalso
          cases hd : p.1.drop i with
          | nil => rw [hd] at hw; simp only [lcPL, if_neg q] at hw; cases hw
          | cons x xs => rw [hd] at hw; simp only [lcPL, if_neg q] at hw; cases hw
      obtain ⟨go, st⟩ := it F' A' S' H' so gp.f gp.a okw
      by_cases hlt : i < p.1.length
      · have hd : p.1[i]? = some p.1[i] := List.getElem?_eq_getElem hlt
        rw [List.drop_eq_getElem_cons hlt] at hw
        have hw : (match bd p.1[i] (wipeP env vs) with
          | some e1 => bindP (c e1 S') fun b S => if b = true then bindP (f e1 S) fun y S => lcPL bd c f p.2 (wipeP env vs) (p.1.drop (i + 1)) (acc ++ [y]) S else lcPL bd c f p.2 (wipeP env vs) (p.1.drop (i + 1)) acc S
          | none => .no) = PR.ok es Sf := by
          have z := hw
          simp only [lcPL, if_pos okw] at z
          exact z
        obtain ⟨q1, q2⟩ := go i _ hd
        refine .inr ⟨q1, fun H2 => ∃ F' A' S' acc, LcP ξ F1 A1 H1 Dl (i + 1) F' A' S' H2 acc ∧ lcPL bd c f p.2 (wipeP env vs) (p.1.drop (i + 1)) acc S' = .ok es Sf, fun H2 q => ⟨p.1.length - (i + 1), by omega, rfl, hlt, q⟩, fun x H2 hy => ?_⟩
        obtain ⟨F2, o2, g2, rx⟩ := q2 x H2 hy
        cases hbd : bd p.1[i] (wipeP env vs) with
        | none => rw [hbd] at hw; cases hw
        | some e2 =>
          rw [hbd] at hw
          have hw : bindP (c e2 S') (fun b S => if b = true then bindP (f e2 S) fun y S => lcPL bd c f p.2 (wipeP env vs) (p.1.drop (i + 1)) (acc ++ [y]) S else lcPL bd c f p.2 (wipeP env vs) (p.1.drop (i + 1)) acc S) = PR.ok es Sf := hw
          have gpt := gp.trans g2
          have sw : SimP ξ (wipeP env vs) (wipe σ vs) F2 A' S' H2 := simP_wipe (s1.grow o2 gpt) vs
          refine hg (wipeP env vs) e2 (wipe σ vs) F2 A' S' H2 x _ _ sw rx hbd fun σ3 s3 w3 => ?_
          have wid : wipe σ3 vs = wipe σ vs := by
            rw [w3]
            refine List.ext_getElem? (fun j => ?_)
            rw [wipe_get, wipe_length]
            by_cases hj : j ∈ vs ∧ j < σ.length
            · rw [if_pos hj, wipe_get, if_pos hj]
            · rw [if_neg hj]
          refine ⟨wid, ?_⟩
          obtain ⟨p1, p2, p3⟩ := g2.apart f' l1 a'
          refine hc e2 σ3 F2 A' S' H2 _ s3 (fun z => by rw [z] at hw; cases hw) (fun b S3 h3 b' F3 A3 H3 o3 g3 r3 => ?_) fun x S3 h3 => by rw [h3] at hw; cases hw
          cases r3
          rw [h3] at hw
          have hw : (if b = true then bindP (f e2 S3) fun y S => lcPL bd c f p.2 (wipeP env vs) (p.1.drop (i + 1)) (acc ++ [y]) S else lcPL bd c f p.2 (wipeP env vs) (p.1.drop (i + 1)) acc S3) = PR.ok es Sf := hw
          obtain ⟨t1, t2, t3⟩ := g3.apart p1 p3 p2
          have l3 : VrAll F3 A3 us acc := (l2.up g2).up g3
          cases b with
          | false => exact ⟨F3, A3, S3, acc, ⟨o3, gpt.trans g3, t1, t2, ⟨us, t3, l3⟩, by omega⟩, hw⟩
          | true =>
            have hw : bindP (f e2 S3) (fun y S => lcPL bd c f p.2 (wipeP env vs) (p.1.drop (i + 1)) (acc ++ [y]) S) = PR.ok es Sf := hw
            refine hf e2 σ3 F3 A3 S3 H3 _ (s3.grow o3 g3) (fun z => by rw [z] at hw; cases hw) (fun y S4 h4 y' F4 A4 H4 o4 g4 r4 => ?_) fun x S4 h4 => by rw [h4] at hw; cases hw
            rw [h4] at hw
            obtain ⟨k1, k2, k3⟩ := g4.apart t1 t3 t2
            have l4 : VrAll F4 A4 us acc := l3.up g4
            refine ⟨us, k3, by rw [l4.length, ← LIM_eq]; omega, F4, A4, S4, acc ++ [y], ⟨o4.out k1 k2, ((gpt.trans g3).trans g4).out hD, k1, k2, ⟨us ++ [y'], upd_same, l4.append (.cons r4 .nil)⟩, by rw [List.length_append, List.length_singleton]; omega⟩, hw⟩
      · have : i = p.1.length := by omega
        subst this
        rw [List.drop_eq_nil_of_le (Nat.le_refl _)] at hw
        simp only [lcPL, if_pos okw] at hw
        cases hw
        exact .inl ⟨st, fin _ _ un F' A' H' Dl us so (g1.trans gp) (g1.there hD) f' a' l1 l2⟩
  · rw [if_neg hl] at un; exact absurd un ne
theorem sx_lc {wi : TI} {gt : TG} {tq : TT} {te : TE} {src : PIv} {bd : PBv} {c : PTv} {f : PEv} {vs : List Nat} (hi : SIp ξ W cr wi src) (hg : SGp ξ gt bd vs) (hc : SXp isB ξ W0 cr tq c) (hf : SXp Vr ξ W0 cr te f) :
    SXp Vr ξ W cr (tLc wi gt tq te vs) (lcP src bd c f vs) := fun env σ F A S H Qq s ne ok er => by
  refine lc_core (k := fun es S' => PR.ok (PV.r S'.length) (S' ++ [es])) hi hg hc hf s (by unfold lcP; cases src env S <;> first | rfl | (rename_i p S1; show (if p.1.length ≤ LIM then _ else _) = (if p.1.length ≤ LIM then _ else _); cases lcPL bd c f p.2 (wipeP env vs) p.1 [] S1 <;> rfl)) ne (fun es S' un F' A' H' D us so g hD f' a' l1 l2 => ?_) er
  refine ok _ _ un (.ref D) F' (A' ++ [D]) H' (so.add f' l1 a' l2) ⟨g.f, ?_, g.h, fun b hb => ?_, g.n⟩ (last_r D so)
  · obtain ⟨B, hB⟩ := g.a
    exact ⟨B ++ [D], by rw [hB, List.append_assoc]⟩
  · rcases List.mem_append.mp hb with z | z
    · exact g.new b z
    · rw [List.mem_singleton.mp z]; exact .inr hD
def JTsp (X : Cx) (ξ : Addr × Nat) (W : WX) (cr : Nat → Value) (ifs : List Expr) (c : PTv) : Prop := PTs X ifs (txOf isB ξ W cr c)
theorem jtsp_nil : JTsp X ξ W cr [] ttP := by
  refine ⟨fun pins s σ H Q I hw => pts_nil.run pins s σ H Q I ?_⟩
  obtain ⟨env, F, A, S, q1, q2, q3, q4⟩ := hw
  exact q3 true S rfl true F A H q1.so .refl rfl
theorem jtsp_one {c : Expr} {t : PTv} (h : JTp X ξ W cr c t) : JTsp X ξ W cr [c] t := pts_one h.pt
theorem jep_lc {elt tg iter : Expr} {ifs : List Expr} {scope : Scope} {own : List (Str × Nat)} {src : PIv} {bd : PBv} {t : PTv} (hc : X.calm = true) (hN : X.N.Nodup) (hi : JIp X ξ W cr tg iter src) (ok : BlkOk X.N X.env.scope scope own)
    (hg : ∀ (s : Shared) (H : Hp) (C : Addr) (cl : List (Str × Addr)) (fp : List Addr), JGp (X.blk s H scope (compEnvC scope cl C X.env) fp) ξ tg bd (own.map (·.2)))
    (ht : ∀ (s : Shared) (H : Hp) (C : Addr) (cl : List (Str × Addr)) (fp : List Addr), JTsp (X.blk s H scope (compEnvC scope cl C X.env) fp) ξ W0 cr ifs t)
    (he : ∀ (s : Shared) (H : Hp) (C : Addr) (cl : List (Str × Addr)) (fp : List Addr), JEp (X.blk s H scope (compEnvC scope cl C X.env) fp) ξ W0 cr elt f) (hs : ∀ x, foldedSetIterable iter X.env x = pure x := by intro _; rfl) :
    JEp X ξ W cr (.ListComp elt [⟨tg, iter, ifs, 0⟩] scope pos) (lcP src bd t f (own.map (·.2))) := by
  obtain ⟨wi, i1, i2⟩ := hi
  exact ⟨_, pe_lc hc hN i1 ok (fun s H C cl fp => (hg s H C cl fp).pg) (fun s H C cl fp => ht s H C cl fp) (fun s H C cl fp => (he s H C cl fp).pe) hs, sx_lc i2 sg_ofP sx_of sx_of⟩
end
end
end Q
namespace Q
noncomputable section
open PySem L2
/-! ### the second reading: statements, defs -/
section
variable {X : Cx} {ξ : Addr × Nat} {W : WX} {cr : Nat → Value} {F H F' H' F1 H1 : Hp} {A A' A1 : List Addr} {S S' : Sto} {env : PEn} {σ : St} {pos : Pos} {a b c e o : Expr} {es : List Expr} {fa fb fc f fo fi fe : PEv} {fs : List PEv} {De : Ends}
theorem st_bind {α β : Type} {R : Hp → List Addr → β → α → Prop} {t : St → Hp → (β → Hp → Prop) → Prop} {f : PF α} (hf : SXp R ξ W cr t f) {k : α → Sto → PRS} (s : SimP ξ env σ F A S H) {P : β → Hp → Prop} {Z : PRS} (hz : Z = ofR env (f env S) k) (ne : Z ≠ .no)
    (ok : ∀ x S1, Z = k x S1 → ∀ u F1 A1 H1, SimP ξ env σ F1 A1 S1 H1 → Gp F A H F1 A1 H1 → R F1 A1 u x → P u H1)
    (er : ∀ c S1, Z = .err c env S1 → ∀ F1 A1 H1, SimP ξ env σ F1 A1 S1 H1 → Gp F A H F1 A1 H1 → W (cr c) none σ H1) : t σ H P := by
  refine hf env σ F A S H P s (fun z => ne (by rw [hz, z]; rfl)) (fun x S1 h u F1 A1 H1 o g r => ok x S1 (by rw [hz, h]; rfl) u F1 A1 H1 (s.grow o g) g r) fun c S1 h F1 A1 H1 o g => er c S1 (by rw [hz, h]; rfl) F1 A1 H1 (s.grow o g) g
theorem jsp_pass : JSp X ξ W cr (.Pass pos) skipSP := ⟨_, ps_pass, fun env σ F A S H De s _ nx _ _ _ _ => nx env S rfl σ F A H s .refl⟩
theorem jsp_break : JSp X ξ W cr (.Break pos) bkSP := ⟨_, ps_break, fun env σ F A S H De s _ _ _ bk _ _ => bk env S rfl σ F A H s .refl⟩
theorem jsp_continue : JSp X ξ W cr (.Continue pos) ctSP := ⟨_, ps_continue, fun env σ F A S H De s _ _ _ _ ct _ => ct env S rfl σ F A H s .refl⟩
theorem jssp_nil : JSsp X ξ W cr [] skipSP := ⟨_, pss_nil, fun env σ F A S H De s _ nx _ _ _ _ => nx env S rfl σ F A H s .refl⟩
theorem ss_seqP {t u : TS} {f g : PSv} (h : SSp ξ W cr t f) (h' : SSp ξ W cr u g) : SSp ξ W cr (tSeq t u) (seqSP f g) := fun env σ F A S H De s ne nx rt bk ct er => by
  have un : seqSP f g env S = match f env S with
    | .nx e S => g e S
    | r => r := rfl
  refine h env σ F A S H _ s (fun z => ne (by rw [un, z])) (fun e' S' h1 σ' F' A' H' s' g' => ?_) (fun v S' h1 => rt v S' (by rw [un, h1])) (fun e' S' h1 => bk e' S' (by rw [un, h1])) (fun e' S' h1 => ct e' S' (by rw [un, h1])) fun c e' S' h1 => er c e' S' (by rw [un, h1])
  have un2 : seqSP f g env S = g e' S' := by rw [un, h1]
  exact h' e' σ' F' A' S' H' De s' (by rw [← un2]; exact ne) (fun e2 S2 h2 σ2 F2 A2 H2 s2 g2 => nx e2 S2 (un2.trans h2) σ2 F2 A2 H2 s2 (g'.trans g2)) (fun v S2 h2 u F2 A2 H2 o2 g2 r => rt v S2 (un2.trans h2) u F2 A2 H2 o2 (g'.trans g2) r) (fun e2 S2 h2 σ2 F2 A2 H2 s2 g2 => bk e2 S2 (un2.trans h2) σ2 F2 A2 H2 s2 (g'.trans g2)) (fun e2 S2 h2 σ2 F2 A2 H2 s2 g2 => ct e2 S2 (un2.trans h2) σ2 F2 A2 H2 s2 (g'.trans g2)) fun c e2 S2 h2 σ2 F2 A2 H2 s2 g2 => er c e2 S2 (un2.trans h2) σ2 F2 A2 H2 s2 (g'.trans g2)
theorem jssp_cons {st : Stmt} {rest : List Stmt} {f g : PSv} (h : JSp X ξ W cr st f) (h' : JSsp X ξ W cr rest g) : JSsp X ξ W cr (st :: rest) (seqSP f g) := let ⟨_, a1, a2⟩ := h; let ⟨_, b1, b2⟩ := h'; ⟨_, pss_cons a1 b1, ss_seqP a2 b2⟩
theorem jssp_one {st : Stmt} {f : PSv} (h : JSp X ξ W cr st f) : JSsp X ξ W cr [st] f := let ⟨_, a1, a2⟩ := h; ⟨_, pss_one a1, a2⟩
theorem ss_asgP {te : TE} {i : Nat} (h : SXp Vr ξ W cr te f) : SSp ξ W cr (tAsg te (gName i)) (asgSP i f) := fun env σ F A S H De s ne nx rt bk ct er =>
  st_bind (k := fun x S => .nx (env.set i (.v x)) S) h s rfl ne (fun x S1 h1 u F1 A1 H1 s1 g1 r1 => nx _ S1 h1 _ F1 A1 H1 (simP_put s1 i ⟨u, rfl, r1⟩) g1) fun c S1 h1 F1 A1 H1 s1 g1 => er c env S1 h1 σ F1 A1 H1 s1 g1
theorem jsp_set (i : Nat) {x : Str} {pos' : Pos} (hN : X.N.Nodup) (hi : X.N[i]? = some x) (hx : Loc X.env.scope x) (he : JEp X ξ W cr e f) (hs : swapsWith e (some (.Name x pos')) pos.line X.env = pure false := by rfl)
    (hf : X.fn x = true ∨ X.env.scope.names.lookup x = some .local := by first | exact .inl rfl | exact .inr rfl | assumption) : JSp X ξ W cr (.Assign [.Name x pos'] e pos) (asgSP i f) := let ⟨_, a1, a2⟩ := he; ⟨_, ps_set hN hi hx a1 hs hf, ss_asgP a2⟩
theorem jsp_setLc (i : Nat) {y : Str} {py spos : Pos} {elt tg iter : Expr} {ifs : List Expr} {scope : Scope} {own : List (Str × Nat)} {src : PIv} {bd : PBv} {t : PTv} (hc : X.calm = true) (hN : X.N.Nodup) (hy : X.N[i]? = some y) (hyl : X.env.scope.names.lookup y = some .local)
    (hsw : swapsWith (.ListComp elt [⟨tg, iter, ifs, 0⟩] scope pos) (some (.Name y py)) spos.line X.env = pure true) (hi : JIp X ξ W cr tg iter src) (ok : BlkOk X.N X.env.scope scope own)
    (hg : ∀ (s : Shared) (H : Hp) (C : Addr) (cl : List (Str × Addr)) (fp : List Addr), JGp (X.blk s H scope (compEnvC scope cl C X.env) fp) ξ tg bd (own.map (·.2)))
    (ht : ∀ (s : Shared) (H : Hp) (C : Addr) (cl : List (Str × Addr)) (fp : List Addr), JTsp (X.blk s H scope (compEnvC scope cl C X.env) fp) ξ W0 cr ifs t)
    (he : ∀ (s : Shared) (H : Hp) (C : Addr) (cl : List (Str × Addr)) (fp : List Addr), JEp (X.blk s H scope (compEnvC scope cl C X.env) fp) ξ W0 cr elt f) (hs : ∀ x, foldedSetIterable iter X.env x = pure x := by intro _; rfl) :
    JSp X ξ W cr (.Assign [.Name y py] (.ListComp elt [⟨tg, iter, ifs, 0⟩] scope pos) spos) (asgSP i (lcP src bd t f (own.map (·.2)))) := by
  obtain ⟨wi, i1, i2⟩ := hi
  exact ⟨_, ps_setLc hc hN hy hyl hsw i1 ok (fun s H C cl fp => (hg s H C cl fp).pg) (fun s H C cl fp => ht s H C cl fp) (fun s H C cl fp => (he s H C cl fp).pe) hs, ss_asgP (sx_lc i2 sg_ofP sx_of sx_of)⟩
theorem jsp_unp {tg : Expr} {bd : PBv} {vs : List Nat} (he : JEp X ξ W cr e f) (hg : JGp X ξ tg bd vs) (hs : swapsWithSole [tg] e pos.line X.env = pure false := by rfl) (hw : swappedStores [tg] e X.env = pure none := by rfl) (h1 : (assignEach [tg] X.env).map (·.2) = [assign tg X.env] := by rfl) : JSp X ξ W cr (.Assign [tg] e pos) (unpSP f bd) := by
  obtain ⟨_, a1, a2⟩ := he
  obtain ⟨_, b1, b2⟩ := hg
  refine ⟨_, ps_asg a1 b1 hs hw h1, fun env σ F A S H De s ne nx rt bk ct er => ?_⟩
  refine st_bind (k := fun x S => match bd x env with
    | some e => .nx e S
    | none => .no) a2 s (rfl : unpSP f bd env S = _) ne (fun x S1 h1 u F1 A1 H1 s1 g1 r1 => ?_) fun c S1 h1 F1 A1 H1 s1 g1 => er c env S1 h1 σ F1 A1 H1 s1 g1
  cases hb : bd x env with
  | none => rw [hb] at h1; exact absurd h1 ne
  | some e2 =>
    rw [hb] at h1
    exact b2 env e2 σ F1 A1 S1 H1 u x _ s1 r1 hb fun σ2 s2 _ => nx e2 S1 h1 σ2 F1 A1 H1 s2 g1
theorem jsp_expr (he : JEp X ξ W cr e f) (hs : swapsWith e none pos.line X.env = pure false := by rfl) : JSp X ξ W cr (.Expr e pos) (dropSP f) := by
  obtain ⟨_, a1, a2⟩ := he
  exact ⟨_, ps_expr a1 hs, fun env σ F A S H De s ne nx rt bk ct er => st_bind (k := fun _ S => .nx env S) a2 s (rfl : dropSP f env S = _) ne (fun x S1 h1 u F1 A1 H1 s1 g1 r1 => nx env S1 h1 σ F1 A1 H1 s1 g1) fun c S1 h1 F1 A1 H1 s1 g1 => er c env S1 h1 σ F1 A1 H1 s1 g1⟩
theorem jsp_ret (he : JEp X ξ W cr e f) : JSp X ξ W cr (.Return (some e) pos) (retSP f) := by
  obtain ⟨_, a1, a2⟩ := he
  exact ⟨_, ps_ret a1, fun env σ F A S H De s ne nx rt bk ct er => st_bind (k := fun x S => .rt x S) a2 s (rfl : retSP f env S = _) ne (fun x S1 h1 u F1 A1 H1 s1 g1 r1 => rt x S1 h1 u F1 A1 H1 s1.so g1 r1) fun c S1 h1 F1 A1 H1 s1 g1 => er c env S1 h1 σ F1 A1 H1 s1 g1⟩
theorem jsp_if {c : Expr} {s1 s2 : List Stmt} {t : PTv} {f g : PSv} (hc : JTp X ξ W cr c t) (ha : JSsp X ξ W cr s1 f) (hb : JSsp X ξ W cr s2 g) : JSp X ξ W cr (.If c s1 s2 pos) (ifSP t f g) := by
  obtain ⟨_, c1, c2⟩ := hc
  obtain ⟨_, a1, a2⟩ := ha
  obtain ⟨_, b1, b2⟩ := hb
  refine ⟨_, ps_if c1 a1 b1, fun env σ F A S H De s ne nx rt bk ct er => ?_⟩
  refine st_bind (k := fun b S => if b = true then f env S else g env S) c2 s (rfl : ifSP t f g env S = _) ne (fun x S1 h1 u F1 A1 H1 s1 g1 r1 => ?_) fun c S1 h1 F1 A1 H1 s1 g1 => er c env S1 h1 σ F1 A1 H1 s1 g1
  cases r1
  cases x with
  | true =>
    have h2 : ifSP t f g env S = f env S1 := h1
    exact a2 env σ F1 A1 S1 H1 De s1 (by rw [← h2]; exact ne) (fun e2 S2 q σ2 F2 A2 H2 s2 g2 => nx e2 S2 (h2.trans q) σ2 F2 A2 H2 s2 (g1.trans g2)) (fun v S2 q u F2 A2 H2 o2 g2 r => rt v S2 (h2.trans q) u F2 A2 H2 o2 (g1.trans g2) r) (fun e2 S2 q σ2 F2 A2 H2 s2 g2 => bk e2 S2 (h2.trans q) σ2 F2 A2 H2 s2 (g1.trans g2)) (fun e2 S2 q σ2 F2 A2 H2 s2 g2 => ct e2 S2 (h2.trans q) σ2 F2 A2 H2 s2 (g1.trans g2)) fun c e2 S2 q σ2 F2 A2 H2 s2 g2 => er c e2 S2 (h2.trans q) σ2 F2 A2 H2 s2 (g1.trans g2)
  | false =>
    have h2 : ifSP t f g env S = g env S1 := h1
    exact b2 env σ F1 A1 S1 H1 De s1 (by rw [← h2]; exact ne) (fun e2 S2 q σ2 F2 A2 H2 s2 g2 => nx e2 S2 (h2.trans q) σ2 F2 A2 H2 s2 (g1.trans g2)) (fun v S2 q u F2 A2 H2 o2 g2 r => rt v S2 (h2.trans q) u F2 A2 H2 o2 (g1.trans g2) r) (fun e2 S2 q σ2 F2 A2 H2 s2 g2 => bk e2 S2 (h2.trans q) σ2 F2 A2 H2 s2 (g1.trans g2)) (fun e2 S2 q σ2 F2 A2 H2 s2 g2 => ct e2 S2 (h2.trans q) σ2 F2 A2 H2 s2 (g1.trans g2)) fun c e2 S2 q σ2 F2 A2 H2 s2 g2 => er c e2 S2 (h2.trans q) σ2 F2 A2 H2 s2 (g1.trans g2)
/-! a list is changed -/
theorem jsp_app {apos pos' : Pos} (ho : JEp X ξ W cr o fo) (he : JEp X ξ W cr e fe) (hs1 : starEach [e] X.env = (false, eval e X.env) :: starEach [] X.env := by rfl)
    (hb : ∀ {tr : TE} {ta : TA}, PE X o tr → PA X [e] ta → PE X (.Call (.Attribute o "append" apos) [e] [] pos') (tBM X.K "list" rAppend tr ta))
    (hs : swapsWith (.Call (.Attribute o "append" apos) [e] [] pos') none pos.line X.env = pure false := by rfl) : JSp X ξ W cr (.Expr (.Call (.Attribute o "append" apos) [e] [] pos') pos) (appSP fo fe) := by
  obtain ⟨_, a1, a2⟩ := ho
  obtain ⟨_, b1, b2⟩ := he
  refine ⟨_, ps_expr (hb a1 (pa_cons b1 pa_nil hs1)) hs, fun env σ F A S H De s ne nx rt bk ct er => ?_⟩
  refine st_bind (k := fun o S => match o with
    | .r n => ofR env (fe env S) fun x S => match S[n]? with
      | some xs => if xs.length < LIM then .nx env (S.set n (xs ++ [x])) else .no
      | none => .no
    | _ => .no) a2 s (rfl : appSP fo fe env S = _) ne (fun x S1 h1 u F1 A1 H1 s1 g1 r1 => ?_) fun c S1 h1 F1 A1 H1 s1 g1 => er c env S1 h1 σ F1 A1 H1 s1 g1
  cases x with
  | r n =>
    cases r1 with
    | @r a _ ha =>
      obtain ⟨ys, ws, k1, k2, k3, k4⟩ := s1.so.get ha
      refine ⟨.inl ⟨rfl, _, SqL.of k3⟩, ?_⟩
      refine st_bind (k := fun x S => match S[n]? with
        | some xs => if xs.length < LIM then .nx env (S.set n (xs ++ [x])) else .no
        | none => .no) b2 s1 h1 ne (fun y S2 h2 w F2 A2 H2 s2 g2 r2 => ?_) fun c S2 h2 F2 A2 H2 s2 g2 => er c env S2 h2 σ F2 A2 H2 s2 (g1.trans g2)
      have ha2 : A2[n]? = some a := by
        obtain ⟨B, rfl⟩ := g2.a
        exact get_pre ha
      obtain ⟨xs, vs, e1, e2, e3, e4⟩ := s2.so.get ha2
      have h2 : appSP fo fe env S = (if xs.length < LIM then .nx env (S2.set n (xs ++ [y])) else .no) := by
        rw [h2, e1]
      by_cases hl : xs.length < LIM
      · rw [if_pos hl] at h2
        obtain ⟨o3, g3⟩ := s2.so.mut ha2 (e4.append (.cons r2 .nil))
        exact ⟨a, vs, w, rfl, rfl, e3, by rw [e4.length, ← LIM_eq]; exact hl, nx env _ h2 σ F2 A2 _ (s2.grow o3 g3) ((g1.trans g2).trans g3)⟩
      · rw [if_neg hl] at h2; exact absurd h2 ne
  | _ => exact absurd h1 ne
theorem jsp_clr {apos pos' : Pos} (ho : JEp X ξ W cr o fo)
    (hb : ∀ {tr : TE}, PE X o tr → PE X (.Call (.Attribute o "clear" apos) [] [] pos') (tBM0 X.K "list" rClear tr))
    (hs : swapsWith (.Call (.Attribute o "clear" apos) [] [] pos') none pos.line X.env = pure false := by rfl) : JSp X ξ W cr (.Expr (.Call (.Attribute o "clear" apos) [] [] pos') pos) (clrSP fo) := by
  obtain ⟨_, a1, a2⟩ := ho
  refine ⟨_, ps_expr (hb a1) hs, fun env σ F A S H De s ne nx rt bk ct er => ?_⟩
  refine st_bind (k := fun o S => match o with
    | .r n => .nx env (S.set n [])
    | _ => .no) a2 s (rfl : clrSP fo env S = _) ne (fun x S1 h1 u F1 A1 H1 s1 g1 r1 => ?_) fun c S1 h1 F1 A1 H1 s1 g1 => er c env S1 h1 σ F1 A1 H1 s1 g1
  cases x with
  | r n =>
    cases r1 with
    | @r a _ ha =>
      obtain ⟨ys, ws, k1, k2, k3, k4⟩ := s1.so.get ha
      obtain ⟨o3, g3⟩ := s1.so.mut (vs' := []) (xs' := []) ha .nil
      exact ⟨.inl ⟨rfl, _, SqL.of k3⟩, a, ws, rfl, rfl, k3, nx env _ h1 σ F1 A1 _ (s1.grow o3 g3) (g1.trans g3)⟩
  | _ => exact absurd h1 ne
theorem jsp_setL {ix : Expr} {spos : Pos} (ho : JEp X ξ W cr o fo) (hi : JEp X ξ W cr ix fi) (he : JEp X ξ W cr e fe) (hg : ∀ {to ti : TE}, PE X o to → PE X ix ti → PG X (.Subscript o ix spos) (gSub to ti rSetL))
    (hs : swapsWithSole [.Subscript o ix spos] e pos.line X.env = pure false := by rfl) (hw : swappedStores [.Subscript o ix spos] e X.env = pure none := by rfl) (h1 : (assignEach [.Subscript o ix spos] X.env).map (·.2) = [assign (.Subscript o ix spos) X.env] := by rfl) : JSp X ξ W cr (.Assign [.Subscript o ix spos] e pos) (setSP fo fi fe) := by
  obtain ⟨_, a1, a2⟩ := ho
  obtain ⟨_, b1, b2⟩ := hi
  obtain ⟨_, c1, c2⟩ := he
  refine ⟨_, ps_asg c1 (hg a1 b1) hs hw h1, fun env σ F A S H De s ne nx rt bk ct er => ?_⟩
  refine st_bind (k := fun x S => ofR env (fo env S) fun o S => ofR env (fi env S) fun i S => setStep o i x env S) c2 s (rfl : setSP fo fi fe env S = _) ne (fun x S1 h1 u F1 A1 H1 s1 g1 r1 => ?_) fun c S1 h1 F1 A1 H1 s1 g1 => er c env S1 h1 σ F1 A1 H1 s1 g1
  refine st_bind (k := fun o S => ofR env (fi env S) fun i S => setStep o i x env S) a2 s1 h1 ne (fun y S2 h2 w F2 A2 H2 s2 g2 r2 => ?_) fun c S2 h2 F2 A2 H2 s2 g2 => er c env S2 h2 σ F2 A2 H2 s2 (g1.trans g2)
  refine st_bind (k := fun i S => setStep y i x env S) b2 s2 h2 ne (fun z S3 h3 t F3 A3 H3 s3 g3 r3 => ?_) fun c S3 h3 F3 A3 H3 s3 g3 => er c env S3 h3 σ F3 A3 H3 s3 ((g1.trans g2).trans g3)
  cases y with
  | r n =>
    cases z with
    | d z0 =>
      cases z0 with
      | int k =>
        cases r2 with
        | @r a _ ha =>
          have ha3 : A3[n]? = some a := by
            obtain ⟨B, rfl⟩ := g3.a
            exact get_pre ha
          obtain ⟨xs, vs, e1, e2, e3, e4⟩ := s3.so.get ha3
          have h3 : setSP fo fi fe env S = (match ixN xs.length k with
            | some j => .nx env (S3.set n (xs.set j x))
            | none => .no) := by
            rw [h3]
            show (match S3[n]? with
              | some xs => match ixN xs.length k with
                | some j => PRS.nx env (S3.set n (xs.set j x))
                | none => .no
              | none => .no) = _
            rw [e1]
          cases hx : ixN xs.length k with
          | none => rw [hx] at h3; exact absurd h3 ne
          | some j =>
            rw [hx] at h3
            obtain ⟨o4, g4⟩ := s3.so.mut ha3 (e4.set j ((r1.up g2).up g3))
            exact ⟨a, vs, k, j, rfl, vr_int r3, e3, by rw [e4.length]; exact hx, nx env _ h3 σ F3 A3 _ (s3.grow o4 g4) (((g1.trans g2).trans g3).trans g4)⟩
      | _ => exact absurd h3 ne
    | _ => exact absurd h3 ne
  | _ => exact absurd h3 ne
/-! loops -/
theorem forPL_cons {bd : PBv} {b : PSv} {w : Wat} {x : PV} {xs : List PV} {e : PEn} : forPL bd b w (x :: xs) e S = (if okW w S then match bd x e with
    | some e1 => match b e1 S with
      | .nx e2 S2 => forPL bd b w xs e2 S2
      | .ct e2 S2 => forPL bd b w xs e2 S2
      | .bk e2 S2 => .nx e2 S2
      | r => r
    | none => .no
    else .no) := rfl
theorem ss_forP {wi : TI} {g : TG} {tb : TS} {src : PIv} {bd : PBv} {b : PSv} {vs : List Nat} (hi : SIp ξ W cr wi src) (hg : SGp ξ g bd vs) (hb : SSp ξ W cr tb b) : SSp ξ W cr (tFor wi g tb) (forSP src bd b) := fun env σ F A S H De s ne nx rt bk ct er => by
  refine hi env σ F A S H _ s (fun z => ne (by simp only [forSP, z, ofR])) (fun p S1 h1 J F1 A1 H1 o1 g1 it => ?_) fun c S1 h1 F1 A1 H1 o1 g1 => er c env S1 (by simp only [forSP, h1, ofR]) σ F1 A1 H1 (s.grow o1 g1) g1
  have un : forSP src bd b env S = forPL bd b p.2 p.1 env S1 := by simp only [forSP, h1, ofR]
  generalize hr : forSP src bd b env S = r at un ne nx rt bk ct er
  refine ⟨fun i m σ' H' => m = p.1.length - i ∧ i ≤ p.1.length ∧ ∃ e F' A' S', SimP ξ e σ' F' A' S' H' ∧ Gp F1 A1 H1 F' A' H' ∧ forPL bd b p.2 (p.1.drop i) e S' = r, ⟨p.1.length, rfl, Nat.zero_le _, env, F1, A1, S1, s.grow o1 g1, .refl, un.symm⟩, ?_⟩
  rintro i m σ' H' ⟨rfl, hi', e, F', A', S', s', gp, hw⟩
  have okw : okW p.2 S' := by
    by_cases q : okW p.2 S'
    · exact q
    · exfalso
      cases hd : p.1.drop i with
      | nil => rw [hd] at hw; simp only [forPL, if_neg q] at hw; exact ne hw.symm
      | cons x xs => rw [hd] at hw; simp only [forPL, if_neg q] at hw; exact ne hw.symm
  obtain ⟨go, st⟩ := it F' A' S' H' s'.so gp.f gp.a okw
  by_cases hl : i < p.1.length
  · have hd : p.1[i]? = some p.1[i] := List.getElem?_eq_getElem hl
    rw [List.drop_eq_getElem_cons hl, forPL_cons, if_pos okw] at hw
    obtain ⟨q1, q2⟩ := go i _ hd
    refine .inr ⟨q1, fun σ2 H2 => ∃ e F2 A2 S2, SimP ξ e σ2 F2 A2 S2 H2 ∧ Gp F1 A1 H1 F2 A2 H2 ∧ forPL bd b p.2 (p.1.drop (i + 1)) e S2 = r, fun σ2 H2 q => ⟨p.1.length - (i + 1), by omega, rfl, hl, q⟩, fun x H2 hy => ?_⟩
    obtain ⟨F2, o2, g2, rx⟩ := q2 x H2 hy
    cases hbd : bd p.1[i] e with
    | none => rw [hbd] at hw; exact absurd hw.symm ne
    | some e2 =>
      rw [hbd] at hw
      have g3 := gp.trans g2
      refine hg e e2 σ' F2 A' S' H2 x _ _ (s'.grow o2 g2) rx hbd fun σ3 s3 _ => ?_
      have hw : (match b e2 S' with
        | .nx e2 S2 => forPL bd b p.2 (p.1.drop (i + 1)) e2 S2
        | .ct e2 S2 => forPL bd b p.2 (p.1.drop (i + 1)) e2 S2
        | .bk e2 S2 => .nx e2 S2
        | r => r) = r := hw
      refine hb e2 σ3 F2 A' S' H2 _ s3 (fun z => ne (by rw [z] at hw; exact hw.symm)) (fun e3 S4 h2 σ4 F4 A4 H4 s4 g4 => ⟨e3, F4, A4, S4, s4, g3.trans g4, by rw [h2] at hw; exact hw⟩) (fun v S4 h2 u F4 A4 H4 o4 g4 rr => ?_) (fun e3 S4 h2 σ4 F4 A4 H4 s4 g4 => ?_) (fun e3 S4 h2 σ4 F4 A4 H4 s4 g4 => ⟨e3, F4, A4, S4, s4, g3.trans g4, by rw [h2] at hw; exact hw⟩) fun x e3 S4 h2 σ4 F4 A4 H4 s4 g4 => ?_
      · rw [h2] at hw; exact rt v S4 hw.symm u F4 A4 H4 o4 ((g1.trans g3).trans g4) rr
      · rw [h2] at hw; exact nx e3 S4 hw.symm σ4 F4 A4 H4 s4 ((g1.trans g3).trans g4)
      · rw [h2] at hw; exact er x e3 S4 hw.symm σ4 F4 A4 H4 s4 ((g1.trans g3).trans g4)
  · have : i = p.1.length := by omega
    subst this
    rw [List.drop_eq_nil_of_le (Nat.le_refl _)] at hw
    simp only [forPL, if_pos okw] at hw
    exact .inl ⟨st, nx e S' hw.symm σ' F' A' H' s' (g1.trans gp)⟩
theorem jsp_for {tg iter : Expr} {body : List Stmt} {src : PIv} {bd : PBv} {g : PSv} {vs : List Nat} (hp : PassesOwn (model X.prog X.w) X.A X.env X.xe) (hc : X.calm = true) (hi : JIp X ξ W cr tg iter src) (hg : JGp X ξ tg bd vs) (hb : JSsp X ξ W cr body g) (hs : ∀ x, foldedSetIterable iter X.env x = pure x := by intro _; rfl) : JSp X ξ W cr (.For tg iter body [] pos) (forSP src bd g) :=
  let ⟨_, i1, i2⟩ := hi; let ⟨_, g1, g2⟩ := hg; let ⟨_, b1, b2⟩ := hb; ⟨_, ps_for hp hc i1 g1 b1 hs, ss_forP i2 g2 b2⟩
theorem whileP_ne {c : PTv} {b : PSv} (h : whileSP c b env S ≠ .no) : ∃ n, whlP c b n env S = whileSP c b env S := by
  by_cases q : ∃ n, whlP c b n env S ≠ .no
  · exact ⟨Classical.choose q, by unfold whileSP; rw [dif_pos q]⟩
  · exact absurd (by unfold whileSP; rw [dif_neg q]) h
theorem whlP_succ {c : PTv} {b : PSv} : ∀ {n : Nat} {env : PEn} {S : Sto}, whlP c b n env S ≠ .no → whlP c b (n + 1) env S = whlP c b n env S
  | 0, _, _, h => absurd rfl h
  | n + 1, env, S, h => by
    have u1 : ∀ m, whlP c b (m + 1) env S = ofR env (c env S) fun t S => if t = true then match b env S with
      | .nx e' S' => whlP c b m e' S'
      | .ct e' S' => whlP c b m e' S'
      | .bk e' S' => .nx e' S'
      | r => r
    else .nx env S := fun m => rfl
    rw [u1] at h
    rw [u1, u1]
    cases hc : c env S with
    | err x S1 => rfl
    | no => rfl
    | ok t S1 =>
      rw [hc] at h
      cases t with
      | false => rfl
      | true =>
        show (match b env S1 with
          | .nx e' S' => whlP c b (n + 1) e' S'
          | .ct e' S' => whlP c b (n + 1) e' S'
          | .bk e' S' => .nx e' S'
          | r => r) = (match b env S1 with
          | .nx e' S' => whlP c b n e' S'
          | .ct e' S' => whlP c b n e' S'
          | .bk e' S' => .nx e' S'
          | r => r)
        have h : (match b env S1 with
          | .nx e' S' => whlP c b n e' S'
          | .ct e' S' => whlP c b n e' S'
          | .bk e' S' => .nx e' S'
          | r => r) ≠ .no := h
        cases hb : b env S1 with
        | nx e' S' => rw [hb] at h; exact whlP_succ h
        | ct e' S' => rw [hb] at h; exact whlP_succ h
        | _ => rfl
theorem whlP_le {c : PTv} {b : PSv} {n m : Nat} (h : whlP c b n env S ≠ .no) (l : n ≤ m) : whlP c b m env S = whlP c b n env S := by
  induction m with
  | zero => rw [Nat.le_zero.mp l]
  | succ m ih =>
    rcases Nat.lt_or_ge m n with q | q
    · have : n = m + 1 := by omega
      rw [this]
    · rw [whlP_succ (by rw [ih q]; exact h), ih q]
theorem whileP_of {c : PTv} {b : PSv} {n : Nat} (h : whlP c b n env S ≠ .no) : whileSP c b env S = whlP c b n env S := by
  have q : ∃ n, whlP c b n env S ≠ .no := ⟨n, h⟩
  have e : whileSP c b env S = whlP c b (Classical.choose q) env S := by unfold whileSP; rw [dif_pos q]
  rw [e]
  rcases Nat.le_total n (Classical.choose q) with l | l
  · exact whlP_le h l
  · exact (whlP_le (Classical.choose_spec q) l).symm
theorem ss_whileP {t : TT} {tb : TS} {c : PTv} {b : PSv} (hc : SXp isB ξ W cr t c) (hb : SSp ξ W cr tb b) : SSp ξ W cr (tWhile t tb) (whileSP c b) := fun env σ F A S H De s ne nx rt bk ct er => by
  obtain ⟨n, hn⟩ := whileP_ne ne
  generalize hr : whileSP c b env S = r at hn ne nx rt bk ct er
  refine ⟨fun m σ' H' => ∃ e F' A' S', SimP ξ e σ' F' A' S' H' ∧ Gp F A H F' A' H' ∧ whlP c b m e S' = r, ⟨n, env, F, A, S, s, .refl, hn⟩, ?_⟩
  rintro m σ' H' ⟨e, F', A', S', s', gp, hw⟩
  cases m with
  | zero => exact absurd hw.symm ne
  | succ m =>
    have un : whlP c b (m + 1) e S' = ofR e (c e S') fun t S => if t = true then match b e S with
        | .nx e' S' => whlP c b m e' S'
        | .ct e' S' => whlP c b m e' S'
        | .bk e' S' => .nx e' S'
        | r => r
      else .nx e S := rfl
    rw [un] at hw
    refine hc e σ' F' A' S' H' _ s' (fun z => ne (by rw [z] at hw; exact hw.symm)) (fun t S1 h1 t' F1 A1 H1 o1 g1 r1 => ?_) fun x S1 h1 F1 A1 H1 o1 g1 => ?_
    · cases r1
      have s1 := s'.grow o1 g1
      have g2 := gp.trans g1
      rw [h1] at hw
      cases t with
      | false => exact nx e S1 hw.symm σ' F1 A1 H1 s1 g2
      | true =>
        have hw : (match b e S1 with
          | .nx e' S' => whlP c b m e' S'
          | .ct e' S' => whlP c b m e' S'
          | .bk e' S' => .nx e' S'
          | r => r) = r := hw
        refine ⟨fun σ2 H2 => ∃ e F' A' S', SimP ξ e σ2 F' A' S' H2 ∧ Gp F A H F' A' H2 ∧ whlP c b m e S' = r, fun σ2 H2 q => ⟨m, Nat.lt_succ_self m, q⟩, ?_⟩
        refine hb e σ' F1 A1 S1 H1 _ s1 (fun z => ne (by rw [z] at hw; exact hw.symm)) (fun e2 S2 h2 σ2 F2 A2 H2 s2 g3 => ⟨e2, F2, A2, S2, s2, g2.trans g3, by rw [h2] at hw; exact hw⟩) (fun v S2 h2 u F2 A2 H2 o2 g3 rr => ?_) (fun e2 S2 h2 σ2 F2 A2 H2 s2 g3 => ?_) (fun e2 S2 h2 σ2 F2 A2 H2 s2 g3 => ⟨e2, F2, A2, S2, s2, g2.trans g3, by rw [h2] at hw; exact hw⟩) fun x e2 S2 h2 σ2 F2 A2 H2 s2 g3 => ?_
        · rw [h2] at hw; exact rt v S2 hw.symm u F2 A2 H2 o2 (g2.trans g3) rr
        · rw [h2] at hw; exact nx e2 S2 hw.symm σ2 F2 A2 H2 s2 (g2.trans g3)
        · rw [h2] at hw; exact er x e2 S2 hw.symm σ2 F2 A2 H2 s2 (g2.trans g3)
    · rw [h1] at hw; exact er x e S1 hw.symm σ' F1 A1 H1 (s'.grow o1 g1) (gp.trans g1)
theorem jsp_while {c : Expr} {body : List Stmt} {t : PTv} {f : PSv} (hp : PassesOwn (model X.prog X.w) X.A X.env X.xe) (hc : JTp X ξ W cr c t) (hb : JSsp X ξ W cr body f) : JSp X ξ W cr (.While c body [] pos) (whileSP t f) := let ⟨_, c1, c2⟩ := hc; let ⟨_, b1, b2⟩ := hb; ⟨_, ps_while hp c1 b1, ss_whileP c2 b2⟩
/-! defs -/
def runDefP (n : Nat) (body : PSv) : PFv := fun xs S => match body (xs.map PSl.v ++ List.replicate (n - xs.length) .un) S with
  | .rt v S => .ok v S
  | .nx _ S => .ok (.d .none) S
  | .err c _ S => .err c S
  | _ => .no
theorem simP_start {us : List V} {xs : List PV} {N : List Str} (so : StoOk F A S H) (h : VrAll F A us xs) (hl : us.length ≤ N.length) : SimP ξ (xs.map PSl.v ++ List.replicate (N.length - xs.length) .un) (L2.start N us) F A S H := by
  have hl2 := h.length
  refine ⟨so, ?_, fun i => ?_⟩
  · unfold L2.start
    rw [List.length_append, List.length_append, List.length_map, List.length_map, List.length_replicate, List.length_replicate]; omega
  · have e2 : ((L2.start N us)[i]?).join = us[i]? := by
      unfold L2.start
      rw [List.getElem?_append, List.length_map]
      by_cases q : i < us.length
      · rw [if_pos q, List.getElem?_map]
        rw [List.getElem?_eq_getElem q]; rfl
      · rw [if_neg q, List.getElem?_eq_none (Nat.le_of_not_lt q), List.getElem?_replicate]
        split <;> rfl
    rw [e2]
    unfold pgt
    rw [List.getD_eq_getElem?_getD, List.getElem?_append, List.length_map]
    by_cases q : i < xs.length
    · rw [if_pos q, List.getElem?_map, List.getElem?_eq_getElem q]
      obtain ⟨v, h1, h2⟩ := h.get (List.getElem?_eq_getElem q)
      exact ⟨v, h1, h2⟩
    · rw [if_neg q, List.getElem?_replicate]
      split <;> trivial
theorem fn_okP {P : Program} {w : World} {K : PySem.W.Frag} {mg : Str → Option Value} {base : Heap} {x qual : Str} {st : Stmt} {f : Addr} {fd : FuncData} {N ps : List Str} {k : Nat} {b : PSv} (Fn : Fun K x qual st f fd) (Sc : FnScope N ps (defScope st)) (hN : ps.length ≤ N.length)
    (hbody : ∀ (cdv : Value) (A : Around) (outer : List Env) (s : Shared) (H : Hp) (E : XK), Room k (A.deeper (PyProof.Rows.envOfC qual (defScope st) s.heap.objs.size f cdv)) →
      ∃ ξ, JSsp (cxOf (L2.CX P w) P w K mg base N qual (defScope st) f cdv A outer s H E) ξ (fun cls d _ H => E cls d H) cr (defBody st) b) :
    FnOk P w K mg base (L2.CX P w) (k + 1) f fd ps (spP cr ps.length (runDefP N.length b)) := by
  refine Fn.okX Sc (fun vs H Qq E h => ?_) (fun cdv Ar outer s H vs Qq E hr h => ?_)
  · obtain ⟨_, _, _, _, h, _⟩ := h
    exact h
  obtain ⟨ξ, ts, h1, h2⟩ := hbody cdv Ar outer s H E hr
  obtain ⟨F, A, S, xs, hl, so, hv, hne, hok, her⟩ := h
  have un : runDefP N.length b xs S = match b (xs.map PSl.v ++ List.replicate (N.length - xs.length) .un) S with
    | .rt v S => .ok v S
    | .nx _ S => .ok (.d .none) S
    | .err c _ S => .err c S
    | _ => .no := rfl
  refine ⟨ts, h1, h2 _ _ F A S H _ (simP_start so hv (by rw [hl]; exact hN)) (fun z => hne (by rw [un]; simp only [z])) (fun e' S' z σ' F' A' H' s' g => ?_) (fun v S' z u F' A' H' o g r => ?_) (fun e' S' z => ?_) (fun e' S' z => ?_) fun c e' S' z σ' F' A' H' s' g => ?_⟩
  · exact hok (.d .none) S' (by rw [un]; simp only [z]) .non F' A' H' s'.so g (.d .non)
  · exact hok v S' (by rw [un]; simp only [z]) u F' A' H' o g r
  · exact absurd (by rw [un]; simp only [z]) hne
  · exact absurd (by rw [un]; simp only [z]) hne
  · exact her c S' (by rw [un]; simp only [z]) F' A' H' s'.so g
/-! errors -/
theorem jsp_raise {x m : Str} {C : Addr} {c j : Nat} {p p2 pos' : Pos} (hc : X.calm = true) (tk : Takes X W) (h : ExcAt X x C) (hcr : cr c = .ref C) (hg : Gl X x) (hdb : (x == ("__debug__" : Str)) = false := by decide) : JSp X ξ W cr (.Raise (some (.Call (.Name x p) [.Constant (.str m) j p2] [] pos')) none pos) (errSP c) :=
  ⟨_, ps_raise hc tk (pmk_own PySem.F.excBase_ValueError h.q h.g h.k (raises_own h.b h.t) hg hdb), fun env σ F A S H De s _ _ _ _ _ er => by
    have := er c env S rfl σ F A H s .refl
    rw [hcr] at this
    exact this⟩
def clrP : PSl → PSl
  | .x _ => .un
  | s => s
def clrRP : PRS → PRS
  | .nx e S => .nx (e.map clrP) S
  | .bk e S => .bk (e.map clrP) S
  | .ct e S => .ct (e.map clrP) S
  | .rt v S => .rt v S
  | _ => .no
def handP : List (List Bool × PSv) → Nat → PSv
  | [], c => fun e S => .err c e S
  | (l, s) :: r, c => fun e S => match l[c]? with
    | some true => clrRP (s (e.map clrP) S)
    | some false => handP r c e S
    | none => .no
def trySP (b : PSv) (hs : List (List Bool × PSv)) : PSv := fun env S => match b env S with
  | .err c e S => handP hs c e S
  | r => r
theorem pgt_clr (e : PEn) (i : Nat) : pgt (e.map clrP) i = clrP (pgt e i) := by
  unfold pgt
  simp only [List.getD_eq_getElem?_getD, List.getElem?_map]
  cases e[i]? <;> rfl
theorem simP_clr {ξ' : Addr × Nat} (s : SimP ξ env σ F A S H) : SimP ξ' (env.map clrP) σ F A S H := by
  refine ⟨s.so, by rw [List.length_map]; exact s.len, fun i => ?_⟩
  rw [pgt_clr]
  have q := s.sl i
  cases hs : pgt env i with
  | x c => trivial
  | un => trivial
  | v x => rw [hs] at q; exact q
def tsXP (cr : Nat → Value) (s : PSv) : Addr → Value → Option Addr → TS := fun a cls d De σ H => ∃ c, cls = cr c ∧ d = none ∧ tsOfP (a, c) W0 cr s De σ H
def HJp (X : Cx) (cr : Nat → Value) (b₀ : Stmt) (suite : List Stmt) (s : PSv) : Prop := ∀ (a : Addr) (oe : Obj) (c : Nat) (pn : List (Addr × Obj)), Zc (cr c) none oe → (∃ vs, oe.data = .fields vs) → JSsp (X.suite a ((a, oe) :: pn)) (a, c) W0 cr (b₀ :: suite) s
theorem HJp.ps {b₀ : Stmt} {suite : List Stmt} {s : PSv} (h : HJp X cr b₀ suite s) : ∀ (a : Addr) (oe : Obj) (cls : Value) (d : Option Addr) (pn : List (Addr × Obj)), Zc cls d oe → (∃ vs, oe.data = .fields vs) → PSs (X.suite a ((a, oe) :: pn)) (b₀ :: suite) (tsXP cr s a cls d) := fun a oe cls d pn hz hf => ⟨fun pins s' σ H De I ⟨c, e1, e2, q⟩ => by
  subst e1; subst e2
  exact (h a oe c pn hz hf).ps.run pins s' σ H De I q⟩
inductive HJsP (X : Cx) (cr : Nat → Value) : List ExceptHandler → List (Value × List Bool × PSv) → Prop
  | nil : HJsP X cr [] []
  | cons {x : Str} {hv : Value} {l : List Bool} {s : PSv} {b₀ : Stmt} {suite : List Stmt} {np pos' : Pos} {hds : List ExceptHandler} {r : List (Value × List Bool × PSv)} (hc : Names X x hv) (hl : ∀ c b, l[c]? = some b → PySem.W.exmOne X.K (cr c) hv = some b)
      (h : HJp X cr b₀ suite s) (hr : HJsP X cr hds r) : HJsP X cr (.ExceptHandler (some (.Name x np)) none (b₀ :: suite) pos' :: hds) ((hv, l, s) :: r)
theorem HJsP.ok : ∀ {hds : List ExceptHandler} {r : List (Value × List Bool × PSv)}, HJsP X cr hds r → HdsOk X hds (r.map fun p => (p.1, tsXP cr p.2.2))
  | _, _, .nil => .nil
  | _, _, .cons hc _ h hr => .cons hc h.ps hr.ok
theorem handP_ok {c : Nat} {e : PEn} {σ' : St} (s : SimP ξ e σ' F' A' S' H') (g : Gp F A H F' A' H') : ∀ {hds : List ExceptHandler} {r : List (Value × List Bool × PSv)}, HJsP X cr hds r → handP (r.map (·.2)) c e S' ≠ .no →
    (∀ e' S2, handP (r.map (·.2)) c e S' = .nx e' S2 → ∀ σ' F' A' H', SimP ξ e' σ' F' A' S2 H' → Gp F A H F' A' H' → De.nx σ' H') →
    (∀ v S2, handP (r.map (·.2)) c e S' = .rt v S2 → ∀ u F' A' H', StoOk F' A' S2 H' → Gp F A H F' A' H' → Vr F' A' u v → De.rt u H') →
    (∀ e' S2, handP (r.map (·.2)) c e S' = .bk e' S2 → ∀ σ' F' A' H', SimP ξ e' σ' F' A' S2 H' → Gp F A H F' A' H' → De.bk σ' H') →
    (∀ e' S2, handP (r.map (·.2)) c e S' = .ct e' S2 → ∀ σ' F' A' H', SimP ξ e' σ' F' A' S2 H' → Gp F A H F' A' H' → De.ct σ' H') →
    (∀ c' e' S2, handP (r.map (·.2)) c e S' = .err c' e' S2 → ∀ σ' F' A' H', SimP ξ e' σ' F' A' S2 H' → Gp F A H F' A' H' → W (cr c') none σ' H') →
    wMany X.K W De (r.map fun p => (p.1, tsXP cr p.2.2)) (cr c) none σ' H'
  | _, _, .nil, ne, nx, rt, bk, ct, er => er c e S' rfl σ' F' A' H' s g
  | _, _, .cons (hv := hv) (l := l) (s := sv) (r := r) hc hl h hr, ne, nx, rt, bk, ct, er => by
    have un : handP (((hv, l, sv) :: r).map (·.2)) c e S' = match l[c]? with
      | some true => clrRP (sv (e.map clrP) S')
      | some false => handP (r.map (·.2)) c e S'
      | none => .no := rfl
    cases hq : l[c]? with
    | none => exact absurd (by rw [un]; simp only [hq]) ne
    | some b =>
      refine ⟨b, hl c b hq, fun hb a ha => ?_, fun hb => ?_⟩
      · subst hb
        simp only [hq] at un
        refine ⟨c, rfl, rfl, e.map clrP, F', A', S', simP_clr s, fun z => ne (by rw [un, show sv (e.map clrP) S' = _ from z]; rfl), fun e' S2 h1 σ2 F2 A2 H2 s2 g2 => ?_, fun v S2 h1 u F2 A2 H2 o2 g2 rr => ?_, fun e' S2 h1 σ2 F2 A2 H2 s2 g2 => ?_, fun e' S2 h1 σ2 F2 A2 H2 s2 g2 => ?_, fun c' e' S2 h1 => ?_⟩
        · exact nx (e'.map clrP) S2 (by rw [un, show sv (e.map clrP) S' = _ from h1]; rfl) σ2 F2 A2 H2 (simP_clr s2) (g.trans g2)
        · exact rt v S2 (by rw [un, show sv (e.map clrP) S' = _ from h1]; rfl) u F2 A2 H2 o2 (g.trans g2) rr
        · exact bk (e'.map clrP) S2 (by rw [un, show sv (e.map clrP) S' = _ from h1]; rfl) σ2 F2 A2 H2 (simP_clr s2) (g.trans g2)
        · exact ct (e'.map clrP) S2 (by rw [un, show sv (e.map clrP) S' = _ from h1]; rfl) σ2 F2 A2 H2 (simP_clr s2) (g.trans g2)
        · exact absurd (by rw [un, show sv (e.map clrP) S' = _ from h1]; rfl) ne
      · subst hb
        simp only [hq] at un
        exact handP_ok s g hr (by rw [← un]; exact ne) (fun e' S2 z => nx e' S2 (un.trans z)) (fun v S2 z => rt v S2 (un.trans z)) (fun e' S2 z => bk e' S2 (un.trans z)) (fun e' S2 z => ct e' S2 (un.trans z)) fun c' e' S2 z => er c' e' S2 (un.trans z)
theorem jsp_try {body : List Stmt} {h₀ : ExceptHandler} {hds : List ExceptHandler} {b : PSv} {r : List (Value × List Bool × PSv)} (hs : X.stack = X.env :: X.outer) (hf : X.env.frame = some X.env.locals) (tk : Takes X W)
    (hb : ∀ (W : WX) (pn : List (Addr × Obj)) (xe : Value → Shared → Prop), Takes (X.tr pn xe) W → PassesOwn (model X.prog X.w) X.A X.env xe → JSsp (X.tr pn xe) ξ W cr body b) (hh : HJsP X cr (h₀ :: hds) r) : JSp X ξ W cr (.Try body (h₀ :: hds) [] [] pos) (trySP b (r.map (·.2))) := by
  refine ⟨_, ps_try_many (tb := fun W => tsOfP ξ W cr b) hs hf tk (fun W pn xe t p => (hb W pn xe t p).ps) hh.ok, fun env σ F A S H De s ne nx rt bk ct er => ?_⟩
  have un : trySP b (r.map (·.2)) env S = match b env S with
    | .err c e S => handP (r.map (·.2)) c e S
    | r => r := rfl
  refine ⟨env, F, A, S, s, fun z => ne (by rw [un, z]), fun e' S' h1 => nx e' S' (by rw [un, h1]), fun v S' h1 => rt v S' (by rw [un, h1]), fun e' S' h1 => bk e' S' (by rw [un, h1]), fun e' S' h1 => ct e' S' (by rw [un, h1]), fun c e' S' h1 σ' F' A' H' s' g => ?_⟩
  have un2 : trySP b (r.map (·.2)) env S = handP (r.map (·.2)) c e' S' := by rw [un, h1]
  exact handP_ok s' g hh (by rw [← un2]; exact ne) (fun e' S2 z => nx e' S2 (un2.trans z)) (fun v S2 z => rt v S2 (un2.trans z)) (fun e' S2 z => bk e' S2 (un2.trans z)) (fun e' S2 z => ct e' S2 (un2.trans z)) fun c' e' S2 z => er c' e' S2 (un2.trans z)
end
/-! ### the end, for laws whose own def is read so -/
theorem law_spP {K : PySem.W.Frag} (hK : noList K = true) {cr : Nat → Value} {m : PFv} {H : Hp} {a : Addr} {ns : List Int} {S' : Sto} (h : SqL K H a (ns.map V.int)) (hm : m [.d (.list (ns.map PyData.int))] [] = .ok (.d (.bool true)) S') : spP cr 1 m [.ref a] H (fun v _ => v = .bl true) fun _ _ _ => False :=
  ⟨H, [], [], [.d (.list (ns.map PyData.int))], rfl, ⟨.refl _, List.nodup_nil, rfl, fun n a xs h => by simp at h⟩, .cons (.d (.lst (noList_of hK h) (ints_rpAll H ns))) .nil, (fun z => by rw [hm] at z; cases z), (fun v S2 z u F' A' H' o g r => by
    rw [hm] at z; cases z
    exact vr_bool r), (fun c S2 z => by rw [hm] at z; cases z)⟩
def spLP (m : PFv) : Sp := fun vs H Qq E => ∀ cr, spP cr 1 m vs H Qq E
theorem walk_finP {l : PySem.W.OpenLaw} {k : Nat} {q : Program} {loose : List Str} {XP : (Str → Option Value) → Heap → Prop} {YP : World → Heap → Prop} {d : PySem.DefRec} {K : Params → PySem.W.Frag} {m : PFv} {x : Str}
    (hn : l.most = some 63) (hdf : d.params.defaults = []) (hr : Room k callerA) (hY : ∀ (w : World) (h : Heap), YP w h → (K w.params).In h) (hK : ∀ p : Params, noList (K p) = true)
    (F : ∀ (w : World) (mg : Str → Option Value) (fa : Addr) (h : Heap), (K w.params).In h → h.Ns mainGlobals mg → mg d.name = some (.ref fa) →  -- q
      ∃ fd : FuncData, (∀ (s : Shared) (u : Value), BindsTo s fd ⟨[u], []⟩ [(x, u)]) ∧ ∀ base : Heap, (K w.params).In base → base.Ns mainGlobals mg → ∃ cr, FnOk l.prog w (K w.params) mg base (L2.CX l.prog w) k fa fd [x] (spP cr 1 m))
    (hm : ∀ ns : List Int, ns.length ≤ 63 → (∀ z ∈ ns, Builtin.Int.intBits z ≤ 1048576) → ∃ S', m [.d (.list (ns.map PyData.int))] [] = .ok (.d (.bool true)) S') : PySem.W.WalkO q loose XP YP l.row.toRowW d [] (fun f vs => PySem.call f vs) := by
  refine L2.walk_ofB (n := 63) (x := x) (CX := fun w => L2.CX l.prog w) (sp := fun _ => spLP m) hn (by decide) hdf hr hY (fun w mg fa h KX G hmg => ?_) (fun w H a ns hl hb _ hS cr => ?_) (fun w H s e s' h => ?_)
  · obtain ⟨fd, h1, h2⟩ := F w mg fa h KX G hmg
    refine ⟨fd, h1, fun base hb hns => ?_⟩
    obtain ⟨cr, h3⟩ := h2 base hb hns
    exact h3.imp fun vs H Qq E z => z cr
  · obtain ⟨S', hS'⟩ := hm ns hl hb
    exact law_spP (hK w.params) hS hS'
  · obtain ⟨_, _, _, _, _, _, _, _, _, _, _, _, z⟩ := h
    exact z
end
end Q
namespace Q
noncomputable section
open PySem L2
/-! ### a, b = b, a -/
section
variable {X : Cx} {ξ : Addr × Nat} {W : WX} {cr : Nat → Value} {pos : Pos} {a b : Expr} {fa fb : Ev} {ga gb : PEv}
def parS (i j : Nat) (fa fb : Ev) : Sv := fun env => match args [(true, fa), (true, fb)] env with
  | .ok [x, y] e => .nx ((e.set i (.v x.d)).set j (.v y.d))
  | .ok _ _ => .no
  | .err c e => .err c e
  | .no => .no
theorem js_par (i j : Nat) {x y : Str} {px py pt pt2 : Pos} {kt k2 : Nat} (hc : X.calm = true) (hN : X.N.Nodup) (hi : X.N[i]? = some x) (hj : X.N[j]? = some y) (hij : i ≠ j) (hx : X.env.scope.names.lookup x = some .local) (hy : X.env.scope.names.lookup y = some .local)
    (ha : JA X ξ W cr [a, b] (args [(true, fa), (true, fb)])) (hw : swappedStores [.Tuple [.Name x px, .Name y py] kt pt] (.Tuple [a, b] k2 pt2) X.env = pure (some [x, y]))
    (hs : swapsWithSole [.Tuple [.Name x px, .Name y py] kt pt] (.Tuple [a, b] k2 pt2) pos.line X.env = pure false := by rfl) : JS X ξ W cr (.Assign [.Tuple [.Name x px, .Name y py] kt pt] (.Tuple [a, b] k2 pt2) pos) (parS i j fa fb) := by
  obtain ⟨ta, a1, a2, a3⟩ := ha
  refine ⟨_, ps_par hc hN hi hj hij hx hy a1 hw hs, fun F0 H0 env σ F H De s ne nx rt bk ct er => ?_⟩
  have un : parS i j fa fb env = match args [(true, fa), (true, fb)] env with
    | .ok [x, y] e => .nx ((e.set i (.v x.d)).set j (.v y.d))
    | .ok _ _ => .no
    | .err c e => .err c e
    | .no => .no := rfl
  refine a2 F0 H0 env σ F H _ s (fun z => ne (by rw [un, z])) (fun as e1 h1 vs F1 H1 s1 f1 g1 b1 => ?_) fun c e1 h1 F1 H1 s1 => er c e1 (by rw [un, h1]) σ F1 H1 s1
  have hl := args_len h1
  have hall := all_s (fs := [fa, fb]) h1
  match as, hl, b1, hall, h1 with
  | [u, w], _, b1, hall, h1 =>
    obtain ⟨d, rfl⟩ := hall u List.mem_cons_self
    obtain ⟨d', rfl⟩ := hall w (List.mem_cons_of_mem _ List.mem_cons_self)
    cases b1 with
    | cons r1 b2 =>
      cases b2 with
      | cons r2 b3 =>
        cases b3
        refine ⟨_, _, rfl, nx _ (by rw [un, h1]) _ F1 H1 ?_ f1⟩
        exact sim_put (x := .v d') (sim_put (x := .v d) s1 i ⟨_, rfl, r1⟩ fun z => by cases z) j ⟨_, rfl, r2⟩ fun z => by cases z
@[simp] theorem parS_s {i j : Nat} {env : En} : parS i j fa fb env = match args [(true, fa), (true, fb)] env with
  | .ok [x, y] e => .nx ((e.set i (.v x.d)).set j (.v y.d))
  | .ok _ _ => .no
  | .err c e => .err c e
  | .no => .no := rfl
def parSP (i j : Nat) (fs : List PEv) : PSv := fun env S => ofR env (argsP fs env S) fun xs S => match xs with
  | [x, y] => .nx ((env.set i (.v x)).set j (.v y)) S
  | _ => .no
theorem jsp_par (i j : Nat) {x y : Str} {px py pt pt2 : Pos} {kt k2 : Nat} {fs : List PEv} (hc : X.calm = true) (hN : X.N.Nodup) (hi : X.N[i]? = some x) (hj : X.N[j]? = some y) (hij : i ≠ j) (hx : X.env.scope.names.lookup x = some .local) (hy : X.env.scope.names.lookup y = some .local)
    (ha : JAp X ξ W cr [a, b] (argsP fs)) (hw : swappedStores [.Tuple [.Name x px, .Name y py] kt pt] (.Tuple [a, b] k2 pt2) X.env = pure (some [x, y]))
    (hs : swapsWithSole [.Tuple [.Name x px, .Name y py] kt pt] (.Tuple [a, b] k2 pt2) pos.line X.env = pure false := by rfl) : JSp X ξ W cr (.Assign [.Tuple [.Name x px, .Name y py] kt pt] (.Tuple [a, b] k2 pt2) pos) (parSP i j fs) := by
  obtain ⟨ta, a1, a2⟩ := ha
  refine ⟨_, ps_par hc hN hi hj hij hx hy a1 hw hs, fun env σ F A S H De s ne nx rt bk ct er => ?_⟩
  refine st_bind (k := fun xs S => match xs with
    | [x, y] => .nx ((env.set i (.v x)).set j (.v y)) S
    | _ => .no) a2 s (rfl : parSP i j fs env S = _) ne (fun xs S1 h1 us F1 A1 H1 s1 g1 r1 => ?_) fun c S1 h1 F1 A1 H1 s1 g1 => er c env S1 h1 σ F1 A1 H1 s1 g1
  match xs, r1, h1 with
  | [u, w], r1, h1 =>
    cases r1 with
    | cons q1 b2 =>
      cases b2 with
      | cons q2 b3 =>
        cases b3
        exact ⟨_, _, rfl, nx _ S1 h1 _ F1 A1 H1 (simP_put (simP_put s1 i (x := .v u) ⟨_, rfl, q1⟩) j (x := .v w) ⟨_, rfl, q2⟩) g1⟩
  | [], r1, h1 => exact absurd h1 ne
  | [_], r1, h1 => exact absurd h1 ne
  | _ :: _ :: _ :: _, r1, h1 => exact absurd h1 ne
end
/-! ### reckoning with the second reading -/
section
variable {α γ : Type} {S S' : Sto} {env : PEn} {e : PEn} {i : Nat} {x y : PV} {xs : List PV} {d : D} {f g fa fb fc : PEv}
@[simp] theorem pgt_0 {x : PSl} {e : PEn} : pgt (x :: e) 0 = x := rfl
@[simp] theorem pgt_1 {x y : PSl} {e : PEn} : pgt (x :: y :: e) 1 = y := rfl
@[simp] theorem pgt_S {x : PSl} {e : PEn} {i : Nat} : pgt (x :: e) (i + 1) = pgt e i := rfl
@[simp] theorem bindP_ok {a : α} {k : α → Sto → PR γ} : bindP (.ok a S) k = k a S := rfl
@[simp] theorem bindP_err {c : Nat} {k : α → Sto → PR γ} : bindP (.err c S) k = .err c S := rfl
@[simp] theorem ofR_ok {a : α} {k : α → Sto → PRS} : ofR env (.ok a S) k = k a S := rfl
@[simp] theorem ofR_err {c : Nat} {k : α → Sto → PRS} : ofR env (.err c S) k = .err c env S := rfl
@[simp] theorem varP_s : varP i env S = match pgt env i with
  | .v x => .ok x S
  | _ => .no := rfl
@[simp] theorem cP_s : cP d env S = .ok (.d d) S := rfl
@[simp] theorem stepP_s {p : PV × Sto} : stepP (some p) = .ok p.1 p.2 := rfl
@[simp] theorem op1P_s {g : PV → Sto → Option (PV × Sto)} : op1P g fa env S = bindP (fa env S) fun x S => stepP (g x S) := rfl
@[simp] theorem op2P_s {g : PV → PV → Sto → Option (PV × Sto)} : op2P g fa fb env S = bindP (fa env S) fun x S => bindP (fb env S) fun y S => stepP (g x y S) := rfl
@[simp] theorem retV_v {d : D} : retV (some (.v d)) S = some (.d d, S) := rfl
@[simp] theorem retV_f {ds : List D} : retV (some (.f ds)) S = some (.r S.length, S ++ [ds.map PV.d]) := rfl
@[simp] theorem ct_d : ct S (.d d) = some d := by simp [ct, toD0]
@[simp] theorem ct_t : ct S (.t xs) = (toD0s xs).map PyData.tuple := by simp [ct, toD0]
@[simp] theorem toD0_d : toD0 (.d d) = some d := by simp [toD0]
@[simp] theorem toD0_t : toD0 (.t xs) = (toD0s xs).map PyData.tuple := by simp [toD0]
@[simp] theorem toD0s_n : toD0s [] = some [] := by simp [toD0s]
@[simp] theorem toD0s_c : toD0s (x :: xs) = (toD0 x).bind fun d => (toD0s xs).map (d :: ·) := by simp [toD0s]
theorem toD0s_map : ∀ ds : List D, toD0s (ds.map PV.d) = some ds
  | [] => toD0s_n
  | d :: ds => by rw [List.map_cons, toD0s_c, toD0_d, toD0s_map ds]; rfl
theorem ct_r {n : Nat} {ds : List D} (h : S[n]? = some (ds.map PV.d)) : ct S (.r n) = some (.list ds) := by
  show ((S[n]?).bind fun xs => (toD0s xs).map PyData.list) = _
  rw [h, Option.bind_some, toD0s_map]; rfl
theorem lift1_s {g : D → Option Vl} (h : ct S x = some d) : lift1 g x S = retV (g d) S := by unfold lift1; rw [h]
theorem lift2_s {g : D → D → Option Vl} {d d' : D} (h : ct S x = some d) (h' : ct S y = some d') : lift2 g x y S = retV (g d d') S := by unfold lift2; rw [h, h']
@[simp] theorem lift1_d {g : D → Option Vl} : lift1 g (.d d) S = retV (g d) S := lift1_s ct_d
@[simp] theorem lift2_d {g : D → D → Option Vl} {d d' : D} : lift2 g (.d d) (.d d') S = retV (g d d') S := lift2_s ct_d ct_d
@[simp] theorem toTP_s : toTP f env S = bindP (f env S) fun x S => match x with
  | .d (.bool b) => .ok b S
  | _ => .no := rfl
@[simp] theorem notTP_s {f : PTv} : notTP f env S = bindP (f env S) fun b S => .ok (!b) S := rfl
@[simp] theorem andTP_s {f g : PTv} : andTP f g env S = bindP (f env S) fun b S => if b = true then g env S else .ok false S := rfl
@[simp] theorem orTP_s {f g : PTv} : orTP f g env S = bindP (f env S) fun b S => if b = true then .ok true S else g env S := rfl
@[simp] theorem notP_s : notP f env S = bindP (toTP f env S) fun b S => .ok (.d (.bool (!b))) S := rfl
@[simp] theorem andP_s : andP f g env S = bindP (toTP f env S) fun b S => if b = true then g env S else .ok (.d (.bool false)) S := rfl
@[simp] theorem orP_s : orP f g env S = bindP (toTP f env S) fun b S => if b = true then .ok (.d (.bool true)) S else g env S := rfl
@[simp] theorem ifP_s {c : PTv} : ifP c f g env S = bindP (c env S) fun b S => if b = true then f env S else g env S := rfl
@[simp] theorem argsP_n : argsP [] env S = .ok [] S := rfl
@[simp] theorem argsP_c {fs : List PEv} : argsP (f :: fs) env S = bindP (f env S) fun x S => bindP (argsP fs env S) fun xs S => .ok (x :: xs) S := rfl
@[simp] theorem tupP_s {fs : List PEv} : tupP fs env S = bindP (argsP fs env S) fun xs S => .ok (.t xs) S := rfl
@[simp] theorem lstP_s {fs : List PEv} : lstP fs env S = bindP (argsP fs env S) fun xs S => .ok (.r S.length) (S ++ [xs]) := rfl
@[simp] theorem opNP_s {g : List PV → Sto → Option (PV × Sto)} {fs : List PEv} : opNP g fs env S = bindP (argsP fs env S) fun xs S => stepP (g xs S) := rfl
@[simp] theorem elL_r {n : Nat} : elL S (.r n) = S[n]? := rfl
@[simp] theorem elL_d {ds : List D} : elL S (.d (.list ds)) = some (ds.map PV.d) := rfl
@[simp] theorem elL_i {k : Int} : elL S (.d (.int k)) = none := rfl
@[simp] theorem elL_dt {ds : List D} : elL S (.d (.tuple ds)) = none := rfl
@[simp] theorem elL_t : elL S (.t xs) = none := rfl
@[simp] theorem elT_t : elT (.t xs) = some xs := rfl
@[simp] theorem elT_d {ds : List D} : elT (.d (.tuple ds)) = some (ds.map PV.d) := rfl
@[simp] theorem elT_r {n : Nat} : elT (.r n) = none := rfl
@[simp] theorem elT_dl {ds : List D} : elT (.d (.list ds)) = none := rfl
theorem ixP_l {k : Int} {z : PV} (h : elL S x = some xs) (h' : atI xs k = some z) : ixP x (.d (.int k)) S = some (z, S) := by
  simp only [ixP, h, h']; rfl
theorem ixP_t {k : Int} {z : PV} (h : elL S x = none) (h2 : elT x = some xs) (h' : atI xs k = some z) : ixP x (.d (.int k)) S = some (z, S) := by
  simp only [ixP, h, h2, h']; rfl
@[simp] theorem ixP_t0 : ixP (.t (x :: xs)) (.d (.int 0)) S = some (x, S) := ixP_t rfl rfl (atI_at (by decide) rfl)
@[simp] theorem ixP_t1 : ixP (.t (y :: x :: xs)) (.d (.int 1)) S = some (x, S) := ixP_t rfl rfl (atI_at (by decide) rfl)
theorem addP_l {ys : List PV} (h : elL S x = some xs) (h' : elL S y = some ys) (hl : xs.length + ys.length ≤ 1000000) : addP x y S = some (.r S.length, S ++ [xs ++ ys]) := by
  unfold addP
  rw [h, h']
  show (if xs.length + ys.length ≤ LIM then _ else _) = _
  rw [if_pos (Nat.le_trans hl (by decide))]
@[simp] theorem addP_i {k j : Int} : addP (.d (.int k)) (.d (.int j)) S = some (.d (.int (k + j)), S) := by
  unfold addP
  simp
theorem lenP_l (h : elL S x = some xs) : lenP [x] S = some (.d (.int xs.length), S) := by simp only [lenP, h]
theorem lenP_t (h : elL S x = none) (h' : elT x = some xs) : lenP [x] S = some (.d (.int xs.length), S) := by simp only [lenP, h, h']
theorem listP_l (h : elL S x = some xs) : listP [x] S = some (.r S.length, S ++ [xs]) := by simp only [listP, h]
theorem listP_t (h : elL S x = none) (h' : elT x = some xs) : listP [x] S = some (.r S.length, S ++ [xs]) := by simp only [listP, h, h']
@[simp] theorem liftN_1 {g : List D → Option Vl} (h : ct S x = some d) : liftN g [x] S = retV (g [d]) S := by simp [liftN, cts, h]
@[simp] theorem liftN_2 {g : List D → Option Vl} {d' : D} (h : ct S x = some d) (h' : ct S y = some d') : liftN g [x, y] S = retV (g [d, d']) S := by simp [liftN, cts, h, h']
theorem sliPV_l {lo hi : Option Int} (h : elL S x = some xs) : sliPV x lo hi S = some (.r S.length, S ++ [cutP xs lo hi]) := by simp only [sliPV, h]
@[simp] theorem sliP_s {lo hi : Option PEv} : sliP f lo hi env S = bindP (f env S) fun x S => bindP (optP lo env S) fun l S => bindP (optP hi env S) fun h S => stepP (sliPV x l h S) := rfl
@[simp] theorem optP_n : optP none env S = .ok none S := rfl
@[simp] theorem optP_s : optP (some f) env S = bindP (f env S) fun x S => match x with
    | .d (.int i) => .ok (some i) S
    | _ => .no := rfl
theorem cutP_map {ds : List D} {lo hi : Option Int} : cutP (ds.map PV.d) lo hi = (cutD ds lo hi).map PV.d := by
  unfold cutP cutD
  rw [List.length_map, List.map_take, List.map_drop]
@[simp] theorem isiP_s {T : String} : isiP T f env S = bindP (f env S) fun x S => .ok (.d (.bool (isiPV T x))) S := rfl
@[simp] theorem callQ_s {m : Fv} {ms : List Bool} {fs : List PEv} : callQ m ms fs env S = bindP (argsP fs env S) fun xs S => match slQ S (ms.zip xs) with
  | some sl => match m sl with
    | .ok vl => stepP (retV (some vl) S)
    | .err c => .err c S
    | .no => .no
  | none => .no := rfl
@[simp] theorem callP_s {m : PFv} {fs : List PEv} : callP m fs env S = bindP (argsP fs env S) fun xs S => m xs S := rfl
@[simp] theorem slQ_n : slQ S [] = some [] := rfl
theorem slQ_t {r : List (Bool × PV)} {l : List Sl} (h : toD0 x = some d) (h' : slQ S r = some l) : slQ S ((true, x) :: r) = some (.v d :: l) := by simp only [slQ, h, h']
theorem slQ_f {r : List (Bool × PV)} {l : List Sl} (h : ct S x = some d) (h' : slQ S r = some l) : slQ S ((false, x) :: r) = some ((Ar.c d).sl :: l) := by simp only [slQ, h, h']
@[simp] theorem slQ_ti {r : List (Bool × PV)} : slQ S ((true, .d d) :: r) = (slQ S r).map (.v d :: ·) := by
  cases h : slQ S r <;> simp [slQ, h]
@[simp] theorem slQ_fi {r : List (Bool × PV)} : slQ S ((false, .d d) :: r) = (slQ S r).map ((Ar.c d).sl :: ·) := by
  cases h : slQ S r <;> simp [slQ, h]
@[simp] theorem skipSP_s : skipSP e S = .nx e S := rfl
@[simp] theorem bkSP_s : bkSP e S = .bk e S := rfl
@[simp] theorem ctSP_s : ctSP e S = .ct e S := rfl
@[simp] theorem errSP_s {c : Nat} : errSP c e S = .err c e S := rfl
@[simp] theorem seqSP_s {f g : PSv} : seqSP f g env S = match f env S with
  | .nx e S => g e S
  | r => r := rfl
@[simp] theorem asgSP_s : asgSP i f env S = ofR env (f env S) fun x S => .nx (env.set i (.v x)) S := rfl
@[simp] theorem dropSP_s : dropSP f env S = ofR env (f env S) fun _ S => .nx env S := rfl
@[simp] theorem ifSP_s {c : PTv} {f g : PSv} : ifSP c f g env S = ofR env (c env S) fun b S => if b = true then f env S else g env S := rfl
@[simp] theorem retSP_s : retSP f env S = ofR env (f env S) fun x S => .rt x S := rfl
@[simp] theorem appSP_s {fo fe : PEv} : appSP fo fe env S = ofR env (fo env S) fun o S => match o with
  | .r n => ofR env (fe env S) fun x S => match S[n]? with
    | some xs => if xs.length < LIM then .nx env (S.set n (xs ++ [x])) else .no
    | none => .no
  | _ => .no := rfl
@[simp] theorem clrSP_s {fo : PEv} : clrSP fo env S = ofR env (fo env S) fun o S => match o with
  | .r n => .nx env (S.set n [])
  | _ => .no := rfl
@[simp] theorem setSP_s {fo fi fe : PEv} : setSP fo fi fe env S = ofR env (fe env S) fun x S => ofR env (fo env S) fun o S => ofR env (fi env S) fun i S => setStep o i x env S := rfl
theorem setStep_s {n j : Nat} {k : Int} (h : S[n]? = some xs) (h' : ixN xs.length k = some j) : setStep (.r n) (.d (.int k)) x env S = .nx env (S.set n (xs.set j x)) := by simp only [setStep, h, h']
@[simp] theorem unpSP_s {bd : PBv} : unpSP f bd env S = ofR env (f env S) fun x S => match bd x env with
  | some e => .nx e S
  | none => .no := rfl
@[simp] theorem bdNP_s : bdNP i x e = some (e.set i (.v x)) := rfl
@[simp] theorem bdTP_t {bs : List PBv} : bdTP bs (.t xs) e = bdAP bs xs e := rfl
@[simp] theorem bdTP_d {bs : List PBv} {ds : List D} : bdTP bs (.d (.tuple ds)) e = bdAP bs (ds.map PV.d) e := rfl
@[simp] theorem bdAP_n : bdAP [] [] e = some e := rfl
@[simp] theorem bdAP_c {b : PBv} {bs : List PBv} : bdAP (b :: bs) (x :: xs) e = match b x e with
  | some e' => bdAP bs xs e'
  | none => none := rfl
@[simp] theorem forSP_s {src : PIv} {bd : PBv} {b : PSv} : forSP src bd b env S = ofR env (src env S) fun p S => forPL bd b p.2 p.1 env S := rfl
theorem okW_n : okW [] S := fun p h => nomatch h
theorem okW_1 {n : Nat} (h : S[n]? = some xs) : okW [(n, xs)] S := fun p hp => by rw [List.mem_singleton.mp hp]; exact h
theorem forPL_n {bd : PBv} {b : PSv} {w : Wat} (h : okW w S) : forPL bd b w [] e S = .nx e S := by simp only [forPL, if_pos h]
theorem forPL_c {bd : PBv} {b : PSv} {w : Wat} (h : okW w S) : forPL bd b w (x :: xs) e S = match bd x e with
    | some e1 => match b e1 S with
      | .nx e2 S2 => forPL bd b w xs e2 S2
      | .ct e2 S2 => forPL bd b w xs e2 S2
      | .bk e2 S2 => .nx e2 S2
      | r => r
    | none => .no := by
  show (if okW w S then _ else _) = _
  rw [if_pos h]
  all_goals
    cases bd x e with
    | none => rfl
    | some e1 => cases b e1 S <;> rfl
theorem lcPL_n {bd : PBv} {c : PTv} {f : PEv} {w : Wat} {acc : List PV} (h : okW w S) : lcPL bd c f w e [] acc S = .ok acc S := by simp only [lcPL, if_pos h]
theorem lcPL_c {bd : PBv} {c : PTv} {f : PEv} {w : Wat} {acc : List PV} (h : okW w S) : lcPL bd c f w e (x :: xs) acc S = match bd x e with
    | some e1 => bindP (c e1 S) fun b S => if b = true then bindP (f e1 S) fun y S => lcPL bd c f w e xs (acc ++ [y]) S else lcPL bd c f w e xs acc S
    | none => .no := by
  show (if okW w S then _ else _) = _
  rw [if_pos h]
  all_goals
    cases bd x e <;> rfl
@[simp] theorem lcP_s {src : PIv} {bd : PBv} {c : PTv} {f : PEv} {vs : List Nat} : lcP src bd c f vs env S = bindP (src env S) fun p S => if p.1.length ≤ LIM then match lcPL bd c f p.2 (wipeP env vs) p.1 [] S with
    | .ok es S' => .ok (.r S'.length) (S' ++ [es])
    | _ => .no
  else .no := rfl
@[simp] theorem ttP_s : ttP env S = .ok true S := rfl
@[simp] theorem wipeP_n : wipeP e [] = e := rfl
@[simp] theorem wipeP_c {r : List Nat} : wipeP e (i :: r) = (wipeP e r).set i .un := rfl
@[simp] theorem seqP_s : seqP f env S = bindP (f env S) fun x S => match elT x with
  | some xs => .ok (xs, []) S
  | none => match lsP S x with
    | some p => .ok p S
    | none => .no := rfl
theorem lsP_r {n : Nat} (h : S[n]? = some xs) : lsP S (.r n) = some (xs, [(n, xs)]) := by
  show (S[n]?).map _ = _
  rw [h]; rfl
@[simp] theorem lsP_d {ds : List D} : lsP S (.d (.list ds)) = some (ds.map PV.d, []) := rfl
@[simp] theorem itR1P_s : itR1P f env S = bindP (f env S) fun x S => match x with
  | .d (.int j) => if i62 j then .ok (rgP 0 j.toNat, []) S else .no
  | _ => .no := rfl
@[simp] theorem itR2P_s : itR2P f g env S = bindP (f env S) fun x S => bindP (g env S) fun y S => rg2P x y S := rfl
@[simp] theorem rg2P_s {k j : Int} : rg2P (.d (.int k)) (.d (.int j)) S = if i62 k ∧ i62 j then .ok (rgP k (j - k).toNat, []) S else .no := rfl
@[simp] theorem zipP_s : zipP f g env S = bindP (f env S) fun x S => bindP (g env S) fun y S => match lsP S x, lsP S y with
  | some p, some q => .ok (List.zipWith (fun x y => PV.t [x, y]) p.1 q.1, p.2 ++ q.2) S
  | _, _ => .no := rfl
@[simp] theorem runDefP_s {n : Nat} {body : PSv} : runDefP n body xs S = match body (xs.map PSl.v ++ List.replicate (n - xs.length) .un) S with
  | .rt v S => .ok v S
  | .nx _ S => .ok (.d .none) S
  | .err c _ S => .err c S
  | _ => .no := rfl
@[simp] theorem trySP_s {b : PSv} {hs : List (List Bool × PSv)} : trySP b hs env S = match b env S with
  | .err c e S => handP hs c e S
  | r => r := rfl
@[simp] theorem handP_n {c : Nat} : handP [] c e S = .err c e S := rfl
@[simp] theorem handP_c {c : Nat} {l : List Bool} {s : PSv} {r : List (List Bool × PSv)} : handP ((l, s) :: r) c e S = match l[c]? with
    | some true => clrRP (s (e.map clrP) S)
    | some false => handP r c e S
    | none => .no := rfl
@[simp] theorem clrRP_rt {v : PV} : clrRP (.rt v S) = .rt v S := rfl
@[simp] theorem clrP_v : clrP (.v x) = .v x := rfl
@[simp] theorem clrP_un : clrP .un = .un := rfl
@[simp] theorem parSP_s {j : Nat} {fs : List PEv} : parSP i j fs env S = ofR env (argsP fs env S) fun xs S => match xs with
  | [x, y] => .nx ((env.set i (.v x)).set j (.v y)) S
  | _ => .no := rfl
/-! stores that only grew -/
theorem get_app {T : Sto} {n : Nat} (h : S[n]? = some xs) : (S ++ T)[n]? = some xs := by
  have hl : n < S.length := by
    rcases Nat.lt_or_ge n S.length with q | q
    · exact q
    · rw [List.getElem?_eq_none q] at h; cases h
  rw [List.getElem?_append_left hl]; exact h
@[simp] theorem get_new : (S ++ [xs])[S.length]? = some xs := by simp
theorem get_lt {n : Nat} (h : S[n]? = some xs) : n < S.length := by
  rcases Nat.lt_or_ge n S.length with q | q
  · exact q
  · rw [List.getElem?_eq_none q] at h; cases h
theorem get_set_ne {n m : Nat} {ys : List PV} (h : S[n]? = some xs) (hn : m ≠ n) : (S.set m ys)[n]? = some xs := by rw [List.getElem?_set_ne hn]; exact h
theorem get_set {n : Nat} {ys : List PV} (h : S[n]? = some xs) : (S.set n ys)[n]? = some ys := by rw [List.getElem?_set_self (get_lt h)]
theorem nxtP {f g : PSv} {env e1 : PEn} {S S1 : Sto} {r : PRS} (h : f env S = .nx e1 S1) (h2 : g e1 S1 = r) : seqSP f g env S = r := by simp [h, h2]
theorem runP_rt {n : Nat} {b : PSv} {v : PV} (h : b (xs.map PSl.v ++ List.replicate (n - xs.length) .un) S = .rt v S') : runDefP n b xs S = .ok v S' := by simp [h]
theorem runP_er {n : Nat} {b : PSv} {c : Nat} {e : PEn} (h : b (xs.map PSl.v ++ List.replicate (n - xs.length) .un) S = .err c e S') : runDefP n b xs S = .err c S' := by simp [h]
end
end
end Q
namespace Q
noncomputable section
open PySem L2
/-! ### new lists that nobody will change: they come to stand still at once -/
def retZ : Option Vl → Sto → Option (PV × Sto)
  | some (.v d), S => some (.d d, S)
  | some (.f ds), S => some (.d (.list ds), S)
  | _, _ => none
section
variable {X : Cx} {ξ : Addr × Nat} {W : WX} {cr : Nat → Value} {F H F' H' F1 H1 : Hp} {A A' A1 : List Addr} {S S' : Sto} {env : PEn} {σ : St} {pos : Pos} {a b c e o : Expr} {es : List Expr} {fa fb fc f g : PEv} {fs : List PEv}
/-- a new cell, no place of the store, stands still from now on -/
theorem StoOk.keep (s : StoOk F A S H) {p : Addr} {vs : List V} {ds : List D} (h1 : F p = none) (h2 : H p = some (.lst vs)) (h3 : p ∉ A) (h4 : RpAll F vs ds) : StoOk (upd F p (.lst vs)) A S H ∧ Same F (upd F p (.lst vs)) ∧ Vr (upd F p (.lst vs)) A (.ref p) (.d (.list ds)) := by
  have sf : Same F (upd F p (.lst vs)) := same_new h1
  refine ⟨⟨fun b u hb => ?_, s.nd, s.len, fun n a xs ha hx => ?_⟩, sf, .d (.lst (Rd.of upd_same) (RpAll.mono sf h4))⟩
  · by_cases h : b = p
    · subst h; rw [upd_same] at hb; cases hb; exact h2
    · rw [upd_ne h] at hb; exact s.fh b u hb
  · obtain ⟨q1, ws, q2, q3⟩ := s.cell n a xs ha hx
    exact ⟨by rw [upd_ne (fun z => h3 (by rw [← z]; exact List.mem_of_getElem? ha))]; exact q1, ws, q2, VrAll.monoF sf q3⟩
theorem Gp.keep (g : Gp F A H F' A' H') {p : Addr} {o : HO} (h0 : F' p = none) (h1 : H p = none) : Gp F A H (upd F' p o) A' H' :=
  ⟨g.f.trans (same_new h0), g.a, g.h, g.new, fun b u hb => by
    by_cases h : b = p
    · subst h; exact .inr (.inl h1)
    · rw [upd_ne h] at hb; exact g.n b u hb⟩
theorem StoOk.resZ (s : StoOk F A S H) {v : V} {vl : Vl} (r : Res F H F' H' v vl) {x : PV} (e : retZ (some vl) S = some (x, S')) : ∃ F2, StoOk F2 A S' H' ∧ Gp F A H F2 A H' ∧ Vr F2 A v x := by
  obtain ⟨g, q⟩ := r
  obtain ⟨s1, g1⟩ := s.grow g
  cases vl with
  | v d =>
    have e' : some (PV.d d, S) = some (x, S') := e
    cases e'
    exact ⟨F', s1, g1, .d q⟩
  | f ds =>
    have e' : some (PV.d (.list ds), S) = some (x, S') := e
    cases e'
    obtain ⟨a, vs, rfl, q1, q2, q3, q4⟩ := q
    have hA : a ∉ A := fun z => by
      obtain ⟨vs, w⟩ := s.in_ z
      rw [q2] at w; cases w
    obtain ⟨k1, k2, k3⟩ := s1.keep q1 q3 hA q4
    exact ⟨_, k1, g1.keep q1 q2, k3⟩
  | a i => cases e
  | ft => cases e
theorem retZ_some {o : Option Vl} {v : PV} (h : retZ o S = some (v, S')) : ∃ vl, o = some vl := by
  cases o with
  | none => cases h
  | some vl => exact ⟨vl, rfl⟩
def liftZ2 (g : D → D → Option Vl) (x y : PV) (S : Sto) : Option (PV × Sto) := match ct S x, ct S y with
  | some d, some e => retZ (g d e) S
  | _, _ => none
theorem op2_liftZ {r : R2} {g : D → D → Option Vl} (h : Op2 r g) : Op2p r (liftZ2 g) := fun F A S H u w x y v S' Qq s hx hy e q => by
  unfold liftZ2 at e
  cases hc : ct S x with
  | none => rw [hc] at e; cases e
  | some d =>
    cases hc2 : ct S y with
    | none => rw [hc, hc2] at e; cases e
    | some d' =>
      rw [hc, hc2] at e
      have e' : retZ (g d d') S = some (v, S') := e
      obtain ⟨vl, hv⟩ := retZ_some e'
      rw [hv] at e'
      refine h F H u w d d' vl Qq s.fh (ct_cont s hx hc) (ct_cont s hy hc2) hv fun z F' H' res => ?_
      obtain ⟨F2, o, gp, r⟩ := s.resZ res e'
      exact q z F2 A H' o gp r
def liftZN (g : List D → Option Vl) (xs : List PV) (S : Sto) : Option (PV × Sto) := match cts S xs with
  | some ds => retZ (g ds) S
  | none => none
theorem opN_liftZ {r : List V → Hp → VK → Prop} {g : List D → Option Vl} (h : OpN r g) : OpNp r (liftZN g) := fun F A S H us xs v S' Qq s hx e q => by
  unfold liftZN at e
  cases hc : cts S xs with
  | none => rw [hc] at e; cases e
  | some ds =>
    rw [hc] at e
    have e : retZ (g ds) S = some (v, S') := e
    obtain ⟨vl, hv⟩ := retZ_some e
    rw [hv] at e
    have em : (ds.map Ar.c).map Ar.d = ds := by rw [List.map_map]; exact List.map_id _
    refine h F H us (ds.map Ar.c) vl Qq s.fh (cts_ok s hx hc) (fun a ha => by
      obtain ⟨d, _, rfl⟩ := List.mem_map.mp ha
      exact ⟨d, rfl⟩) (by rw [em]; exact hv) fun z F' H' res => ?_
    obtain ⟨F2, o, gp, r⟩ := s.resZ res e
    exact q z F2 A H' o gp r
def sliZV (x : PV) (lo hi : Option Int) (S : Sto) : Option (PV × Sto) := match ct S x with
  | some d => retZ (sliD d lo hi) S
  | none => none
def sliZ (f : PEv) (lo hi : Option PEv) : PEv := fun env S => bindP (f env S) fun x S => bindP (optP lo env S) fun l S => bindP (optP hi env S) fun h S => stepP (sliZV x l h S)
theorem sliZV_ok {K : PySem.W.Frag} {u : V} {x v : PV} {lo hi : Option Int} {Qq : VK} (s : StoOk F A S H) (hx : Vr F A u x) (e : sliZV x lo hi S = some (v, S')) (q : ∀ z F' A' H', StoOk F' A' S' H' → Gp F A H F' A' H' → Vr F' A' z v → Qq z H') : rSlQ K u lo hi H Qq := by
  unfold sliZV at e
  cases hc : ct S x with
  | none => rw [hc] at e; cases e
  | some d =>
    rw [hc] at e
    have e : retZ (sliD d lo hi) S = some (v, S') := e
    obtain ⟨vl, hv⟩ := retZ_some e
    rw [hv] at e
    refine sl_ok s.fh (ct_cont s hx hc) hv fun z F' H' res => ?_
    obtain ⟨F2, o, gp, r⟩ := s.resZ res e
    exact q z F2 A H' o gp r
theorem jez_sli {lo hi : Option Expr} {fl fh : Option PEv} {p2 : Pos} (he : JEp X ξ W cr e f) (hl : JOp X ξ W cr lo fl) (hh : JOp X ξ W cr hi fh) : JEp X ξ W cr (.Subscript e (.Slice lo hi none p2) pos) (sliZ f fl fh) := by
  obtain ⟨te, a1, a2⟩ := he
  obtain ⟨tl, b1, b2⟩ := hl
  obtain ⟨th, c1, c2⟩ := hh
  refine ⟨_, pe_slice sl_Q a1 b1 c1, fun env σ F A S H Qq s ne ok er => ?_⟩
  refine sx_bind (k := fun x S => bindP (optP fl env S) fun l S => bindP (optP fh env S) fun h S => stepP (sliZV x l h S)) a2 s (rfl : sliZ f fl fh env S = _) ne (fun x S1 h1 u F1 A1 H1 s1 g1 r1 => ?_) er
  refine sx_bind (k := fun l S => bindP (optP fh env S) fun h S => stepP (sliZV x l h S)) b2 s1 h1 ne (fun l S2 h2 l' F2 A2 H2 s2 g2 r2 => ?_) fun c S2 h2 F2 A2 H2 o2 g2 => er c S2 h2 F2 A2 H2 o2 (g1.trans g2)
  refine sx_bind (k := fun h S => stepP (sliZV x l h S)) c2 s2 h2 ne (fun h S3 h3 h' F3 A3 H3 s3 g3 r3 => ?_) fun c S3 h3 F3 A3 H3 o3 g3 => er c S3 h3 F3 A3 H3 o3 ((g1.trans g2).trans g3)
  cases r2
  cases r3
  obtain ⟨v, S4, e1, e2⟩ := step_ok h3 ne
  exact sliZV_ok s3.so ((r1.up g2).up g3) e1 fun z F4 A4 H4 o4 g4 r4 => ok v S4 e2 z F4 A4 H4 o4 (((g1.trans g2).trans g3).trans g4) r4
def lstZ (fs : List PEv) : PEv := fun env S => bindP (argsP fs env S) fun xs S => match toD0s xs with
  | some ds => .ok (.d (.list ds)) S
  | none => .no
theorem jez_lst (ha : JAp X ξ W cr es (argsP fs)) (hn : fs.length ≤ 1000 := by decide) : JEp X ξ W cr (.List es pos) (lstZ fs) := by
  obtain ⟨_, a1, a2⟩ := ha
  refine ⟨_, pe_lst a1, fun env σ F A S H Qq s ne ok er => ?_⟩
  refine sx_bindA (k := fun xs S => match toD0s xs with
    | some ds => PR.ok (PV.d (.list ds)) S
    | none => .no) a2 s (rfl : lstZ fs env S = _) ne (fun xs S1 hl h1 us F1 A1 H1 s1 g1 r1 => ⟨by rw [r1.length, hl]; exact Nat.le_trans hn (by decide), fun p hp => ?_⟩) er
  cases hd : toD0s xs with
  | none => rw [hd] at h1; exact absurd h1 ne
  | some ds =>
    rw [hd] at h1
    have rp := r1.rp hd
    obtain ⟨F2, o, gp, r⟩ := s1.so.resZ (Res.lst s1.so.fh hp rp) (x := .d (.list ds)) (S' := S1) rfl
    exact ok _ S1 h1 _ F2 A1 _ o (g1.trans gp) r
def callZ (m : Fv) (ms : List Bool) (fs : List PEv) : PEv := fun env S => bindP (argsP fs env S) fun xs S => match slQ S (ms.zip xs) with
  | some sl => match m sl with
    | .ok vl => stepP (retZ (some vl) S)
    | .err c => .err c S
    | .no => .no
  | none => .no
theorem sx_callZ {m : Fv} {ms : List Bool} {ta : TA} {np : Nat} (ha : SXp VrAll ξ W cr ta (argsP fs)) (hl : fs.length = np) (hm : ms.length = fs.length) : SXp Vr ξ W cr (tCallS (spOf cr np m) (WE W) ta) (callZ m ms fs) := fun env σ F A S H Qq s ne ok er => by
  refine sx_bindA (k := fun xs S => match slQ S (ms.zip xs) with
  | some sl => match m sl with
    | .ok vl => stepP (retZ (some vl) S)
    | .err c => .err c S
    | .no => .no
  | none => .no) ha s rfl ne (fun xs S1 hx h1 us F1 A1 H1 s1 g1 r1 => ?_) er
  cases hs : slQ S1 (ms.zip xs) with
  | none => rw [hs] at h1; exact absurd h1 ne
  | some sl =>
    rw [hs] at h1
    refine ⟨F1, sl, by rw [r1.length, hx]; exact hl, s1.so.fh, slQ_ok s1.so (by rw [hm, hx]) r1 hs, fun z => ?_, fun vl hv v F2 H2 res => ?_, fun c hc H2 g2 => ?_⟩
    · simp only [z] at h1; exact absurd h1 ne
    · simp only [hv] at h1
      obtain ⟨v', S2, e1, e2⟩ := step_ok h1 ne
      obtain ⟨F3, o2, gp, r⟩ := s1.so.resZ res e1
      exact ok v' S2 e2 v F3 A1 H2 o2 (g1.trans gp) r
    · simp only [hc] at h1
      obtain ⟨o, gp⟩ := gr_same s1.so g2
      exact er c S1 h1 F1 A1 H2 o (g1.trans gp)
theorem jez_call {k : Nat} {f : Addr} {fd : FuncData} {ps : List Str} {m : Fv} {ms : List Bool} {x : Str} {p : Pos} (G : FnOk X.prog X.w X.K X.mg X.base (L2.CX X.prog X.w) k f fd ps (spOf cr ps.length m)) (tk : Takes X W) (hr : Room k X.A)
    (hm : X.mg x = some (.ref f)) (hk : PySem.W.keepIn X.K (.ref f) = true) (hb : Binds X.K fd ps []) (hg : Gl X x) (ha : JAp X ξ W cr (e :: es) (argsP fs)) (hl : fs.length = ps.length) (hms : ms.length = fs.length) (hdb : (x == ("__debug__" : Str)) = false := by decide)
    (he : starEach (e :: es) X.env = (false, eval e X.env) :: starEach es X.env := by rfl) (hpl : (backTo pos (starEach es X.env)).any (·.1) = false := by rfl) : JEp X ξ W cr (.Call (.Name x p) (e :: es) [] pos) (callZ m ms fs) := by
  obtain ⟨_, a1, a2⟩ := ha
  exact ⟨_, pe_callS G hr hg hm hk hb (fun σ => passAt tk σ) a1 hdb he hpl, sx_callZ a2 hl hms⟩
/-- a comprehension whose list nobody will change -/
def lcZ (src : PIv) (bd : PBv) (c : PTv) (f : PEv) (vs : List Nat) : PEv := fun env S => bindP (src env S) fun p S => if p.1.length ≤ LIM then match lcPL bd c f p.2 (wipeP env vs) p.1 [] S with
    | .ok es S' => match toD0s es with
      | some ds => .ok (.d (.list ds)) S'
      | none => .no
    | _ => .no
  else .no
theorem sx_lcZ {wi : TI} {gt : TG} {tq : TT} {te : TE} {src : PIv} {bd : PBv} {c : PTv} {f : PEv} {vs : List Nat} (hi : SIp ξ W cr wi src) (hg : SGp ξ gt bd vs) (hc : SXp isB ξ W0 cr tq c) (hf : SXp Vr ξ W0 cr te f) :
    SXp Vr ξ W cr (tLc wi gt tq te vs) (lcZ src bd c f vs) := fun env σ F A S H Qq s ne ok er => by
  refine lc_core (k := fun es S' => match toD0s es with
      | some ds => PR.ok (PV.d (.list ds)) S'
      | none => .no) hi hg hc hf s (by unfold lcZ; cases src env S <;> first | rfl | (rename_i p S1; show (if p.1.length ≤ LIM then _ else _) = (if p.1.length ≤ LIM then _ else _); cases lcPL bd c f p.2 (wipeP env vs) p.1 [] S1 <;> rfl)) ne (fun es S' un F' A' H' D us so g hD f' a' l1 l2 => ?_) er
  cases hd : toD0s es with
  | none => rw [hd] at un; exact absurd un ne
  | some ds =>
    rw [hd] at un
    obtain ⟨k1, k2, k3⟩ := so.keep f' l1 a' (l2.rp hd)
    exact ok _ _ un (.ref D) _ A' H' k1 (g.keep f' hD) k3
theorem jez_lc {elt tg iter : Expr} {ifs : List Expr} {scope : Scope} {own : List (Str × Nat)} {src : PIv} {bd : PBv} {t : PTv} (hc : X.calm = true) (hN : X.N.Nodup) (hi : JIp X ξ W cr tg iter src) (ok : BlkOk X.N X.env.scope scope own)
    (hg : ∀ (s : Shared) (H : Hp) (C : Addr) (cl : List (Str × Addr)) (fp : List Addr), JGp (X.blk s H scope (compEnvC scope cl C X.env) fp) ξ tg bd (own.map (·.2)))
    (ht : ∀ (s : Shared) (H : Hp) (C : Addr) (cl : List (Str × Addr)) (fp : List Addr), JTsp (X.blk s H scope (compEnvC scope cl C X.env) fp) ξ W0 cr ifs t)
    (he : ∀ (s : Shared) (H : Hp) (C : Addr) (cl : List (Str × Addr)) (fp : List Addr), JEp (X.blk s H scope (compEnvC scope cl C X.env) fp) ξ W0 cr elt f) (hs : ∀ x, foldedSetIterable iter X.env x = pure x := by intro _; rfl) :
    JEp X ξ W cr (.ListComp elt [⟨tg, iter, ifs, 0⟩] scope pos) (lcZ src bd t f (own.map (·.2))) := by
  obtain ⟨wi, i1, i2⟩ := hi
  exact ⟨_, pe_lc hc hN i1 ok (fun s H C cl fp => (hg s H C cl fp).pg) (fun s H C cl fp => ht s H C cl fp) (fun s H C cl fp => (he s H C cl fp).pe) hs, sx_lcZ i2 sg_ofP sx_of sx_of⟩
theorem jsz_setLc (i : Nat) {y : Str} {py spos : Pos} {elt tg iter : Expr} {ifs : List Expr} {scope : Scope} {own : List (Str × Nat)} {src : PIv} {bd : PBv} {t : PTv} (hc : X.calm = true) (hN : X.N.Nodup) (hy : X.N[i]? = some y) (hyl : X.env.scope.names.lookup y = some .local)
    (hsw : swapsWith (.ListComp elt [⟨tg, iter, ifs, 0⟩] scope pos) (some (.Name y py)) spos.line X.env = pure true) (hi : JIp X ξ W cr tg iter src) (ok : BlkOk X.N X.env.scope scope own)
    (hg : ∀ (s : Shared) (H : Hp) (C : Addr) (cl : List (Str × Addr)) (fp : List Addr), JGp (X.blk s H scope (compEnvC scope cl C X.env) fp) ξ tg bd (own.map (·.2)))
    (ht : ∀ (s : Shared) (H : Hp) (C : Addr) (cl : List (Str × Addr)) (fp : List Addr), JTsp (X.blk s H scope (compEnvC scope cl C X.env) fp) ξ W0 cr ifs t)
    (he : ∀ (s : Shared) (H : Hp) (C : Addr) (cl : List (Str × Addr)) (fp : List Addr), JEp (X.blk s H scope (compEnvC scope cl C X.env) fp) ξ W0 cr elt f) (hs : ∀ x, foldedSetIterable iter X.env x = pure x := by intro _; rfl) :
    JSp X ξ W cr (.Assign [.Name y py] (.ListComp elt [⟨tg, iter, ifs, 0⟩] scope pos) spos) (asgSP i (lcZ src bd t f (own.map (·.2)))) := by
  obtain ⟨wi, i1, i2⟩ := hi
  exact ⟨_, ps_setLc hc hN hy hyl hsw i1 ok (fun s H C cl fp => (hg s H C cl fp).pg) (fun s H C cl fp => ht s H C cl fp) (fun s H C cl fp => (he s H C cl fp).pe) hs, ss_asgP (sx_lcZ i2 sg_ofP sx_of sx_of)⟩
end
section
variable {S S' : Sto} {env : PEn} {x y : PV} {xs : List PV} {d : D} {f g fa fb fc : PEv}
@[simp] theorem retZ_v {d : D} : retZ (some (.v d)) S = some (.d d, S) := rfl
@[simp] theorem retZ_f {ds : List D} : retZ (some (.f ds)) S = some (.d (.list ds), S) := rfl
theorem liftZ2_s {g : D → D → Option Vl} {d d' : D} (h : ct S x = some d) (h' : ct S y = some d') : liftZ2 g x y S = retZ (g d d') S := by unfold liftZ2; rw [h, h']
@[simp] theorem liftZ2_d {g : D → D → Option Vl} {d d' : D} : liftZ2 g (.d d) (.d d') S = retZ (g d d') S := liftZ2_s ct_d ct_d
theorem liftZN_1 {g : List D → Option Vl} (h : ct S x = some d) : liftZN g [x] S = retZ (g [d]) S := by simp [liftZN, cts, h]
theorem liftZN_2 {g : List D → Option Vl} {d' : D} (h : ct S x = some d) (h' : ct S y = some d') : liftZN g [x, y] S = retZ (g [d, d']) S := by simp [liftZN, cts, h, h']
@[simp] theorem liftZN_1d {g : List D → Option Vl} : liftZN g [.d d] S = retZ (g [d]) S := liftZN_1 ct_d
@[simp] theorem liftZN_2d {g : List D → Option Vl} {d' : D} : liftZN g [.d d, .d d'] S = retZ (g [d, d']) S := liftZN_2 ct_d ct_d
@[simp] theorem liftN_1d {g : List D → Option Vl} : liftN g [.d d] S = retV (g [d]) S := liftN_1 ct_d
@[simp] theorem liftN_2d {g : List D → Option Vl} {d' : D} : liftN g [.d d, .d d'] S = retV (g [d, d']) S := liftN_2 ct_d ct_d
@[simp] theorem sliZ_s {lo hi : Option PEv} : sliZ f lo hi env S = bindP (f env S) fun x S => bindP (optP lo env S) fun l S => bindP (optP hi env S) fun h S => stepP (sliZV x l h S) := rfl
theorem sliZV_s {lo hi : Option Int} (h : ct S x = some d) : sliZV x lo hi S = retZ (sliD d lo hi) S := by unfold sliZV; rw [h]
@[simp] theorem sliZV_d {lo hi : Option Int} : sliZV (.d d) lo hi S = retZ (sliD d lo hi) S := sliZV_s ct_d
@[simp] theorem lstZ_s {fs : List PEv} : lstZ fs env S = bindP (argsP fs env S) fun xs S => match toD0s xs with
  | some ds => .ok (.d (.list ds)) S
  | none => .no := rfl
@[simp] theorem callZ_s {m : Fv} {ms : List Bool} {fs : List PEv} : callZ m ms fs env S = bindP (argsP fs env S) fun xs S => match slQ S (ms.zip xs) with
  | some sl => match m sl with
    | .ok vl => stepP (retZ (some vl) S)
    | .err c => .err c S
    | .no => .no
  | none => .no := rfl
@[simp] theorem lcZ_s {src : PIv} {bd : PBv} {c : PTv} {f : PEv} {vs : List Nat} : lcZ src bd c f vs env S = bindP (src env S) fun p S => if p.1.length ≤ LIM then match lcPL bd c f p.2 (wipeP env vs) p.1 [] S with
    | .ok es S' => match toD0s es with
      | some ds => .ok (.d (.list ds)) S'
      | none => .no
    | _ => .no
  else .no := rfl
theorem ixP_d {k : Int} {v : D} (h : ixD d (.int k) = some (.v v)) (hs : ∀ z, d ≠ .str z) : ixP (.d d) (.d (.int k)) S = some (.d v, S) := by
  cases d with
  | list ds =>
    have h' : (atI ds k).map Vl.v = some (.v v) := h
    cases q : atI ds k with
    | none => rw [q] at h'; cases h'
    | some u =>
      rw [q] at h'; cases h'
      exact ixP_l elL_d (by
        unfold atI at q ⊢
        rw [List.length_map]
        cases hn : ixN ds.length k with
        | none => rw [hn] at q; cases q
        | some j =>
          rw [hn] at q
          show (ds.map PV.d)[j]? = _
          have q : ds[j]? = some v := q
          rw [List.getElem?_map, q]; rfl)
  | tuple ds =>
    have h' : (atI ds k).map Vl.v = some (.v v) := h
    cases q : atI ds k with
    | none => rw [q] at h'; cases h'
    | some u =>
      rw [q] at h'; cases h'
      exact ixP_t rfl elT_d (by
        unfold atI at q ⊢
        rw [List.length_map]
        cases hn : ixN ds.length k with
        | none => rw [hn] at q; cases q
        | some j =>
          rw [hn] at q
          show (ds.map PV.d)[j]? = _
          have q : ds[j]? = some v := q
          rw [List.getElem?_map, q]; rfl)
  | str z => exact absurd rfl (hs z)
  | _ => cases h
@[simp] theorem ixP_dl0 {a : D} {ds : List D} : ixP (.d (.list (a :: ds))) (.d (.int 0)) S = some (.d a, S) := ixP_d ixD_l0 fun _ h => nomatch h
@[simp] theorem ixP_dl1 {a b : D} {ds : List D} : ixP (.d (.list (a :: b :: ds))) (.d (.int 1)) S = some (.d b, S) := ixP_d ixD_l1 fun _ h => nomatch h
@[simp] theorem ixP_dt0 {a : D} {ds : List D} : ixP (.d (.tuple (a :: ds))) (.d (.int 0)) S = some (.d a, S) := ixP_d ixD_t0 fun _ h => nomatch h
@[simp] theorem ixP_dt1 {a b : D} {ds : List D} : ixP (.d (.tuple (a :: b :: ds))) (.d (.int 1)) S = some (.d b, S) := ixP_d ixD_t1 fun _ h => nomatch h
end
end
end Q
namespace Q
noncomputable section
open PySem PySem.Spec PyProof.Rows L2
set_option maxHeartbeats 1000000
/-! ### part T: tuples of ints compared -/
theorem lexAt_shift {e r : Nat → Bool} {z : Bool} : ∀ (k i : Nat), Ob.lexAt e r z (i + 1) k = Ob.lexAt (fun j => e (j + 1)) (fun j => r (j + 1)) z i k
  | 0, _ => rfl
  | k + 1, i => by rw [Ob.lexAt_succ, Ob.lexAt_succ, lexAt_shift k (i + 1)]
theorem lexAt_gt : ∀ ns ms : List Int, Ob.lexAt (fun j => decide (ns.getD j 0 = ms.getD j 0)) (fun j => decide (ms.getD j 0 < ns.getD j 0)) (decide (ns.length > ms.length)) 0 (min ns.length ms.length) = HT.lexLt ms ns
  | [], [] => by rw [HT.lexLt_nil_nil]; rfl
  | [], m :: ms => by rw [HT.lexLt_cons_nil]; rfl
  | n :: ns, [] => by rw [HT.lexLt_nil_cons]; rfl
  | n :: ns, m :: ms => by
    have ih := lexAt_gt ns ms
    rw [show min (n :: ns).length (m :: ms).length = min ns.length ms.length + 1 from Nat.add_min_add_right .., Ob.lexAt_succ, lexAt_shift, HT.lexLt_cons]
    have z : decide ((n :: ns).length > (m :: ms).length) = decide (ns.length > ms.length) := by rw [decide_eq_decide]; simp
    rw [z]
    show (if decide (n = m) = true then Ob.lexAt (fun j => decide (ns.getD j 0 = ms.getD j 0)) (fun j => decide (ms.getD j 0 < ns.getD j 0)) (decide (ns.length > ms.length)) 0 (min ns.length ms.length) else decide (m < n)) = _
    rw [ih]
    by_cases q : n = m
    · subst q; simp
    · have q2 : ¬ m = n := fun z => q z.symm
      simp [q, q2]
theorem lexAt_ge : ∀ ns ms : List Int, Ob.lexAt (fun j => decide (ns.getD j 0 = ms.getD j 0)) (fun j => decide (ms.getD j 0 ≤ ns.getD j 0)) (decide (ns.length ≥ ms.length)) 0 (min ns.length ms.length) = !HT.lexLt ns ms
  | [], [] => by rw [HT.lexLt_nil_nil]; rfl
  | [], m :: ms => by rw [HT.lexLt_nil_cons]; rfl
  | n :: ns, [] => by rw [HT.lexLt_cons_nil]; rfl
  | n :: ns, m :: ms => by
    have ih := lexAt_ge ns ms
    rw [show min (n :: ns).length (m :: ms).length = min ns.length ms.length + 1 from Nat.add_min_add_right .., Ob.lexAt_succ, lexAt_shift, HT.lexLt_cons]
    have z : decide ((n :: ns).length ≥ (m :: ms).length) = decide (ns.length ≥ ms.length) := by rw [decide_eq_decide]; simp
    rw [z]
    show (if decide (n = m) = true then Ob.lexAt (fun j => decide (ns.getD j 0 = ms.getD j 0)) (fun j => decide (ms.getD j 0 ≤ ns.getD j 0)) (decide (ns.length ≥ ms.length)) 0 (min ns.length ms.length) else decide (m ≤ n)) = _
    rw [ih]
    by_cases q : n = m
    · subst q; simp
    · rw [if_neg (by simpa using q), if_neg q]
      by_cases z2 : n < m
      · rw [decide_eq_true z2, decide_eq_false (show ¬ m ≤ n by omega)]; rfl
      · rw [decide_eq_false z2, decide_eq_true (show m ≤ n by omega)]; rfl
def rTups (K : PySem.W.Frag) (g : List Int → List Int → Bool) : R2 := fun x y H Q => ∃ (a b : Addr) (ns ms : List Int), x = .ref a ∧ y = .ref b ∧ SqT K H a (ns.map V.int) ∧ SqT K H b (ms.map V.int) ∧ Q (.bl (g ns ms)) H
theorem op_gtT {X : Cx} (hu : X.A.units + 64 < cLine) : OpR X (compareOp .Gt) (rTups X.K fun ns ms => HT.lexLt ms ns) := by
  intro pins s σ H x y v u Q I rx ry h  -- q
  obtain ⟨a, b, ns, ms, rfl, rfl, ha, hb, q⟩ := h  -- q
  cases rx
  cases ry
  obtain ⟨its, r1, p1, _⟩ := I.tuple ha  -- q
  obtain ⟨its2, r2, p2, _⟩ := I.tuple hb  -- q
  have i1 : IntsAre its ns := Vals.ints r1  -- q
  have i2 : IntsAre its2 ms := Vals.ints r2  -- q
  have e1 : its.toArray.size = ns.length := by rw [List.size_toArray]; exact i1.length  -- q
  have e2 : its2.toArray.size = ms.length := by rw [List.size_toArray]; exact i2.length  -- q
  have at1 : ∀ j (h1 : j < its.toArray.size), ∃ t, its.toArray[j] = .int (ns.getD j 0) t := fun j h1 => PyProof.Rows.IntsAre.int_at i1 _ _ (by simp at h1; simp [h1])  -- q
  have at2 : ∀ j (h1 : j < its2.toArray.size), ∃ t, its2.toArray[j] = .int (ms.getD j 0) t := fun j h1 => PyProof.Rows.IntsAre.int_at i2 _ _ (by simp at h1; simp [h1])  -- q
  have R := Ob.RcOp.tuples_gt (A := X.A) (s := s) (e := fun j => decide (ns.getD j 0 = ms.getD j 0)) (r := fun j => decide (ms.getD j 0 < ns.getD j 0)) p1 p2 (by omega) (fun j h1 h2 => by
    obtain ⟨t, et⟩ := at1 j h1
    obtain ⟨t', et'⟩ := at2 j h2
    rw [et, et']
    have z : (ns.getD j 0 == ms.getD j 0) = decide (ns.getD j 0 = ms.getD j 0) := by  -- q
      by_cases q : ns.getD j 0 = ms.getD j 0  -- q
      · rw [decide_eq_true q]; exact beq_iff_eq.mpr q  -- q
      · rw [decide_eq_false q]; exact beq_eq_false_iff_ne.mpr q  -- q
    rw [← z]
    exact SeqAt.EqAt.int_int _ _ _ _) (fun j h1 h2 _ => by  -- q
    obtain ⟨t, et⟩ := at1 j h1
    obtain ⟨t', et'⟩ := at2 j h2
    rw [et, et']
    exact Ob.RcOp.gt_int _ _ _ _)
  rw [e1, e2, lexAt_gt] at R
  have z : wpAny (model X.prog X.w) X.A (compareOp .Gt (.ref a) (.ref b)) (EP X pins σ Q) X.xe s := R X.prog X.w X.xe (EP X pins σ Q) ⟨.bl _, H, I, rfl, q⟩
  exact z
theorem op_geT {X : Cx} (hu : X.A.units + 64 < cLine) : OpR X (compareOp .GtE) (rTups X.K fun ns ms => !HT.lexLt ns ms) := by
  intro pins s σ H x y v u Q I rx ry h  -- q
  obtain ⟨a, b, ns, ms, rfl, rfl, ha, hb, q⟩ := h  -- q
  cases rx
  cases ry
  obtain ⟨its, r1, p1, _⟩ := I.tuple ha  -- q
  obtain ⟨its2, r2, p2, _⟩ := I.tuple hb  -- q
  have i1 : IntsAre its ns := Vals.ints r1  -- q
  have i2 : IntsAre its2 ms := Vals.ints r2  -- q
  have e1 : its.toArray.size = ns.length := by rw [List.size_toArray]; exact i1.length  -- q
  have e2 : its2.toArray.size = ms.length := by rw [List.size_toArray]; exact i2.length  -- q
  have at1 : ∀ j (h1 : j < its.toArray.size), ∃ t, its.toArray[j] = .int (ns.getD j 0) t := fun j h1 => PyProof.Rows.IntsAre.int_at i1 _ _ (by simp at h1; simp [h1])  -- q
  have at2 : ∀ j (h1 : j < its2.toArray.size), ∃ t, its2.toArray[j] = .int (ms.getD j 0) t := fun j h1 => PyProof.Rows.IntsAre.int_at i2 _ _ (by simp at h1; simp [h1])  -- q
  have R := Ob.RcOp.tuples_ge (A := X.A) (s := s) (e := fun j => decide (ns.getD j 0 = ms.getD j 0)) (r := fun j => decide (ms.getD j 0 ≤ ns.getD j 0)) p1 p2 (by omega) (fun j h1 h2 => by
    obtain ⟨t, et⟩ := at1 j h1
    obtain ⟨t', et'⟩ := at2 j h2
    rw [et, et']
    have z : (ns.getD j 0 == ms.getD j 0) = decide (ns.getD j 0 = ms.getD j 0) := by  -- q
      by_cases q : ns.getD j 0 = ms.getD j 0  -- q
      · rw [decide_eq_true q]; exact beq_iff_eq.mpr q  -- q
      · rw [decide_eq_false q]; exact beq_eq_false_iff_ne.mpr q  -- q
    rw [← z]
    exact SeqAt.EqAt.int_int _ _ _ _) (fun j h1 h2 _ => by  -- q
    obtain ⟨t, et⟩ := at1 j h1
    obtain ⟨t', et'⟩ := at2 j h2
    rw [et, et']
    exact Ob.RcOp.ge_int _ _ _ _)
  rw [e1, e2, lexAt_ge] at R
  have z : wpAny (model X.prog X.w) X.A (compareOp .GtE (.ref a) (.ref b)) (EP X pins σ Q) X.xe s := R X.prog X.w X.xe (EP X pins σ Q) ⟨.bl _, H, I, rfl, q⟩
  exact z
def cmpX (p : Int → Int → Bool) (g : List Int → List Int → Bool) : D → D → Option Vl
  | .int a, .int b => some (.v (.bool (p a b)))
  | .tuple as, .tuple bs => match intsOf as, intsOf bs with
    | some ns, some ms => some (.v (.bool (g ns ms)))
    | _, _ => none
  | _, _ => none
def gtX : D → D → Option Vl := cmpX (fun a b => decide (b < a)) fun ns ms => HT.lexLt ms ns
def geX : D → D → Option Vl := cmpX (fun a b => decide (b ≤ a)) fun ns ms => !HT.lexLt ns ms
theorem ap_cmpX {K : PySem.W.Frag} {p : Int → Int → Bool} {g : List Int → List Int → Bool} : Op2 (fun x y H Q => rI0 (fun i j => .bl (p i j)) x y H Q ∨ rTups K g x y H Q) (cmpX p g) := fun F H x y d e vl Qq gd hx hy h q => by
  cases d <;> cases e <;> try (cases h; done)
  · cases h; cases hx; cases hy
    exact .inl ⟨_, _, rfl, rfl, q _ F H (Res.val gd (.bl _))⟩
  · rename_i as bs
    have h' : (match intsOf as, intsOf bs with
      | some ns, some ms => some (Vl.v (.bool (g ns ms)))
      | _, _ => none) = some vl := h
    cases h1 : intsOf as with
    | none => rw [h1] at h'; cases h'  -- q
    | some ns =>
      cases h2 : intsOf bs with
      | none => rw [h1, h2] at h'; cases h'  -- q
      | some ms =>
        rw [h1, h2] at h'; cases h'
        cases hx with
        | tup a1 a2 =>
          cases hy with
          | tup b1 b2 =>
            rw [ints_rp a2 h1] at a1
            rw [ints_rp b2 h2] at b1
            exact .inr ⟨_, _, ns, ms, rfl, rfl, .inl (rd_mono gd (Rd.of a1)), .inl (rd_mono gd (Rd.of b1)), q _ F H (Res.val gd (.bl _))⟩
section
variable {X : Cx}
theorem opl_gtX (hu : X.A.units + 64 < cLine) : OpR X (compareOp .Gt) (fun x y H Q => rI0 (fun i j => .bl (decide (j < i))) x y H Q ∨ rTups X.K (fun ns ms => HT.lexLt ms ns) x y H Q) := op_gt.or (op_gtT hu)
theorem opl_geX (hu : X.A.units + 64 < cLine) : OpR X (compareOp .GtE) (fun x y H Q => rI0 (fun i j => .bl (decide (j ≤ i))) x y H Q ∨ rTups X.K (fun ns ms => !HT.lexLt ns ms) x y H Q) := op_ge.or (op_geT hu)
end
theorem ap_gtX {K : PySem.W.Frag} : Op2 (fun x y H Q => rI0 (fun i j => .bl (decide (j < i))) x y H Q ∨ rTups K (fun ns ms => HT.lexLt ms ns) x y H Q) gtX := ap_cmpX
theorem ap_geX {K : PySem.W.Frag} : Op2 (fun x y H Q => rI0 (fun i j => .bl (decide (j ≤ i))) x y H Q ∨ rTups K (fun ns ms => !HT.lexLt ns ms) x y H Q) geX := ap_cmpX
theorem ints_ofX : ∀ ns : List Int, intsOf (ns.map PyData.int) = some ns
  | [] => rfl
  | n :: ns => by rw [List.map_cons, intsOf, ints_ofX ns]; rfl
@[simp] theorem gtX_i {i j : Int} : gtX (.int i) (.int j) = some (.v (.bool (decide (j < i)))) := rfl
@[simp] theorem geX_i {i j : Int} : geX (.int i) (.int j) = some (.v (.bool (decide (j ≤ i)))) := rfl
theorem gtX_t {ns ms : List Int} : gtX (.tuple (ns.map PyData.int)) (.tuple (ms.map PyData.int)) = some (.v (.bool (HT.lexLt ms ns))) := by
  show (match intsOf (ns.map PyData.int), intsOf (ms.map PyData.int) with
    | some ns, some ms => some (Vl.v (.bool (HT.lexLt ms ns)))
    | _, _ => none) = _
  rw [ints_ofX, ints_ofX]
theorem geX_t {ns ms : List Int} : geX (.tuple (ns.map PyData.int)) (.tuple (ms.map PyData.int)) = some (.v (.bool (!HT.lexLt ns ms))) := by
  show (match intsOf (ns.map PyData.int), intsOf (ms.map PyData.int) with
    | some ns, some ms => some (Vl.v (.bool (!HT.lexLt ns ms)))
    | _, _ => none) = _
  rw [ints_ofX, ints_ofX]
end
end Q
namespace Q
noncomputable section
open PySem PySem.Spec PyProof.Rows L2
set_option maxHeartbeats 1000000
/-! ### part U: t[::-1], sum of a tuple, in over data -/
section
variable {prog : Program} {w : World} {A : Around} {E : Value → Shared → Prop} {s : Shared}  -- q
theorem sliceApplied_rev {sl : Addr} {vl vu vs : Value} {n : Nat} {Q : Int × Int × Nat → Shared → Prop} (hs : s.heap.IsSliceOf sl vl vu vs) (pl : IsPart vl none) (pu : IsPart vu none) (ps : IsPart vs (some (-1)))
    (h : Q ((n : Int) - 1, -1, n) s) : wpAny (model prog w) A (Builtin.Slice.sliceApplied (.ref sl) (pure (n : Int))) Q E s := by
  obtain ⟨os, hos, hcs, hds⟩ := id hs  -- q
  unfold Builtin.Slice.sliceApplied Builtin.Slice.sliceFields  -- q
  refine wpAny_bind (wpAny_bind (wpAny_field hos hds (x := vl) rfl (wpAny_bind (wpAny_field hos hds (x := vu) rfl (wpAny_bind (wpAny_field hos hds (x := vs) rfl (wpAny_pure ?_)))))))
  refine wpAny_bind (HT.slicePart_ ps ?_)
  show wpAny _ _ (if ((-1 : Int) == 0) = true then _ else _) _ _ s
  rw [if_neg (by decide)]
  refine wpAny_bind (HT.slicePart_ pl (wpAny_bind (HT.slicePart_ pu (wpAny_bind (wpAny_pure ?_)))))
  show wpAny _ _ (match Builtin.Slice.sliceAdjust none none (-1) (n : Int) with | (lo, hi) => pure (lo, (-1 : Int), Builtin.Slice.slicePlaces lo hi (-1))) _ _ s
  have e : Builtin.Slice.sliceAdjust none none (-1) (n : Int) = ((n : Int) - 1, -1) := rfl
  rw [e]
  show wpAny _ _ (pure ((n : Int) - 1, (-1 : Int), Builtin.Slice.slicePlaces ((n : Int) - 1) (-1) (-1))) _ _ s
  have e2 : Builtin.Slice.slicePlaces ((n : Int) - 1) (-1) (-1) = n := by
    unfold Builtin.Slice.slicePlaces  -- q
    have h1 : ¬ ((-1 : Int) > 0) := by omega
    simp only [h1, if_false]
    rw [show -(-1 : Int) = 1 from rfl, Int.ediv_one]
    split <;> omega
  rw [e2]
  exact wpAny_pure h
theorem pick_rev (xs : Array Value) : ((List.range xs.size).filterMap fun (m : Nat) => xs[(((xs.size : Int) - 1) + (m : Int) * (-1)).toNat]?).toArray = xs.toList.reverse.toArray := by
  congr 1
  have e : ∀ m ∈ List.range xs.size, xs[(((xs.size : Int) - 1) + (m : Int) * (-1)).toNat]? = some (xs.toList.reverse.getD m .none) := fun m hm => by
    have hm := List.mem_range.mp hm
    have q : (((xs.size : Int) - 1) + (m : Int) * (-1)).toNat = xs.size - 1 - m := by omega
    rw [q, List.getD_eq_getElem?_getD, List.getElem?_reverse (by simpa using hm), Array.length_toList, ← Array.getElem?_toList]
    rw [List.getElem?_eq_getElem (by rw [Array.length_toList]; omega)]
    rfl
  have f : ∀ l : List Nat, (∀ m ∈ l, xs[(((xs.size : Int) - 1) + (m : Int) * (-1)).toNat]? = some (xs.toList.reverse.getD m .none)) → (l.filterMap fun (m : Nat) => xs[(((xs.size : Int) - 1) + (m : Int) * (-1)).toNat]?) = l.map fun m => xs.toList.reverse.getD m .none := fun l => by
    induction l with
    | nil => intro _; rfl
    | cons m l ih =>
      intro hl
      rw [List.filterMap_cons, hl m List.mem_cons_self, List.map_cons]
      show _ :: _ = _
      rw [ih fun k hk => hl k (List.mem_cons_of_mem _ hk)]
  rw [f _ e]
  apply List.ext_getElem?
  intro i
  rw [List.getElem?_map]
  by_cases hi : i < xs.size
  · rw [List.getElem?_range hi, List.getElem?_eq_getElem (by simpa using hi)]
    show some (xs.toList.reverse.getD i .none) = _
    rw [List.getD_eq_getElem?_getD, List.getElem?_eq_getElem (by simpa using hi)]; rfl
  · rw [List.getElem?_eq_none (by rw [List.length_range]; omega), List.getElem?_eq_none (by simp; omega)]; rfl
theorem getItem_tuple_rev {t sl : Addr} {items : Array Value} {vl vu vs : Value} {Q : Value → Shared → Prop} (ht : IsTup s.heap t items) (hs : s.heap.IsSliceOf sl vl vu vs) (pl : IsPart vl none) (pu : IsPart vu none) (ps : IsPart vs (some (-1)))
    (h : Q (.ref s.heap.objs.size) { s with heap := s.heap.push { cls := .type "tuple", data := .seq items.toList.reverse.toArray } })
    (hsz : items.size ≤ sizeLine) : wpAny (model prog w) A (getItem (.ref t) (.ref sl)) Q E s := by  -- q
  have htake : sizeOk (.seq items.toList.reverse.toArray) := by
    show items.toList.reverse.toArray.size ≤ sizeLine
    simpa using hsz
  obtain ⟨os, hos, hcs, hds⟩ := id hs  -- q
  have hTs : s.TypeIs (.ref sl) "slice" := ⟨os, hos, hcs⟩  -- q
  unfold getItem
  try with_reducible refine wpAny_holding ?_  -- q
  first | refine wpAny_bind (wpAny_pure ?_) | skip  -- q
  refine wpAny_bind (wpAny_sequenceKey ht.typeIs (by decide) ?_)  -- q
  refine wpAny_bind (wpAny_callSpecial?_slot (name := Str.ofString "__getitem__") ht.typeIs PyProof.Rows.slot_tuple_getitem  -- q
    (wpAny_call_entry PyProof.Rows.slot_tuple_getitem ht.typeIs entry_tuple_getitem ?_ (args_tuple_getitem _ _)))  -- q
  show wpAny _ _ (Builtin.Tuple.tupleItemsOf (.ref t) >>= _) _ _ s  -- q
  refine wpAny_bind (tupleItemsOf_ ht ?_)  -- q
  refine wpAny_bind (wpAny_typeOf hTs ?_)  -- q
  rw [if_pos (by decide)]
  refine wpAny_bind (sliceApplied_rev hs pl pu ps ?_)
  have hno : ¬ ((((items.size : Int) - 1) == 0 && (-1 : Int) == 1 && items.size == items.size) = true) := by
    intro q
    rw [Bool.and_eq_true, Bool.and_eq_true] at q  -- q
    exact absurd q.1.2 (by decide)
  show wpAny _ _ (if (((items.size : Int) - 1) == 0 && (-1 : Int) == 1 && items.size == items.size) = true then _ else _) _ _ s
  rw [if_neg hno, pick_rev]
  first
    | exact wpAny_bind (m := Builtin.Tuple.tupleExact _) (wpAny_newObj_type (wpAny_pure ⟨_, rfl, wpAny_pure h⟩) htake)  -- q
    | exact wpAny_bind (m := Builtin.Tuple.tupleExact _) (wpAny_newObj_type (wpAny_bind (wpAny_pure (wpAny_pure ⟨_, rfl, wpAny_pure h⟩))) htake)  -- q
    | exact wpAny_bind (wpAny_bind (m := Builtin.Tuple.tupleExact _) (wpAny_newObj_type (wpAny_pure (wpAny_pure ⟨_, rfl, wpAny_pure h⟩)) htake))  -- q
    | exact wpAny_bind (wpAny_bind (m := Builtin.Tuple.tupleExact _) (wpAny_newObj_type (wpAny_pure ⟨_, rfl, wpAny_pure h⟩) htake))  -- q
end
section
variable {X : Cx}
def rRevT (K : PySem.W.Frag) : V → Hp → VK → Prop := fun x H Q => ∃ a xs, x = .ref a ∧ SqT K H a xs ∧ ∀ p, H p = none → Q (.ref p) (upd H p (.tup xs.reverse))
theorem pe_revT {e : Expr} {te : TE} {k : Nat} {p1 p2 p3 pos : Pos} (he : PE X e te) : PE X (.Subscript e (.Slice none none (some (.UnaryOp .USub (.Constant (.int 1) k p1) p2)) p3) pos) (tUn (rRevT X.K) te) := by
  refine ⟨fun pins s σ H Q I h => ?_⟩  -- q
  refine Subscript_ (thn (he.run pins s σ H _ I h) fun v s1 ⟨x, H1, I1, r1, q1⟩ => ?_)  -- q
  obtain ⟨a, xs, ex, hx, q⟩ := q1  -- q
  subst ex
  cases r1
  have hst : PO X (some (.UnaryOp .USub (.Constant (.int 1) k p1) p2)) (tPart (tUn (rU fun i => .int (-i)) (tC (.int 1)))) := po_some (pe_un un_neg pe_int)  -- q
  refine wpAny_Slice (thn (po_none.run pins s1 σ H1 (fun o H2 => o = none ∧ H2 = H1) I1 ⟨rfl, rfl⟩) fun vl s2 ⟨l, H2, I2, pl, el, e2⟩ => ?_)  -- q
  subst el e2
  refine thn (po_none.run pins s2 σ H2 (fun o H3 => o = none ∧ H3 = H2) I2 ⟨rfl, rfl⟩) fun vu s3 ⟨u, H3, I3, pu, eu, e3⟩ => ?_  -- q
  subst eu e3
  refine thn (hst.run pins s3 σ H3 (fun o H4 => o = some (-1) ∧ H4 = H3) I3 ⟨1, rfl, -1, rfl, rfl, rfl⟩) fun vs s4 ⟨o, H4, I4, ps, eo, e4⟩ => ?_  -- q
  subst eo e4
  have I5 : Inv X pins σ H4 { s4 with heap := s4.heap.push { cls := .type "slice", data := .fields #[vl, vu, vs] } } := I4.kept (t' := s4.toks) fun b ob q => Heap.get?_push_of_some _ q  -- q
  obtain ⟨its, r, ht, hz⟩ := I5.tuple hx
  have hlen := r.length
  show wpAny (model X.prog X.w) X.A (subscriptTail e (.Slice none none (some (.UnaryOp .USub (.Constant (.int 1) k p1) p2)) p3) (.ref a) (.ref s4.heap.objs.size)) (EP X pins σ Q) X.xe { s4 with heap := s4.heap.push { cls := .type "slice", data := .fields #[vl, vu, vs] } }  -- q
  refine tail_any (ops := [.ref a, .ref s4.heap.objs.size]) ht.typeIs (PyProof.Rows.slot_tuple_getitem.lookup) ?_ (by with_unfolding_all rfl)
  refine getItem_tuple_rev ht (Heap.IsSliceOf.new _ vl vu vs) pl pu ps ?_ (by rw [List.size_toArray]; omega)
  refine ⟨.ref _, _, I5.laid (t' := s4.toks) (o := .tup xs.reverse) (fun b ob q => Heap.get?_push_of_some _ q) (Nat.le_refl _) ?_, rfl, q _ (I5.hok.fresh (Nat.le_refl _))⟩
  exact ⟨by rw [List.length_reverse]; exact hz, _, r.reverse, IsTup.new _ _⟩
end
def revD : D → Option Vl
  | .tuple ds => some (.v (.tuple ds.reverse))
  | _ => none
theorem RpAll.rev {F : Hp} : ∀ {vs : List V} {ds : List D}, RpAll F vs ds → RpAll F vs.reverse ds.reverse
  | _, _, .nil => .nil
  | _, _, .cons h1 h2 => by
    rw [List.reverse_cons, List.reverse_cons]  -- q
    exact (RpAll.rev h2).append (.cons h1 .nil)
theorem ap_rev {K : PySem.W.Frag} : Op1 (rRevT K) revD := fun F H x d vl Qq g hx h q => by
  cases d <;> try (cases h; done)
  cases h
  cases hx with
  | tup h1 h2 => exact ⟨_, _, rfl, .inl (rd_mono g (Rd.of h1)), fun p hp => q _ _ _ (Res.tup g hp (RpAll.rev h2))⟩
section
variable {X : Cx} {ξ : Addr × Nat} {W : WX} {cr : Nat → Value} {a : Expr} {fa : Ev}
theorem je_revT {k : Nat} {p1 p2 p3 pos : Pos} (ha : JE X ξ W cr a fa) : JE X ξ W cr (.Subscript a (.Slice none none (some (.UnaryOp .USub (.Constant (.int 1) k p1) p2)) p3) pos) (op1 revD fa) :=
  let ⟨_, a1, a2, a3⟩ := ha; ⟨_, pe_revT a1, se_op1 ap_rev a2, nn_op1 a3⟩
end
@[simp] theorem revD_t {ds : List D} : revD (.tuple ds) = some (.v (.tuple ds.reverse)) := rfl
/-! sum of a tuple of ints -/
def rSumT (K : PySem.W.Frag) : List V → Hp → VK → Prop := fun vs H Q => ∃ (a : Addr) (ns : List Int), vs = [V.ref a] ∧ SqT K H a (ns.map V.int) ∧ Q (.int ns.sum) H
theorem cr_sumT {X : Cx} (hc : X.calm = true) : CallR X (.builtin "sum") (rSumT X.K) := by
  intro pins s σ H vs us Q I r h  -- q
  obtain ⟨a, ns, rfl, hs, q⟩ := h  -- q
  obtain ⟨its, rv, ht, _⟩ := I.tuple hs
  rw [Vals.ref1 r]
  have hi := rv.ints
  obtain ⟨xs, e⟩ := hi.allInts.items  -- q
  have hn : numsOf (intItems xs).toList = ns := by rw [← e]; exact hi.numsOf  -- q
  rw [nums_intItems] at hn
  have ht' : s.heap.IsTuple a its.toArray := ht
  rw [e] at ht'
  refine PySem.W.ktm_sumG (I.ok.hd hc) ht' fun h' tk t' hk => ?_
  rw [preSum_eq, List.take_of_length_le (by simp), hn]  -- q
  exact ⟨.int _, H, I.kept hk, ⟨_, rfl⟩, q⟩
def sumX : List D → Option Vl
  | [.list ds] => (intsOf ds).map fun ns => .v (.int ns.sum)
  | [.tuple ds] => (intsOf ds).map fun ns => .v (.int ns.sum)
  | _ => none
theorem cl_sumX {X : Cx} (hc : X.calm = true) : CallR X (.builtin "sum") (fun vs H Q => rSum X.K vs H Q ∨ rSumT X.K vs H Q) := (cr_sum hc).or (cr_sumT hc)
theorem an_sumX {K : PySem.W.Frag} : OpN (fun vs H Q => rSum K vs H Q ∨ rSumT K vs H Q) sumX := opn1 (fun F H x d vl Qq g hx h q => by
  cases d <;> try (cases h; done)
  · rename_i ds
    have h' : ((intsOf ds).map fun ns => Vl.v (.int ns.sum)) = some vl := h
    cases hz : intsOf ds with
    | none => rw [hz] at h'; cases h'
    | some ns =>
      rw [hz] at h'; cases h'
      obtain ⟨p, vs, rfl, h1, h2⟩ := hx
      rw [ints_rp h2 hz] at h1
      exact .inl ⟨p, ns, rfl, rd_sq h1, q _ F H (Res.val g (.int _))⟩
  · rename_i ds
    have h' : ((intsOf ds).map fun ns => Vl.v (.int ns.sum)) = some vl := h
    cases hz : intsOf ds with
    | none => rw [hz] at h'; cases h'
    | some ns =>
      rw [hz] at h'; cases h'
      cases hx with
      | tup h1 h2 =>
        rw [ints_rp h2 hz] at h1
        exact .inr ⟨_, ns, rfl, .inl (rd_mono g (Rd.of h1)), q _ F H (Res.val g (.int _))⟩) fun _ _ h => by unfold sumX at h; split at h <;> first | exact ⟨_, rfl⟩ | cases h
theorem sumX_t (ns : List Int) : sumX [.tuple (ns.map PyData.int)] = some (.v (.int ns.sum)) := by
  show (intsOf (ns.map PyData.int)).map _ = _
  rw [ints_ofX]; rfl
theorem sumX_l (ns : List Int) : sumX [.list (ns.map PyData.int)] = some (.v (.int ns.sum)) := by
  show (intsOf (ns.map PyData.int)).map _ = _
  rw [ints_ofX]; rfl
/-! x in ds: any data -/
def rInX (K : PySem.W.Frag) (neg : Bool) : R2 := fun x y H Q => ∃ d ds, Dp K H x d ∧ (Dp K H y (.list ds) ∨ Dp K H y (.tuple ds)) ∧ SeqAt.shaped d = true ∧ SeqAt.shaped (.list ds) = true ∧ Q (.bl (neg != ds.any fun z => PyData.eqv z d)) H
theorem op_inX {X : Cx} (hu : X.A.units + 65 < cLine) : OpR X (compareOp .In) (rInX X.K false) := by
  intro pins s σ H x y v u Q I rx ry h  -- q
  obtain ⟨d, ds, hd, he, sd, se, q⟩ := h  -- q
  obtain ⟨as, r1⟩ := Dp.reads I d x v hd rx  -- q
  have hxs : PyData.canLayAll0 ds = true := SeqAt.canLay_of_shaped se
  have q' : (false != ds.any fun z => PyData.eqv z d) = ds.any fun z => PyData.eqv z d := by simp
  rw [q'] at q
  rcases he with he | he
  · obtain ⟨bs, r2⟩ := Dp.reads I (.list ds) y u he ry
    exact SeqAt.in_list_reads r2 r1 hxs (SeqAt.canLay_of_shaped sd) (room_in_shaped sd hu) ⟨.bl _, H, I, rfl, q⟩
  · obtain ⟨bs, r2⟩ := Dp.reads I (.tuple ds) y u he ry
    exact SeqAt.in_tuple_reads r2 r1 hxs (SeqAt.canLay_of_shaped sd) (room_in_shaped sd hu) ⟨.bl _, H, I, rfl, q⟩
theorem op_ninX {X : Cx} (hu : X.A.units + 65 < cLine) : OpR X (compareOp .NotIn) (rInX X.K true) := by
  intro pins s σ H x y v u Q I rx ry h  -- q
  obtain ⟨d, ds, hd, he, sd, se, q⟩ := h  -- q
  obtain ⟨as, r1⟩ := Dp.reads I d x v hd rx  -- q
  have hxs : PyData.canLayAll0 ds = true := SeqAt.canLay_of_shaped se
  have q' : (true != ds.any fun z => PyData.eqv z d) = !ds.any fun z => PyData.eqv z d := by simp
  rw [q'] at q
  rcases he with he | he
  · obtain ⟨bs, r2⟩ := Dp.reads I (.list ds) y u he ry
    exact SeqAt.notIn_list_reads r2 r1 hxs (SeqAt.canLay_of_shaped sd) (room_in_shaped sd hu) ⟨.bl _, H, I, rfl, q⟩
  · obtain ⟨bs, r2⟩ := Dp.reads I (.tuple ds) y u he ry
    exact SeqAt.notIn_tuple_reads r2 r1 hxs (SeqAt.canLay_of_shaped sd) (room_in_shaped sd hu) ⟨.bl _, H, I, rfl, q⟩
def inXD (neg : Bool) : D → D → Option Vl
  | d, .list ds => if (SeqAt.shaped d && SeqAt.shaped (.list ds)) = true then some (.v (.bool (neg != ds.any fun z => PyData.eqv z d))) else none
  | d, .tuple ds => if (SeqAt.shaped d && SeqAt.shaped (.list ds)) = true then some (.v (.bool (neg != ds.any fun z => PyData.eqv z d))) else none
  | _, _ => none
theorem ap_inX {K : PySem.W.Frag} {neg : Bool} : Op2 (rInX K neg) (inXD neg) := fun F H x y d e vl Qq g hx hy h q => by
  cases e <;> try (simp [inXD] at h; done)
  · rename_i ds
    have h' : (if (SeqAt.shaped d && SeqAt.shaped (.list ds)) = true then some (Vl.v (.bool (neg != ds.any fun z => PyData.eqv z d))) else none) = some vl := by cases d <;> exact h
    by_cases hs : (SeqAt.shaped d && SeqAt.shaped (.list ds)) = true
    · rw [if_pos hs] at h'; cases h'
      have hs' : SeqAt.shaped d = true ∧ SeqAt.shaped (.list ds) = true := by simpa only [Bool.and_eq_true] using hs
      exact ⟨d, ds, (hx.rp g).dp (SeqAt.canLay_of_shaped hs'.1), .inl ((hy.rp g).dp (SeqAt.canLay_of_shaped hs'.2)), hs'.1, hs'.2, q _ F H (Res.val g (.bl _))⟩
    · rw [if_neg hs] at h'; cases h'
  · rename_i ds
    have h' : (if (SeqAt.shaped d && SeqAt.shaped (.list ds)) = true then some (Vl.v (.bool (neg != ds.any fun z => PyData.eqv z d))) else none) = some vl := by cases d <;> exact h
    by_cases hs : (SeqAt.shaped d && SeqAt.shaped (.list ds)) = true
    · rw [if_pos hs] at h'; cases h'
      have hs' : SeqAt.shaped d = true ∧ SeqAt.shaped (.list ds) = true := by simpa only [Bool.and_eq_true] using hs
      have c : PyData.canLay0 (.tuple ds) = true := by have := SeqAt.canLay_of_shaped hs'.2; simpa only [PyData.canLay0] using this
      exact ⟨d, ds, (hx.rp g).dp (SeqAt.canLay_of_shaped hs'.1), .inr ((hy.rp g).dp c), hs'.1, hs'.2, q _ F H (Res.val g (.bl _))⟩
    · rw [if_neg hs] at h'; cases h'
theorem room65 {k : Nat} {A : Around} (r : Room k A) : A.units + 65 < cLine := by have := r.un; omega
end
end Q
namespace Q
noncomputable section
open PySem PySem.Spec PyProof.Rows L2
set_option maxHeartbeats 1000000
/-! ### part V: sorted(list(d), reverse=True), d by tuples of ints; <= of tuples -/
section
variable {X : Cx}
def rSortLT (K : PySem.W.Frag) : List V → List V → Hp → VK → Prop := fun vs zs H Q => ∃ (a : Addr) (qs : List (Addr × List Int)), vs = [V.ref a] ∧ zs = [.bl true] ∧ SqL K H a (qs.map fun q => V.ref q.1) ∧ (∀ q ∈ qs, H q.1 = some (.tup (q.2.map V.int)) ∧ q.2 ≠ []) ∧
  ∀ (ps : List (Addr × List Int)) (p : Addr), (ps.map (·.2)).Perm (qs.map (·.2)) → ps.Pairwise (fun x y => HT.lexLt x.2 y.2 = false) → (∀ q ∈ ps, H q.1 = some (.tup (q.2.map V.int))) → H p = none → Q (.ref p) (upd H p (.lst (ps.map fun q => V.ref q.1)))
theorem vals_to : ∀ {as : List Addr} {us : List Value}, Vals (as.map V.ref) us → us = as.map Value.ref
  | [], _, .nil => rfl
  | a :: as, _, .cons h t => by
    have e := vals_to t
    cases h
    rw [e]; rfl
theorem cr_sortedLT : CallRK X (.builtin "sorted") [Str.ofString "reverse"] (rSortLT X.K) := by
  intro pins s σ H vs zs us ws Qq I r rz h
  obtain ⟨a, qs, rfl, rfl, hs, hq, q⟩ := h
  obtain rfl := Vals.ref1 r
  obtain ⟨wb, rfl, e1⟩ := vals1 rz
  obtain rfl : wb = Value.bool true := e1
  obtain ⟨its, rv, hl, hz⟩ := I.list hs  -- q
  have ei : its = (qs.map (·.1)).map Value.ref := by
    refine vals_to ?_
    rw [List.map_map]; exact rv
  have ti : ∀ p ∈ qs, TS.TupInts s.heap (.ref p.1) p.2 := fun p hp => tupI_raw I (ns := p.2) (.inl (Rd.of (hq p hp).1))
  have hv : ∀ v ∈ its, ∃ p ∈ qs, v = Value.ref p.1 := fun v hm => by
    rw [ei, List.map_map] at hm
    obtain ⟨p, hp, e⟩ := List.mem_map.mp hm  -- q
    exact ⟨p, hp, e.symm⟩
  have hv2 : ∀ v ∈ its, TS.TupInts s.heap v (TS.intsOf s.heap v) ∧ TS.intsOf s.heap v ≠ [] := fun v hm => by
    obtain ⟨p, hp, rfl⟩ := hv v hm
    have t := ti p hp
    rw [t.ints]
    exact ⟨t, (hq p hp).2⟩
  refine SrtR.sorted_ordK (b := true) (ltv := fun v u => HT.lexLt (TS.intsOf s.heap v) (TS.intsOf s.heap u)) (fun _ => rfl) (PyProof.Rows.args_sorted_rev _ _) (fun _ => PyProof.Rows.args_list_sort_rev _ _) (NtL.swo_lexL fun v => TS.intsOf s.heap v) hl.isList (by rw [← rv.length]; exact hz) (fun h2 h₁ l hl1 kp => ?_) fun out hs1 hb => ?_
  · refine Srt2.tups_sortable (by omega) (fun v hm => ⟨(hv2 v hm).1.keeps fun b o e _ => (kp b o e).2, (hv2 v hm).2⟩) fun o e => ?_
    rw [hl1] at e
    cases e
    intro c
    injection c with c
    exact absurd c (by decide)
  · simp only [if_true] at hb ⊢
    have hp : out.reverse.Perm its := (List.reverse_perm _).trans (hb.perm.trans (List.reverse_perm _))
    have hm : ∀ v ∈ out.reverse, ∃ p ∈ qs, v = Value.ref p.1 := fun v hv' => hv v (hp.mem_iff.mp hv')
    have er : (out.toArray.reverse) = out.reverse.toArray := by simp
    rw [er]
    have hs' : out.reverse.Pairwise fun x y => HT.lexLt (TS.intsOf s.heap x) (TS.intsOf s.heap y) = false := List.pairwise_reverse.mpr hs1
    generalize out.reverse = R at hp hm hs'
    have ev : R = (R.map NtAd).map Value.ref := by
      rw [List.map_map]
      refine (List.map_id R).symm.trans (List.map_congr_left fun v hv' => ?_)
      obtain ⟨x, _, e⟩ := hm v hv'
      rw [e]; rfl
    have lR : R.length ≤ sizeLine := by
      rw [hp.length_eq, ← rv.length]
      exact hz
    have hr : ∀ as : List Addr, Vals (as.map V.ref) (as.map Value.ref) := fun as => by
      induction as with
      | nil => exact .nil
      | cons b as ih => exact .cons rfl ih
    have eq1 : (R.map fun v => (NtAd v, TS.intsOf s.heap v)).map (fun q => V.ref q.1) = (R.map NtAd).map V.ref := by rw [List.map_map, List.map_map]; rfl
    obtain ⟨ep, he'⟩ := PyProof.Rows.sortedAll_at s.heap its R.toArray
    refine ⟨.ref _, upd H (s.heap.objs.size + 1) (.lst ((R.map fun v => (NtAd v, TS.intsOf s.heap v)).map fun q => V.ref q.1)), I.laid (t' := s.toks) (fun _ _ => PyProof.Rows.sortedAll_old) (Nat.le_succ _) ⟨by rw [List.length_map, List.length_map]; exact lR, R, ep, ?_, he'⟩, rfl, q _ _ ?_ ?_ (fun w hw => ?_) (I.hok.fresh (Nat.le_succ _))⟩
    · rw [eq1]
      have := hr (R.map NtAd)
      rw [← ev] at this
      exact this
    · have k1 : its.map (TS.intsOf s.heap) = qs.map (·.2) := by
        rw [ei, List.map_map, List.map_map]
        exact List.map_congr_left fun p hp => (ti p hp).ints
      rw [List.map_map, ← k1]
      exact hp.map (TS.intsOf s.heap)
    · exact List.pairwise_map.mpr hs'
    · obtain ⟨v, v1, rfl⟩ := List.mem_map.mp hw
      obtain ⟨p, p1, rfl⟩ := hm v v1
      show H p.1 = some (.tup ((TS.intsOf s.heap (.ref p.1)).map V.int))
      rw [(ti p p1).ints]
      exact (hq p p1).1
end
section
variable {X : Cx} {ξ : Addr × Nat} {W : WX} {cr : Nat → Value} {F H F0 H0 : Hp} {env : En} {σ : L2.St} {pos : Pos}
def rLstDT : List V → Hp → VK → Prop := fun xs H Q => ∃ d kvs, xs = [V.ref d] ∧ Rd H d (.dT kvs) ∧ ∀ p bs, H p = none → IsKeys H kvs bs → Q (.ref p) (upd H p (.lst (bs.map V.ref)))
theorem isKeys_qs {kvs : List (List Int × D)} : ∀ {ws : List (List Key × V)} {bs : List Addr}, KvOk F ws kvs → IsKeys H ws bs → ∃ qs : List (Addr × List Int), qs.map (·.1) = bs ∧ qs.map (·.2) = kvs.map (·.1) ∧ ∀ q ∈ qs, H q.1 = some (.tup (q.2.map V.int)) := by
  induction kvs with
  | nil =>
    intro ws bs h k
    cases ws with
    | nil => cases k; exact ⟨[], rfl, rfl, fun _ h => nomatch h⟩
    | cons w ws => exact h.elim
  | cons kv kvs ih =>
    intro ws bs h k
    cases ws with
    | nil => exact h.elim
    | cons w ws =>
      cases k with
      | cons h1 h2 =>
        rename_i b bs
        obtain ⟨qs, a1, a2, a3⟩ := ih h.2.2 h2
        refine ⟨(b, kv.1) :: qs, by rw [List.map_cons, a1], by rw [List.map_cons, List.map_cons, a2], fun q hq => ?_⟩
        rcases List.mem_cons.mp hq with e | e  -- q
        · subst e
          show H b = some (.tup (kv.1.map V.int))
          rw [h1, h.1, List.map_map]; rfl
        · exact a3 q e
theorem se_srtL {i : Nat} : SE ξ W cr (tCKw (rSortLT X.K) (tCons (tCB rLstDT (tCons (tVar i) tNil)) tNil) (tCons (tC (.bl true)) tNil)) (srtE i) := fun F0 H0 env σ F H Qq s ne ok er => by
  have un : srtE i env = match gt env i with
    | .t kvs => if ∀ p ∈ kvs, p.1 ≠ [] then .ok (.f ((srtF (kvs.map (·.1))).map keyD)) env else .no
    | _ => .no := rfl
  cases hs : gt env i with
  | t kvs =>
    simp only [hs] at un
    by_cases hn : ∀ p ∈ kvs, p.1 ≠ []
    · rw [if_pos hn] at un
      obtain ⟨a, ws, e1, e2, e3, e4, e5⟩ := sim_dic s hs
      refine ⟨.ref a, e1, a, ws, rfl, Rd.of e4, fun p0 bs hp0 hk => ?_⟩
      obtain ⟨qs, b1, b2, b3⟩ := isKeys_qs e5 hk
      have hup : ∀ q : Addr × List Int, H q.1 = some (.tup (q.2.map V.int)) → upd H p0 (.lst (bs.map V.ref)) q.1 = some (.tup (q.2.map V.int)) := fun q hq => by
        rw [upd_ne (ne_of_none hq hp0)]; exact hq
      refine ⟨p0, qs, rfl, rfl, .inl (Rd.of (by rw [upd_same, ← b1, List.map_map]; rfl)), fun q hq => ⟨hup q (b3 q hq), ?_⟩, fun ps p hp hf ht hq => ?_⟩
      · have : q.2 ∈ kvs.map (·.1) := by rw [← b2]; exact List.mem_map_of_mem hq
        obtain ⟨kv, k1, k2⟩ := List.mem_map.mp this
        rw [← k2]; exact hn kv k1
      · have g0 : Gr F H F (upd H p0 (.lst (bs.map V.ref))) := Gr.cell s.fh hp0
        obtain ⟨F', g, hF, hT⟩ := Gr.still (u := .lst (ps.map fun q => V.ref q.1)) g0.fh hq ps ht
        have ek : ps.map (·.2) = srtF (kvs.map (·.1)) := srtF_eq (by rw [← b2]; exact hp) (List.pairwise_map.mpr hf)
        have hpH : H p = none := by
          cases z : H p with
          | none => rfl
          | some o =>
            rw [upd_ne (ne_of_none z hp0), z] at hq
            cases hq
        have rp : ∀ {ps : List (Addr × List Int)}, (∀ q ∈ ps, F' q.1 = some (.tup (q.2.map V.int))) → RpAll F' (ps.map fun q => V.ref q.1) ((ps.map (·.2)).map keyD) := fun {ps} => by
          induction ps with
          | nil => exact fun _ => .nil
          | cons q ps ih =>
            intro h
            have ri : ∀ ns : List Int, RpAll F' (ns.map V.int) (ns.map PyData.int) := fun ns => by
              induction ns with
              | nil => exact .nil
              | cons n ns ih => exact .cons (.int n) ih
            exact .cons (.tup (h q List.mem_cons_self) (ri q.2)) (ih fun x hx => h x (List.mem_cons_of_mem _ hx))
        have res : Res F H F' (upd (upd H p0 (.lst (bs.map V.ref))) p (.lst (ps.map fun q => V.ref q.1))) (.ref p) (.f ((srtF (kvs.map (·.1))).map keyD)) := ⟨g0.trans g, p, _, rfl, hF, hpH, upd_same, by rw [← ek]; exact rp hT⟩
        obtain ⟨s2, ok2⟩ := res.ok s
        exact ok _ env un _ _ _ s2 (g0.trans g).f (g0.trans g).h ok2
    · exact absurd (by rw [un, if_neg hn]) ne
  | _ => exact absurd (by rw [un]; simp only [hs]) ne
theorem je_srtL (i : Nat) {x : Str} {p p2 p3 p4 p5 p6 : Pos} {j : Nat} (hc : X.calm = true) (hg : Gl X "sorted") (hm : X.mg "sorted" = none) (hg2 : Gl X "list") (hm2 : X.mg "list" = none) (hN : X.N[i]? = some x := by rfl) (hv : Vis X.env.scope x := by first | exact Or.inl rfl | exact Or.inr (Or.inl rfl) | exact Or.inr (Or.inr rfl)) (hdb : (x == ("__debug__" : Str)) = false := by decide)
    (hcd : (x == ("__classdict__" : Str)) = false := by decide) : JE X ξ W cr (.Call (.Name "sorted" p) [.Call (.Name "list" p5) [.Name x p2] [] p6] [⟨some "reverse", .Constant (.bool true) j p3, p4⟩] pos) (srtE i) := by
  refine ⟨_, pe_callBK cr_sortedLT hg hm (by decide +kernel) (pa_cons (pe_callTy (call_list_dT hc) hg2 hm2 (by decide +kernel) (pa_cons (pv i hN hv hdb hcd) pa_nil rfl)) pa_nil rfl) (pk_cons pe_bl pk_nil), se_srtL, fun env a env' q k hk => ?_⟩
  have un : srtE i env = match gt env i with
    | .t kvs => if ∀ p ∈ kvs, p.1 ≠ [] then .ok (.f ((srtF (kvs.map (·.1))).map keyD)) env else .no
    | _ => .no := rfl
  rw [un] at q
  cases hs : gt env i with
  | t kvs =>
    simp only [hs] at q
    by_cases hn : ∀ p ∈ kvs, p.1 ≠ []
    · rw [if_pos hn] at q; cases q; exact hk
    · rw [if_neg hn] at q; cases q
  | _ => simp only [hs] at q; cases q
end
/-! <= of tuples of ints -/
theorem lexAt_le : ∀ ns ms : List Int, Ob.lexAt (fun j => decide (ns.getD j 0 = ms.getD j 0)) (fun j => decide (ns.getD j 0 ≤ ms.getD j 0)) (decide (ns.length ≤ ms.length)) 0 (min ns.length ms.length) = !HT.lexLt ms ns
  | [], [] => by rw [HT.lexLt_nil_nil]; rfl
  | [], m :: ms => by rw [HT.lexLt_cons_nil]; rfl
  | n :: ns, [] => by rw [HT.lexLt_nil_cons]; rfl
  | n :: ns, m :: ms => by
    have ih := lexAt_le ns ms
    rw [show min (n :: ns).length (m :: ms).length = min ns.length ms.length + 1 from Nat.add_min_add_right .., Ob.lexAt_succ, lexAt_shift, HT.lexLt_cons]
    have z : decide ((n :: ns).length ≤ (m :: ms).length) = decide (ns.length ≤ ms.length) := by rw [decide_eq_decide]; simp
    rw [z]
    show (if decide (n = m) = true then Ob.lexAt (fun j => decide (ns.getD j 0 = ms.getD j 0)) (fun j => decide (ns.getD j 0 ≤ ms.getD j 0)) (decide (ns.length ≤ ms.length)) 0 (min ns.length ms.length) else decide (n ≤ m)) = _
    rw [ih]
    by_cases q : n = m
    · subst q; simp
    · have q2 : ¬ m = n := fun z => q z.symm
      rw [if_neg (by simpa using q), if_neg q2]
      by_cases z2 : m < n
      · rw [decide_eq_true z2, decide_eq_false (show ¬ n ≤ m by omega)]; rfl
      · rw [decide_eq_false z2, decide_eq_true (show n ≤ m by omega)]; rfl
def leX : D → D → Option Vl := cmpX (fun a b => decide (a ≤ b)) fun ns ms => !HT.lexLt ms ns
theorem op_leX0 {X : Cx} (hu : X.A.units + 64 < cLine) : OpR X (compareOp .LtE) (rTups X.K fun ns ms => !HT.lexLt ms ns) := by
  intro pins s σ H x y v u Q I rx ry h  -- q
  obtain ⟨a, b, ns, ms, rfl, rfl, ha, hb, q⟩ := h  -- q
  refine op_leT (by omega) pins s σ H _ _ v u Q I rx ry ⟨a, b, ns, ms, rfl, rfl, ha, hb, ?_⟩
  rw [lexAt_le]
  exact q
theorem opl_leX {X : Cx} (hu : X.A.units + 64 < cLine) : OpR X (compareOp .LtE) (fun x y H Q => rI0 (fun i j => .bl (decide (i ≤ j))) x y H Q ∨ rTups X.K (fun ns ms => !HT.lexLt ms ns) x y H Q) := op_le.or (op_leX0 hu)
theorem ap_leX {K : PySem.W.Frag} : Op2 (fun x y H Q => rI0 (fun i j => .bl (decide (i ≤ j))) x y H Q ∨ rTups K (fun ns ms => !HT.lexLt ms ns) x y H Q) leX := ap_cmpX
@[simp] theorem leX_i {i j : Int} : leX (.int i) (.int j) = some (.v (.bool (decide (i ≤ j)))) := rfl
theorem leX_t {ns ms : List Int} : leX (.tuple (ns.map PyData.int)) (.tuple (ms.map PyData.int)) = some (.v (.bool (!HT.lexLt ms ns))) := by
  show (match intsOf (ns.map PyData.int), intsOf (ms.map PyData.int) with
    | some ns, some ms => some (Vl.v (.bool (!HT.lexLt ms ns)))
    | _, _ => none) = _
  rw [ints_ofX, ints_ofX]
end
end Q
/-! ### isinstance(e, (C1, C2, ..)) of a caught error -/
namespace Q
open PySem PySem.Spec L2 PyProof.Rows
section
variable {ξ : Addr × Nat} {W : WX} {cr : Nat → Value}
/-- isinstance(e, t), t a tuple of classes that was just laid -/
def rIsET (K : PySem.W.Frag) (D a : Addr) : List V → Hp → VK → Prop := fun xs H Q => ∃ (tp : Addr) (cs : List V) (ws : List Value) (b : Bool), xs = [.ref a, .ref tp] ∧ H tp = some (.tup cs) ∧ Paired ClsV cs ws ∧ PySem.W.kitAny K (.ref D) ws = some b ∧ Q (.bl b) H
theorem call_isET {X : Cx} {a D : Addr} {oe : Obj} {pn : List (Addr × Obj)} (C : ExcC X.K D) (hz : Zc (.ref D) none oe) (hf : ∃ vs, oe.data = .fields vs) : CallR (X.suite a ((a, oe) :: pn)) (.builtin "isinstance") (rIsET X.K D a) := by
  intro pins s σ H xs us Q I r h  -- q
  obtain ⟨tp, cs, ws, b, rfl, hT, k, e, q⟩ := h
  obtain ⟨u1, u2, rfl, r1, r2⟩ := vals2 r  -- q
  cases (show u1 = Value.ref a from r1)  -- q
  cases (show u2 = Value.ref tp from r2)  -- q
  obtain ⟨hget, _⟩ := I.pin (a, oe) (List.mem_append.mpr (.inl List.mem_cons_self))  -- q
  obtain ⟨vs, hv⟩ := hf
  have J : PySem.W.InstAt s.heap a oe D none := by  -- q
    obtain ⟨oc, od, oda, osl⟩ := oe  -- q
    obtain ⟨h1, h2⟩ := hz
    dsimp only at h1 h2 hv
    subst h1 h2 hv
    exact ⟨hget, rfl, rfl, trivial⟩  -- q
  obtain ⟨_, its, rv, o, h1, h2, n, h3⟩ := (show ObjOk X.prog X.w H s.heap tp (.tup cs) from I.hok tp _ hT)  -- q
  have e3 := ClsV.all k rv
  subst e3
  obtain ⟨oc, od, dt, sl⟩ := o
  simp only at h2 h3
  subst h2 h3
  exact PySem.W.kia_tup (PySem.W.handS_kitx_exc C.hg C.hk C.hs C.hd C.ha C.hn C.ht C.hm) I.kIn J h1 e (fun z => nomatch z) fun tk => ⟨.bl b, H, I.kept (t' := tk) fun _ _ z => z, rfl, q⟩
/-- what is asked of each class, and of all of them -/
def KitsAt (K : PySem.W.Frag) (cr : Nat → Value) (ws : List Value) (l : List Bool) (c : Nat) : Prop := ∀ b, l[c]? = some b → ∃ D, cr c = .ref D ∧ ExcC K D ∧ PySem.W.kitAny K (.ref D) ws = some b
theorem kits_one {K : PySem.W.Frag} {c : Nat} {w : Value} {l : List Bool} (h : ∀ b, l[c]? = some b → ∃ D, cr c = .ref D ∧ ExcC K D ∧ PySem.W.kitOne K (.ref D) w = some b) : KitsAt K cr [w] l c := fun b hb => by
  obtain ⟨D, h1, h2, h3⟩ := h b hb
  exact ⟨D, h1, h2, kitAny_cons h3 (fun z => by rw [z]; rfl) fun z => z⟩
theorem kits_cons {K : PySem.W.Frag} {c : Nat} {w : Value} {ws : List Value} {l m : List Bool} (h : ∀ b, l[c]? = some b → ∃ D, cr c = .ref D ∧ ExcC K D ∧ PySem.W.kitOne K (.ref D) w = some b) (hm : KitsAt K cr ws m c) : KitsAt K cr (w :: ws) (List.zipWith (· || ·) l m) c := fun b hb => by
  rw [List.getElem?_zipWith] at hb
  cases h1 : l[c]? with
  | none => rw [h1] at hb; cases hb
  | some x =>
    cases h2 : m[c]? with
    | none => rw [h1, h2] at hb; cases hb
    | some y =>
      rw [h1, h2] at hb
      obtain ⟨D, i1, i2, i3⟩ := h x h1
      obtain ⟨E, j1, j2, j3⟩ := hm y h2
      have e : D = E := by rw [i1] at j1; cases j1; rfl
      subst e
      cases hb
      refine ⟨D, i1, i2, kitAny_cons i3 (fun z => by rw [z]; exact j3) fun z => by rw [z]; rfl⟩
theorem je_isxT {X : Cx} {pos : Pos} (i : Nat) {a : Addr} {oe : Obj} {c : Nat} {pn : List (Addr × Obj)} {l : List Bool} {n : Str} {k : Nat} {es : List Expr} {p p2 p3 : Pos} {ws : List Value} {cs : List V} {ta : TA} (hz : Zc (cr c) none oe) (hf : ∃ vs, oe.data = .fields vs)
    (hN : X.N[i]? = some n) (hv : Vis X.env.scope n) (hg : Gl X "isinstance") (hm : X.mg "isinstance" = none) (hP : PA (X.suite a ((a, oe) :: pn)) es ta) (hT : ∀ (σ : L2.St) (H : Hp) (Qq : List V → Hp → Prop), Qq cs H → ta σ H Qq) (hcs : Paired ClsV cs ws) (hlen : cs.length ≤ 1000)
    (hl : KitsAt X.K cr ws l c)
    (hd : (n == ("__debug__" : Str)) = false := by decide) (hcd : (n == ("__classdict__" : Str)) = false := by decide)
    (hs1 : starEach [.Name n p3, .Tuple es k p2] X.env = (false, eval (.Name n p3) X.env) :: starEach [.Tuple es k p2] X.env := by rfl) (hs2 : (backTo pos (starEach [.Tuple es k p2] X.env)).any (·.1) = false := by rfl) (hs3 : starEach [.Tuple es k p2] X.env = (false, eval (.Tuple es k p2) X.env) :: starEach [] X.env := by rfl) :
    JE (X.suite a ((a, oe) :: pn)) (a, c) W0 cr (.Call (.Name "isinstance" p) [.Name n p3, .Tuple es k p2] [] pos) (isxE i l) := by
  cases hlc : l[c]? with
  | none =>
    refine ⟨fun _ _ _ => False, ⟨fun _ _ _ _ _ _ h => h.elim⟩, fun F0 H0 env σ F H Qq s ne ok er => ?_, nn_isx⟩
    refine absurd ?_ ne
    unfold isxE
    cases hs : gt env i with
    | x c' =>
      have q := s.sl i
      rw [hs] at q
      obtain ⟨_, rfl⟩ := q
      simp only [hlc]
    | _ => rfl
  | some b =>
    obtain ⟨D, hD, hE, hk⟩ := hl b hlc
    rw [hD] at hz
    refine ⟨_, pe_callB (call_isET hE hz hf) hg hm (by decide +kernel) (pa_cons (pv i hN hv hd hcd) (pa_cons (pe_tup hP) pa_nil hs3) hs1) (by decide) (by decide) hs1 hs2, fun F0 H0 env σ F H Qq s ne ok er => ?_, nn_isx⟩
    cases hs : gt env i with
    | x c' =>
      have q := s.sl i
      rw [hs] at q
      obtain ⟨q1, rfl⟩ := q
      refine ⟨.ref a, slot_get s q1, hT _ _ _ ⟨Nat.le_trans hlen (by decide), fun p hp => ⟨p, cs, ws, b, rfl, upd_same, hcs, hk, ok (.v (.bool b)) env (by unfold isxE; simp only [hs, hlc]) _ F (upd H p (.tup cs)) (s.grow (Gr.cell s.fh hp)) (.refl _) (same_new hp) (.bl _)⟩⟩⟩
    | _ => exact absurd (by unfold isxE; simp only [hs]) ne
end
end Q
/-! ### defs that are called within an except suite with the error alone -/
namespace Q
open PySem PySem.Spec L2 PyProof.Rows
section
/-- such a def's promise: p is the error -/
structure FnE (P : Program) (w : World) (K : PySem.W.Frag) (mg : Str → Option Value) (base : Heap) (CX : CXT) (k : Nat) (f : Addr) (fd : FuncData) (p : Addr × Obj) (ps : List Str) (sp : Sp) : Prop where
  len : ∀ vs H Q E, sp vs H Q E → vs.length = ps.length  -- q
  run : ∀ (A : Around) (outer : List Env) (s : Shared) (H : Hp) (args : Args) (us : List Value) (vs : List V) (Q : VK) (E : XK), L2H.RoomH k A → L2H.PinOk outer H s p → Env0 P w K mg base A outer s H → BindsTo s fd args (ps.zip us) → Vals vs us → sp vs H Q E →
    codeAny (model P w) A (.call (.ref f) args) (CR CX outer P w H s Q E) s  -- q
theorem fnE_of {CX : CXT} {P : Program} {w : World} {K : PySem.W.Frag} {mg : Str → Option Value} {base : Heap} {k : Nat} {f : Addr} {name qual : Str} {params : Arguments} {body : List Stmt} {scope : Scope} {dV kV doc pm cdv ct oc : Value} {an od : Option Addr}
    {osl : Array (Option Value)} {N ps : List Str} {sp : Sp} {p : Addr × Obj} (lk : K.lookup f = some ⟨oc, od, .func (PySem.W.fnOf name qual params body scope dV kV doc pm an cdv ct), osl⟩) (hcd : PySem.W.codeIn K cdv qual = true) (S : FnScope N ps scope)
    (len : ∀ vs H Q E, sp vs H Q E → vs.length = ps.length)  -- q
    (hbody : ∀ (A : Around) (outer : List Env) (s : Shared) (H : Hp) (vs : List V) (Q : VK) (E : XK), L2H.RoomH k (A.deeper (envOfC qual scope s.heap.objs.size f cdv)) → sp vs H Q E →
      ∃ t, PSs (L2H.cxH CX P w K mg base N qual scope f cdv A outer s H E p) body t ∧ t { nx := fun _ H' => Q .non H', rt := Q } (L2.start N vs) H) :
    FnE P w K mg base CX (k + 1) f (PySem.W.fnOf name qual params body scope dV kV doc pm an cdv ct) p ps sp := by
  refine ⟨len, fun A outer s H args us vs Q E hr hpin e0 hb r hsp => ?_⟩
  have hl := len _ _ _ _ hsp
  have KX : K.In s.heap := e0.mod.kin.keeps fun b o e => (e0.bs b o e).1  -- q
  have lim : s.heap.NoLimit := e0.mod.nolimit.keeps fun b o e => (e0.bs b o e).1  -- q
  have hkind : ∀ y ∈ ps.zip us, scope.names.lookup y.1 = some .local ∨ (scope.names.lookup y.1 = some .cell ∧ ((cellsFrom (s.heap.objs.size + 1) scope.names []).lookup y.1).isSome = true) := fun ⟨n, v⟩ hy => by  -- q
    rcases S.par n (List.of_mem_zip hy).1 with q | q  -- q
    · exact .inl q
    · exact .inr ⟨q, PySem.W.cellsFrom_some _ _ _ (.inl q)⟩  -- q
  refine codeAny_call_function hr.depth (KX _ _ lk) rfl S.co S.gen rfl (PySem.W.codeRec_of KX hcd) (hb _ _ _ _ ?_)  -- q
  refine wpAny_newFunctionEnv_cells S.kind hkind fun env he s1 x => ?_  -- q
  subst he
  refine ⟨lim.keeps x.toInCall.keep, codeAny_func ?_⟩  -- q
  obtain ⟨t, ht, hq⟩ := hbody A outer s H vs Q E (hr.deeper _) hsp  -- q
  have I : Inv (L2H.cxH CX P w K mg base N qual scope f cdv A outer s H E p) [] (L2.start N vs) H s1 := L2H.inv_startH S hpin e0 hl r x
  refine wpAny_mono (ht.run [] s1 (L2.start N vs) H _ I hq) (fun fl s' hs => ?_) fun e s' hs => hs  -- q
  have fin : ∀ {σ' : L2.St} {H' : Hp} {v : V} {u : Value}, Inv (L2H.cxH CX P w K mg base N qual scope f cdv A outer s H E p) [] σ' H' s' → RelV v u → Q v H' → CE outer P w H s Q u s' :=
    fun {σ' H' v u} J rv q => ⟨v, H', J.os, J.bare, J.base, J.hok, rv, q⟩  -- q
  cases fl with
  | ret u =>
    obtain ⟨v, σ', H', J, rv, q⟩ := hs  -- q
    exact fin J rv q
  | next =>
    obtain ⟨σ', H', J, q⟩ := hs
    exact fin (v := V.non) (u := Value.none) J rfl q  -- q
  | brk =>
    obtain ⟨_, _, _, q⟩ := hs
    exact False.elim q
  | cont =>
    obtain ⟨_, _, _, q⟩ := hs
    exact False.elim q
theorem run_fnE {X : Cx} {CX : CXT} {k : Nat} {f : Addr} {fd : FuncData} {ps : List Str} {sp : Sp} {E : L2.St → XK} {p : Addr × Obj} {pins : List (Addr × Obj)} {σ : L2.St} {H : Hp} {s : Shared} {Q : VK} {us : List Value} {vs : List V} (F : FnE X.prog X.w X.K X.mg X.base CX k f fd p ps sp) (hr : L2H.RoomH k X.A) (hp : p ∈ X.pn) (hb : Binds X.K fd ps []) (hx : PassesAt CX X σ (E σ))
    (I : Inv X pins σ H s) (r : Vals vs us) (h : sp vs H Q (E σ)) : wpAny (model X.prog X.w) X.A (call (.ref f) us) (EP X pins σ Q) X.xe s := by  -- q
  have hl : us.length = ps.length := by rw [← r.length]; exact F.len _ _ _ _ h  -- q
  have b := hb s us I.kIn (by rw [List.append_nil]; exact hl)  -- q
  rw [List.append_nil] at b
  have P1 := I.pin p (List.mem_append_left _ hp)  -- q
  have hpin : L2H.PinOk X.stack H s p := ⟨P1.1, P1.2.1, fun hm => (List.mem_cons.mp (I.stkSub p.1 hm)).elim P1.2.2.1 P1.2.2.2.1, P1.2.2.2.2⟩
  refine wpAny_call (codeAny_mono (F.run X.A X.stack s H ⟨us, []⟩ us vs Q (E σ) hr hpin I.env0 b r h) fun r s' hq => ?_)
  cases r with
  | error e => exact hx pins H s e s' I hq  -- q
  | ok fl =>
    cases fl with
    | ret u => exact I.after hq
    | next => exact False.elim hq
    | brk => exact False.elim hq
    | cont => exact False.elim hq
theorem pe_callEr {X : Cx} {CX : CXT} {k : Nat} {f : Addr} {fd : FuncData} {ps : List Str} {sp : Sp} {E : L2.St → XK} {p : Addr × Obj} {x : Str} {q pos : Pos} {e : Expr} {es : List Expr} {t : TA} (F : FnE X.prog X.w X.K X.mg X.base CX k f fd p ps sp) (hr : L2H.RoomH k X.A) (hp : p ∈ X.pn) (hg : Gl X x) (hm : X.mg x = some (.ref f)) (hk : PySem.W.keepIn X.K (.ref f) = true) (hb : Binds X.K fd ps []) (hx : ∀ σ, PassesAt CX X σ (E σ))
    (ha : PA X (e :: es) t) (hdb : (x == ("__debug__" : Str)) = false := by decide) (he : starEach (e :: es) X.env = (false, eval e X.env) :: starEach es X.env := by rfl) (hpl : (backTo pos (starEach es X.env)).any (·.1) = false := by rfl) :  -- q
    PE X (.Call (.Name x q) (e :: es) [] pos) (tCallS sp E t) := by  -- q
  refine ⟨fun pins s σ H Q I h => ?_⟩  -- q
  refine wpAny_Call_Name_kw (ld_glob I hg hm ?_ hdb)  -- q
  refine PySem.W.callWith_K (h₀ := X.base) I.ok.mod.kin hk (thn (ha.run pos pins s σ H _ I h) fun us s1 ⟨vs, H1, I1, r, q⟩ => ⟨I1.kIn, ?_⟩) he hpl  -- q
  exact run_fnE F hr hp hb (hx σ) I1 r q
end
section
variable {ξ : Addr × Nat} {W : WX} {cr : Nat → Value}
/-- isinstance(e, C), e the error p, held by the context -/
theorem call_isEp {X : Cx} {D : Addr} {p : Addr × Obj} (hp : p ∈ X.pn) (C : ExcC X.K D) (hz : Zc (.ref D) none p.2) (hf : ∃ vs, p.2.data = .fields vs) : CallR X (.builtin "isinstance") (rIsE X.K D p.1) := by
  intro pins s σ H xs us Q I r h  -- q
  obtain ⟨c, cv, b, rfl, hcv, e, q⟩ := h  -- q
  cases r with
  | cons rx rr =>
    cases rr with
    | cons rt rr =>
      cases rr
      cases rx
      have ec := hcv _ rt
      subst ec
      obtain ⟨hget, _⟩ := I.pin p (List.mem_append_left _ hp)
      obtain ⟨vs, hv⟩ := hf
      have J : PySem.W.InstAt s.heap p.1 p.2 D none := by
        obtain ⟨pa, oc, od, oda, osl⟩ := p
        obtain ⟨h1, h2⟩ := hz
        dsimp only at h1 h2 hv
        subst h1 h2 hv
        exact ⟨hget, rfl, rfl, trivial⟩  -- q
      exact PySem.W.kia_one (PySem.W.handS_kitx_exc C.hg C.hk C.hs C.hd C.ha C.hn C.ht C.hm) I.kIn J e (fun z => nomatch z) fun tk => ⟨.bl b, H, I.kept (t' := tk) fun _ _ z => z, rfl, q⟩  -- q
theorem je_isxP {X : Cx} {pos : Pos} (i : Nat) {p : Addr × Obj} {c : Nat} {l : List Bool} {x n : Str} {q p2 p3 : Pos} {cv : Value} {cV : V} (hp : p ∈ X.pn) (hz : Zc (cr c) none p.2) (hf : ∃ vs, p.2.data = .fields vs) (hcV : ∀ u, RelV cV u → u = cv)
    (hN : X.N[i]? = some n) (hv : Vis X.env.scope n) (hg : Gl X "isinstance") (hm : X.mg "isinstance" = none) (hC : PE X (.Name x p2) (tC cV))
    (hl : ∀ b, l[c]? = some b → ∃ D, cr c = .ref D ∧ ExcC X.K D ∧ PySem.W.kitOne X.K (.ref D) cv = some b)
    (hd : (n == ("__debug__" : Str)) = false := by decide) (hcd : (n == ("__classdict__" : Str)) = false := by decide)
    (hs1 : starEach [.Name n p3, .Name x p2] X.env = (false, eval (.Name n p3) X.env) :: starEach [.Name x p2] X.env := by rfl) (hs2 : (backTo pos (starEach [.Name x p2] X.env)).any (·.1) = false := by rfl) (hs3 : starEach [.Name x p2] X.env = (false, eval (.Name x p2) X.env) :: starEach [] X.env := by rfl) :
    JE X (p.1, c) W0 cr (.Call (.Name "isinstance" q) [.Name n p3, .Name x p2] [] pos) (isxE i l) := by
  cases hlc : l[c]? with
  | none =>
    refine ⟨fun _ _ _ => False, ⟨fun _ _ _ _ _ _ h => h.elim⟩, fun F0 H0 env σ F H Qq s ne ok er => ?_, nn_isx⟩
    refine absurd ?_ ne
    unfold isxE
    cases hs : gt env i with
    | x c' =>
      have q := s.sl i
      rw [hs] at q
      obtain ⟨_, rfl⟩ := q
      simp only [hlc]
    | _ => rfl
  | some b =>
    obtain ⟨D, hD, hE, hk⟩ := hl b hlc
    rw [hD] at hz
    refine ⟨_, pe_callB (call_isEp hp hE hz hf) hg hm (by decide +kernel) (pa_cons (pv i hN hv hd hcd) (pa_cons hC pa_nil hs3) hs1) (by decide) (by decide) hs1 hs2, fun F0 H0 env σ F H Qq s ne ok er => ?_, nn_isx⟩
    cases hs : gt env i with
    | x c' =>
      have q := s.sl i
      rw [hs] at q
      obtain ⟨q1, rfl⟩ := q
      exact ⟨.ref p.1, slot_get s q1, cV, cv, b, rfl, hcV, hk, ok (.v (.bool b)) env (by unfold isxE; simp only [hs, hlc]) _ F H s (.refl _) (.refl _) (.bl _)⟩
    | _ => exact absurd (by unfold isxE; simp only [hs]) ne
/-- the promise: from the error of class c -/
def spE (a : Addr) (c : Nat) (m : Fv) : Sp := fun vs H Qq _ => ∃ F, Same F H ∧ vs = [.ref a] ∧ m [.x c] ≠ .no ∧ (∀ vl, m [.x c] = .ok vl → ∀ v F' H', Res F H F' H' v vl → Qq v H') ∧ ∀ c', m [.x c] ≠ .err c'
theorem sim_startE {F H : Hp} {a : Addr} {c : Nat} {N : List Str} (g : Same F H) (hl : 1 ≤ N.length) : Sim (a, c) F H ([Sl.x c] ++ List.replicate (N.length - 1) .un) (L2.start N [.ref a]) F H := by
  have e1 : ∀ i, gt ([Sl.x c] ++ List.replicate (N.length - 1) Sl.un) i = if i = 0 then .x c else .un := fun i => by
    unfold gt
    rw [List.getD_eq_getElem?_getD, List.getElem?_append]
    by_cases q : i = 0
    · subst q; rfl
    · rw [if_neg (by simp; omega), if_neg q, List.getElem?_replicate]
      split <;> rfl
  refine ⟨.refl _, .refl _, g, fun _ _ e => .inl e, ?_, fun i => ?_, fun i j b hi => ?_⟩
  · unfold L2.start
    simp
  · rw [e1]
    by_cases q : i = 0
    · subst q; exact ⟨rfl, rfl⟩
    · rw [if_neg q]; trivial
  · rw [e1] at hi
    by_cases q : i = 0
    · rw [if_pos q] at hi; cases hi
    · rw [if_neg q] at hi; cases hi
end
end Q
/-! ### defs of the error; what is never reached; split, index of texts -/
namespace Q
noncomputable section
open PySem PySem.Spec L2 PyProof.Rows
section
variable {X : Cx} {ξ : Addr × Nat} {W : WX} {cr : Nat → Value} {pos : Pos} {e o : Expr}
theorem fn_okE {P : Program} {w : World} {K : PySem.W.Frag} {mg : Str → Option Value} {base : Heap} {x qual : Str} {st : Stmt} {f : Addr} {fd : FuncData} {N ps : List Str} {k : Nat} {b : Sv} {p : Addr × Obj} {c : Nat} (Fn : Fun K x qual st f fd) (S : FnScope N ps (defScope st)) (hp1 : ps.length = 1) (hN : 1 ≤ N.length)
    (hbody : ∀ (cdv : Value) (A : Around) (outer : List Env) (s : Shared) (H : Hp) (E : XK), JSs (L2H.cxH (L2.CX P w) P w K mg base N qual (defScope st) f cdv A outer s H E p) (p.1, c) W0 cr (defBody st) b) :
    FnE P w K mg base (L2.CX P w) (k + 1) f fd p ps (spE p.1 c (runDef N.length b)) := by
  obtain ⟨oc, od, kV, doc, pm, an, cdv, ct, osl, rfl, lk, hcd⟩ := Fn.ex
  refine fnE_of lk hcd S (fun vs H Qq E h => ?_) fun A outer s H vs Qq E hr h => ?_
  · obtain ⟨_, _, rfl, _⟩ := h
    exact hp1.symm
  · obtain ⟨ts, h1, h2⟩ := hbody cdv A outer s H E
    obtain ⟨F, g, rfl, hne, hok, her⟩ := h
    have un : runDef N.length b [.x c] = match b ([Sl.x c] ++ List.replicate (N.length - 1) .un) with
      | .rt v => .ok v
      | .nx _ => .ok (.v .none)
      | .err c _ => .err c
      | _ => .no := rfl
    refine ⟨ts, h1, h2 F H _ _ F H _ (sim_startE g hN) (fun z => hne (by rw [un]; simp only [z])) (fun e' z σ' F' H' s' _ => ?_) (fun vl z v F' H' res => ?_) (fun e' z => ?_) (fun e' z => ?_) fun c' e' z σ' F' H' s' => ?_⟩
    · exact hok (.v .none) (by rw [un]; simp only [z]) .non F' H' ⟨⟨s'.f, s'.h, s'.fh, s'.n⟩, .non⟩
    · exact hok vl (by rw [un]; simp only [z]) v F' H' res
    · exact absurd (by rw [un]; simp only [z]) hne
    · exact absurd (by rw [un]; simp only [z]) hne
    · exact absurd (by rw [un]; simp only [z]) (her c')
def callX (m : Fv) (i : Nat) : Ev := fun env => match gt env i with
  | .x c => match m [.x c] with
    | .ok vl => .ok vl env
    | _ => .no
  | _ => .no
theorem nn_callX {m : Fv} {i : Nat} : NN (callX m i) := fun env a env' q j hj => by
  unfold callX at q
  cases hs : gt env i with
  | x c =>
    simp only [hs] at q
    cases hl : m [.x c] with
    | ok vl => simp only [hl] at q; cases q; exact hj
    | _ => simp only [hl] at q; cases q
  | _ => simp only [hs] at q; cases q
/-- a call of such a def, in the suite that holds the error, or in another such def -/
theorem je_callX {k : Nat} {f : Addr} {fd : FuncData} {ps : List Str} {m : Fv} {x n : Str} {q p3 : Pos} {p : Addr × Obj} {c : Nat} (i : Nat) (G : FnE X.prog X.w X.K X.mg X.base (L2.CX X.prog X.w) k f fd p ps (spE p.1 c m)) (hr : L2H.RoomH k X.A) (hp : p ∈ X.pn)
    (hm : X.mg x = some (.ref f)) (hk : PySem.W.keepIn X.K (.ref f) = true) (hb : Binds X.K fd ps []) (hg : Gl X x) (hN : X.N[i]? = some n) (hv : Vis X.env.scope n) (hdb : (x == ("__debug__" : Str)) = false := by decide)
    (hd : (n == ("__debug__" : Str)) = false := by decide) (hcd : (n == ("__classdict__" : Str)) = false := by decide)
    (he : starEach [.Name n p3] X.env = (false, eval (.Name n p3) X.env) :: starEach [] X.env := by rfl) (hpl : (backTo pos (starEach [] X.env)).any (·.1) = false := by rfl) : JE X (p.1, c) W0 cr (.Call (.Name x q) [.Name n p3] [] pos) (callX m i) := by
  refine ⟨_, pe_callEr G hr hp hg hm hk hb (fun σ => passAt (W := W0) takes0 σ) (pa_cons (pv i hN hv hd hcd) pa_nil he) hdb he hpl, fun F0 H0 env σ F H Qq s ne ok er => ?_, nn_callX⟩
  cases hs : gt env i with
  | x c' =>
    have q := s.sl i
    rw [hs] at q
    obtain ⟨q1, rfl⟩ := q
    cases hl : m [.x c'] with
    | ok vl =>
      refine ⟨.ref p.1, slot_get s q1, F, s.fh, rfl, (by rw [hl]; exact fun z => by cases z), fun vl' h' v F' H' res => ?_, fun c2 z => by rw [hl] at z; cases z⟩
      rw [hl] at h'
      cases h'
      obtain ⟨s', ok2⟩ := res.ok s
      exact ok vl env (by unfold callX; simp only [hs, hl]) v F' H' s' res.1.f res.1.h ok2
    | _ => exact absurd (by unfold callX; simp only [hs, hl]) ne
  | _ => exact absurd (by unfold callX; simp only [hs]) ne
/-- what is never reached -/
theorem je_no : JE X ξ W cr e (fun _ => .no) := ⟨fun _ _ _ => False, ⟨fun _ _ _ _ _ _ h => h.elim⟩, fun _ _ _ _ _ _ _ _ ne => absurd rfl ne, fun _ _ _ h => nomatch h⟩
theorem strs_rp (F : Hp) : ∀ ys : List Str, RpAll F (ys.map V.str) (ys.map PyData.str)
  | [] => .nil
  | y :: ys => .cons (.str y) (strs_rp F ys)
def splitK (d : D) (g : Ev) : En → R Vl := match d with
  | .str a => bnd g fun d' e => match d' with
    | .str b => if (b.length == 0) = false ∧ a.length + 2 ≤ LIM then .ok (.f ((Txt.split a b).map PyData.str)) e else .no
    | _ => .no
  | _ => fun _ => .no
def splitE (f g : Ev) : Ev := bnd f fun d => splitK d g
theorem je_split {f g : Ev} {apos : Pos} (ho : JE X ξ W cr o f) (he : JE X ξ W cr e g) (hs : starEach [e] X.env = [(false, eval e X.env)] := by rfl) (hbase : attributeBase o "split" X.env (eval o X.env) = eval o X.env := by rfl) (hline : (apos.endLine == pos.line) = true := by rfl) :
    JE X ξ W cr (.Call (.Attribute o "split" apos) [e] [] pos) (splitE f g) := by
  obtain ⟨to, o1, o2, o3⟩ := ho
  obtain ⟨te, e1, e2, e3⟩ := he
  refine ⟨_, pe_split o1 e1 hs hbase hline, fun F0 H0 env σ F H Qq s ne ok er => ?_, nn_bnd o3 fun d => ?_⟩
  · refine se_bnd (k := fun d => splitK d g) o2 s ne (fun d a1 h1 v F1 H1 s1 f1 g1 c1 => ?_) er
    cases d with
    | str a =>
      cases (show Rp F1 v (.str a) from c1)
      refine ⟨⟨a, rfl⟩, ?_⟩
      have ne2 : splitK (.str a) g a1 ≠ .no := by rw [← h1]; exact ne
      refine se_bnd (k := fun d' e => match d' with
        | .str b => if (b.length == 0) = false ∧ a.length + 2 ≤ LIM then R.ok (Vl.f ((Txt.split a b).map PyData.str)) e else .no
        | _ => .no) e2 s1 ne2 (fun d' a2 h2 v' F2 H2 s2 f2 g2 c2 => ?_) fun c a2 h2 => er c a2 (h1.trans h2)
      have h3 : splitE f g env = _ := h1.trans h2
      cases d' with
      | str b =>
        cases (show Rp F2 v' (.str b) from c2)
        by_cases q : (b.length == 0) = false ∧ a.length + 2 ≤ LIM
        · have h3 : splitE f g env = .ok (.f ((Txt.split a b).map PyData.str)) a2 := by rw [h3]; exact if_pos q
          refine ⟨a, b, rfl, rfl, q.1, by rw [← LIM_eq]; exact q.2, fun p hp => ?_⟩
          have res := Res.lst (vs := (Txt.split a b).map V.str) (ds := (Txt.split a b).map PyData.str) s2.fh hp (strs_rp F2 _)
          obtain ⟨s3, ok3⟩ := res.ok s2
          exact ok _ a2 h3 _ _ _ s3 ((f1.trans f2).trans res.1.f) ((g1.trans g2).trans res.1.h) ok3
        · exact absurd (by rw [h3]; exact if_neg q) ne
      | _ => exact absurd h3 ne
    | _ => exact absurd h1 ne
  · cases d with
    | str a =>
      refine nn_bnd e3 fun d' env b env' h i hi => ?_
      cases d' with
      | str b' =>
        by_cases q : (b'.length == 0) = false ∧ a.length + 2 ≤ LIM
        · have h' : (if (b'.length == 0) = false ∧ a.length + 2 ≤ LIM then R.ok (Vl.f ((Txt.split a b').map PyData.str)) env else .no) = .ok b env' := h
          rw [if_pos q] at h'
          cases h'; exact hi
        · have h' : (if (b'.length == 0) = false ∧ a.length + 2 ≤ LIM then R.ok (Vl.f ((Txt.split a b').map PyData.str)) env else .no) = .ok b env' := h
          rw [if_neg q] at h'
          cases h'
      | _ => cases h
    | _ => exact fun env b env' h => by cases h
def sidxK (d : D) (g : Ev) : En → R Vl := match d with
  | .str a => bnd g fun d' e => match d' with
    | .str b => match Builtin.Str.occurrences a b 0 a.length 1 with
      | i :: _ => .ok (.v (.int (i : Nat))) e
      | [] => .no
    | _ => .no
  | _ => fun _ => .no
def sidxE (f g : Ev) : Ev := bnd f fun d => sidxK d g
theorem je_sidx {f g : Ev} {apos : Pos} (ho : JE X ξ W cr o f) (he : JE X ξ W cr e g) (hs : starEach [e] X.env = [(false, eval e X.env)] := by rfl) (hbase : attributeBase o "index" X.env (eval o X.env) = eval o X.env := by rfl) (hline : (apos.endLine == pos.line) = true := by rfl) :
    JE X ξ W cr (.Call (.Attribute o "index" apos) [e] [] pos) (sidxE f g) := by
  obtain ⟨to, o1, o2, o3⟩ := ho
  obtain ⟨te, e1, e2, e3⟩ := he
  refine ⟨_, pe_m1 PySem.F.slot_str_index PySem.F.type_str_index mt_sindex o1 e1 hs hbase hline, fun F0 H0 env σ F H Qq s ne ok er => ?_, nn_bnd o3 fun d => ?_⟩
  · refine se_bnd (k := fun d => sidxK d g) o2 s ne (fun d a1 h1 v F1 H1 s1 f1 g1 c1 => ?_) er
    cases d with
    | str a =>
      cases (show Rp F1 v (.str a) from c1)
      refine ⟨⟨a, rfl⟩, ?_⟩
      have ne2 : sidxK (.str a) g a1 ≠ .no := by rw [← h1]; exact ne
      refine se_bnd (k := fun d' e => match d' with
        | .str b => match Builtin.Str.occurrences a b 0 a.length 1 with
          | i :: _ => R.ok (Vl.v (.int (i : Nat))) e
          | [] => .no
        | _ => .no) e2 s1 ne2 (fun d' a2 h2 v' F2 H2 s2 f2 g2 c2 => ?_) fun c a2 h2 => er c a2 (h1.trans h2)
      have h3 : sidxE f g env = _ := h1.trans h2
      cases d' with
      | str b =>
        cases (show Rp F2 v' (.str b) from c2)
        cases q : Builtin.Str.occurrences a b 0 a.length 1 with  -- q
        | nil => exact absurd (by rw [h3]; simp only [q]) ne
        | cons i rest =>
          refine ⟨a, b, i, rest, rfl, rfl, q, ?_⟩
          exact ok (.v (.int (i : Nat))) a2 (by rw [h3]; simp only [q]) _ _ _ s2 (f1.trans f2) (g1.trans g2) (.int _)
      | _ => exact absurd h3 ne
    | _ => exact absurd h1 ne
  · cases d with
    | str a =>
      refine nn_bnd e3 fun d' env b env' h i hi => ?_
      cases d' with
      | str b' =>
        cases q : Builtin.Str.occurrences a b' 0 a.length 1 with
        | nil =>
          have h' : (match Builtin.Str.occurrences a b' 0 a.length 1 with
            | i :: _ => R.ok (Vl.v (.int (i : Nat))) env
            | [] => .no) = .ok b env' := h
          rw [q] at h'
          cases h'
        | cons i' rest =>
          have h' : (match Builtin.Str.occurrences a b' 0 a.length 1 with
            | i :: _ => R.ok (Vl.v (.int (i : Nat))) env
            | [] => .no) = .ok b env' := h
          rw [q] at h'
          cases h'; exact hi
      | _ => cases h
    | _ => exact fun env b env' h => by cases h
end
end
end Q
/-! ### calls of first-reading defs with lists as they are now; pairs (int, tuple) compared -/
namespace Q
noncomputable section
open PySem PySem.Spec L2 PyProof.Rows
section
variable {X : Cx} {ξ : Addr × Nat} {W : WX} {cr : Nat → Value} {F H F' H' F1 H1 : Hp} {A A' A1 : List Addr} {S S' : Sto} {env : PEn} {σ : L2.St} {pos : Pos} {e : Expr} {es : List Expr} {fs : List PEv}
def slD (S : Sto) : List (Bool × PV) → Option (List Sl)
  | [] => some []
  | (m, x) :: r => match rd 6 S x, slD S r with
    | some d, some l => some ((if m = true then .v d else (Ar.c d).sl) :: l)
    | _, _ => none
theorem slD_ok (s : StoOk F A S H) : ∀ {ms : List Bool} {xs : List PV} {vs : List V} {sl : List Sl}, ms.length = xs.length → VrAll F A vs xs → slD S (ms.zip xs) = some sl → SlsA H H vs sl
  | [], [], _, sl, _, .nil, e => by cases e; exact .nil
  | m :: ms, x :: xs, _, sl, hl, .cons (v := v) a b, e => by
    have hl' : ms.length = xs.length := by simpa using hl
    have e' : (match rd 6 S x, slD S (ms.zip xs) with
      | some d, some l => some ((if m = true then Sl.v d else (Ar.c d).sl) :: l)
      | _, _ => none) = some sl := e
    cases q : rd 6 S x with
    | none => rw [q] at e'; cases e'
    | some d =>
      cases q2 : slD S (ms.zip xs) with
      | none => rw [q, q2] at e'; cases e'
      | some l =>
        rw [q, q2] at e'; cases e'
        have k := rd_rp s 6 x v d a q
        refine .cons ?_ (slD_ok s hl' b q2)
        cases m with
        | true => exact k
        | false =>
          have c := Cont.of (.refl H) k
          cases d with
          | list ds => exact c
          | _ => exact c
def flat0 : D → Bool
  | .bool _ => true
  | .int _ => true
  | .none => true
  | _ => false
theorem flat_vr {v : V} {d : D} (h : Rp F v d) (f : flat0 d = true) : Vr F' A' v (.d d) := by
  cases h with
  | non => exact .d .non
  | bl b => exact .d (.bl b)
  | int i => exact .d (.int i)
  | _ => cases f
def callD (m : Fv) (ms : List Bool) (fs : List PEv) : PEv := fun env S => bindP (argsP fs env S) fun xs S => match slD S (ms.zip xs) with
  | some sl => match m sl with
    | .ok (.v d) => if flat0 d = true then .ok (.d d) S else .no
    | .err c => .err c S
    | _ => .no
  | none => .no
theorem sx_callD {m : Fv} {ms : List Bool} {ta : TA} {np : Nat} (ha : SXp VrAll ξ W cr ta (argsP fs)) (hl : fs.length = np) (hm : ms.length = fs.length) : SXp Vr ξ W cr (tCallS (spOf cr np m) (WE W) ta) (callD m ms fs) := fun env σ F A S H Qq s ne ok er => by
  refine sx_bindA (k := fun xs S => match slD S (ms.zip xs) with
  | some sl => match m sl with
    | .ok (.v d) => if flat0 d = true then PR.ok (PV.d d) S else .no
    | .err c => .err c S
    | _ => .no
  | none => .no) ha s rfl ne (fun xs S1 hx h1 us F1 A1 H1 s1 g1 r1 => ?_) er
  cases hs : slD S1 (ms.zip xs) with
  | none => rw [hs] at h1; exact absurd h1 ne
  | some sl =>
    rw [hs] at h1
    refine ⟨H1, sl, by rw [r1.length, hx]; exact hl, .refl _, slD_ok s1.so (by rw [hm, hx]) r1 hs, fun z => ?_, fun vl hv v F2 H2 res => ?_, fun c hc H2 g2 => ?_⟩
    · simp only [z] at h1; exact absurd h1 ne
    · cases vl with
      | v d =>
        by_cases q : flat0 d = true
        · simp only [hv, if_pos q] at h1
          obtain ⟨gr, rp⟩ := res
          obtain ⟨o, gp⟩ := gr_same s1.so gr.h
          exact ok (.d d) S1 h1 v F1 A1 H2 o (g1.trans gp) (flat_vr rp q)
        · simp only [hv, if_neg q] at h1
          exact absurd h1 ne
      | _ => simp only [hv] at h1; exact absurd h1 ne
    · simp only [hc] at h1
      obtain ⟨o, gp⟩ := gr_same s1.so g2
      exact er c S1 h1 F1 A1 H2 o (g1.trans gp)
theorem jep_callD {k : Nat} {f : Addr} {fd : FuncData} {ps : List Str} {m : Fv} {ms : List Bool} {x : Str} {p : Pos} (G : FnOk X.prog X.w X.K X.mg X.base (L2.CX X.prog X.w) k f fd ps (spOf cr ps.length m)) (tk : Takes X W) (hr : Room k X.A)
    (hm : X.mg x = some (.ref f)) (hk : PySem.W.keepIn X.K (.ref f) = true) (hb : Binds X.K fd ps []) (hg : Gl X x) (ha : JAp X ξ W cr (e :: es) (argsP fs)) (hl : fs.length = ps.length) (hms : ms.length = fs.length) (hdb : (x == ("__debug__" : Str)) = false := by decide)
    (he : starEach (e :: es) X.env = (false, eval e X.env) :: starEach es X.env := by rfl) (hpl : (backTo pos (starEach es X.env)).any (·.1) = false := by rfl) : JEp X ξ W cr (.Call (.Name x p) (e :: es) [] pos) (callD m ms fs) := by
  obtain ⟨_, a1, a2⟩ := ha
  exact ⟨_, pe_callS G hr hg hm hk hb (fun σ => passAt tk σ) a1 hdb he hpl, sx_callD a2 hl hms⟩
@[simp] theorem callD_s {m : Fv} {ms : List Bool} : callD m ms fs env S = bindP (argsP fs env S) fun xs S => match slD S (ms.zip xs) with
  | some sl => match m sl with
    | .ok (.v d) => if flat0 d = true then .ok (.d d) S else .no
    | .err c => .err c S
    | _ => .no
  | none => .no := rfl
end
/-! pairs of an int and a tuple of ints -/
theorem lex_irrX : ∀ x : List Int, HT.lexLt x x = false
  | [] => HT.lexLt_nil_nil
  | n :: ns => by rw [HT.lexLt_cons, lex_irrX ns]; simp
theorem ints_inj2 : ∀ {vs : List Value} {ns ms : List Int}, IntsAre vs ns → IntsAre vs ms → ns = ms
  | _, _, _, .nil, .nil => rfl
  | _, _, _, .cons n t h, .cons _ _ h' => by rw [ints_inj2 h h']
theorem eq_intsAt {A : Around} {s : Shared} {u v : Addr} {i1 i2 : List Value} {ns ms : List Int} (p1 : s.heap.IsTuple u i1.toArray) (p2 : s.heap.IsTuple v i2.toArray) (h1 : IntsAre i1 ns) (h2 : IntsAre i2 ms) (hu : A.units < cLine) : SeqAt.EqAt A s (.ref u) (.ref v) (decide (ns = ms)) := by
  by_cases hne : u = v
  · subst hne
    obtain ⟨o, g1, _, n1, d1⟩ := p1
    obtain ⟨o', g2, _, n2, d2⟩ := p2
    rw [g1] at g2; cases g2
    rw [d1] at d2
    have e : i1 = i2 := by
      injection d2 with d3
      injection d3
    subst e
    rw [decide_eq_true (ints_inj2 h1 h2)]
    exact SeqAt.EqAt.same _
  · refine SeqAt.EqAt.of_refs hne ?_
    have e1 : i1.toArray.size = ns.length := by rw [List.size_toArray]; exact h1.length
    have e2 : i2.toArray.size = ms.length := by rw [List.size_toArray]; exact h2.length
    have a1 : ∀ j (q1 : j < i1.toArray.size), ∃ t, i1.toArray[j] = .int (ns.getD j 0) t := fun j q1 => PyProof.Rows.IntsAre.int_at h1 _ _ (by simp at q1; simp [q1])
    have a2 : ∀ j (q1 : j < i2.toArray.size), ∃ t, i2.toArray[j] = .int (ms.getD j 0) t := fun j q1 => PyProof.Rows.IntsAre.int_at h2 _ _ (by simp at q1; simp [q1])
    have R := SeqAt.RcAt.tuples (A := A) (s := s) (e := fun j => decide (ns.getD j 0 = ms.getD j 0)) p1 p2 hu (fun j q1 q2 => by
      obtain ⟨t, et⟩ := a1 j q1
      obtain ⟨t', et'⟩ := a2 j q2
      rw [et, et']
      have z : (ns.getD j 0 == ms.getD j 0) = decide (ns.getD j 0 = ms.getD j 0) := by  -- q
        by_cases q : ns.getD j 0 = ms.getD j 0  -- q
        · rw [decide_eq_true q]; exact beq_iff_eq.mpr q  -- q
        · rw [decide_eq_false q]; exact beq_eq_false_iff_ne.mpr q  -- q
      rw [← z]
      exact SeqAt.EqAt.int_int _ _ _ _)
    rw [e1, e2] at R
    have z : ((List.range (min ns.length ms.length)).all (fun j => decide (ns.getD j 0 = ms.getD j 0)) && ns.length == ms.length) = decide (ns = ms) := by
      by_cases q : ns = ms
      · subst q
        simp
      · rw [decide_eq_false q]
        refine Bool.eq_false_iff.mpr fun w => ?_
        rw [Bool.and_eq_true, List.all_eq_true] at w
        obtain ⟨w1, w2⟩ := w
        have w3 : ns.length = ms.length := by simpa using w2
        refine q (List.ext_getElem w3 fun j a b => ?_)
        have := w1 j (List.mem_range.mpr (by omega))
        simpa [a, b] using this
    rw [z] at R
    exact R
def gP (a : Int) (ns : List Int) (b : Int) (ms : List Int) : Bool := if a = b then HT.lexLt ms ns else decide (b < a)
def rPairs (K : PySem.W.Frag) (g : Int → List Int → Int → List Int → Bool) : R2 := fun x y H Q => ∃ (p q u v : Addr) (a b : Int) (ns ms : List Int), x = .ref p ∧ y = .ref q ∧ SqT K H p [.int a, .ref u] ∧ SqT K H q [.int b, .ref v] ∧ SqT K H u (ns.map V.int) ∧ SqT K H v (ms.map V.int) ∧ Q (.bl (g a ns b ms)) H
theorem op_gtP {X : Cx} (hu : X.A.units + 64 < cLine) : OpR X (compareOp .Gt) (rPairs X.K gP) := by
  intro pins s σ H x y v u Q I rx ry h  -- q
  obtain ⟨p, q, c, d, a, b, ns, ms, rfl, rfl, hp, hq, hc, hd, qq⟩ := h
  cases rx
  cases ry
  obtain ⟨its, r1, p1, _⟩ := I.tuple hp
  obtain ⟨its2, r2, p2, _⟩ := I.tuple hq
  obtain ⟨jts, r3, p3, _⟩ := I.tuple hc
  obtain ⟨jts2, r4, p4, _⟩ := I.tuple hd
  obtain ⟨u1, u2, rfl, ⟨t1, rfl⟩, e2⟩ := vals2 r1
  obtain ⟨w1, w2, rfl, ⟨t2, rfl⟩, e4⟩ := vals2 r2
  obtain rfl : u2 = Value.ref c := e2
  obtain rfl : w2 = Value.ref d := e4
  have i1 : IntsAre jts ns := Vals.ints r3
  have i2 : IntsAre jts2 ms := Vals.ints r4
  have e1 : jts.toArray.size = ns.length := by rw [List.size_toArray]; exact i1.length
  have e2 : jts2.toArray.size = ms.length := by rw [List.size_toArray]; exact i2.length
  have at1 : ∀ j (h1 : j < jts.toArray.size), ∃ t, jts.toArray[j] = .int (ns.getD j 0) t := fun j h1 => PyProof.Rows.IntsAre.int_at i1 _ _ (by simp at h1; simp [h1])
  have at2 : ∀ j (h1 : j < jts2.toArray.size), ∃ t, jts2.toArray[j] = .int (ms.getD j 0) t := fun j h1 => PyProof.Rows.IntsAre.int_at i2 _ _ (by simp at h1; simp [h1])
  have R1 := Ob.RcOp.tuples_gt (A := X.A.in1) (s := s) (e := fun j => decide (ns.getD j 0 = ms.getD j 0)) (r := fun j => decide (ms.getD j 0 < ns.getD j 0)) p3 p4 (by show X.A.units + 1 < _; omega) (fun j h1 h2 => by
    obtain ⟨t, et⟩ := at1 j h1
    obtain ⟨t', et'⟩ := at2 j h2
    rw [et, et']
    have z : (ns.getD j 0 == ms.getD j 0) = decide (ns.getD j 0 = ms.getD j 0) := by  -- q
      by_cases q : ns.getD j 0 = ms.getD j 0  -- q
      · rw [decide_eq_true q]; exact beq_iff_eq.mpr q  -- q
      · rw [decide_eq_false q]; exact beq_eq_false_iff_ne.mpr q  -- q
    rw [← z]
    exact SeqAt.EqAt.int_int _ _ _ _) (fun j h1 h2 _ => by  -- q
    obtain ⟨t, et⟩ := at1 j h1
    obtain ⟨t', et'⟩ := at2 j h2
    rw [et, et']
    exact Ob.RcOp.gt_int _ _ _ _)
  rw [e1, e2, lexAt_gt] at R1
  have R := Ob.RcOp.tuples_gt (A := X.A) (s := s) (e := fun j => if j = 0 then decide (a = b) else decide (ns = ms)) (r := fun j => if j = 0 then decide (b < a) else HT.lexLt ms ns) p1 p2 (by omega) (fun j h1 h2 => by
    match j, h1, h2 with
    | 0, _, _ =>
      have z : (a == b) = decide (a = b) := by
        by_cases q : a = b
        · rw [decide_eq_true q]; exact beq_iff_eq.mpr q  -- q
        · rw [decide_eq_false q]; exact beq_eq_false_iff_ne.mpr q  -- q
      show SeqAt.EqAt X.A.in1 s (.int a t1) (.int b t2) (decide (a = b))
      rw [← z]
      exact SeqAt.EqAt.int_int _ _ _ _
    | 1, _, _ => exact eq_intsAt p3 p4 i1 i2 (by show X.A.units + 1 < _; omega)
    | j + 2, h1, _ => exact absurd h1 (by simp)) (fun j h1 h2 _ => by
    match j, h1, h2 with
    | 0, _, _ => exact Ob.RcOp.gt_int _ _ _ _
    | 1, _, _ => exact R1
    | j + 2, h1, _ => exact absurd h1 (by simp))
  have z2 : Ob.lexAt (fun j => if j = 0 then decide (a = b) else decide (ns = ms)) (fun j => if j = 0 then decide (b < a) else HT.lexLt ms ns) (decide ([Value.int a t1, Value.ref c].toArray.size > [Value.int b t2, Value.ref d].toArray.size)) 0 (min [Value.int a t1, Value.ref c].toArray.size [Value.int b t2, Value.ref d].toArray.size) = gP a ns b ms := by
    show (if decide (a = b) = true then (if decide (ns = ms) = true then false else HT.lexLt ms ns) else decide (b < a)) = if a = b then HT.lexLt ms ns else decide (b < a)
    by_cases q : a = b
    · by_cases q2 : ns = ms
      · subst q; subst q2; simp [lex_irrX]
      · simp [q, q2]
    · simp [q]
  rw [z2] at R
  have z : wpAny (model X.prog X.w) X.A (compareOp .Gt (.ref p) (.ref q)) (EP X pins σ Q) X.xe s := R X.prog X.w X.xe (EP X pins σ Q) ⟨.bl _, H, I, rfl, qq⟩
  exact z
def gtY : D → D → Option Vl
  | .tuple [.int a, .tuple as], .tuple [.int b, .tuple bs] => match intsOf as, intsOf bs with
    | some ns, some ms => some (.v (.bool (gP a ns b ms)))
    | _, _ => none
  | _, _ => none
theorem ap_gtY {K : PySem.W.Frag} : Op2 (rPairs K gP) gtY := fun F H x y d e vl Qq gd hx hy h q => by
  unfold gtY at h
  split at h
  · rename_i a as b bs
    cases h1 : intsOf as with
    | none => rw [h1] at h; cases h  -- q
    | some ns =>
      cases h2 : intsOf bs with
      | none => rw [h1, h2] at h; cases h  -- q
      | some ms =>
        rw [h1, h2] at h; cases h
        cases hx with
        | tup a1 a2 =>
          cases hy with
          | tup b1 b2 =>
            cases a2 with
            | cons a3 a4 =>
              cases a4 with
              | cons a5 a6 =>
                cases a6
                cases b2 with
                | cons b3 b4 =>
                  cases b4 with
                  | cons b5 b6 =>
                    cases b6
                    cases a3; cases b3
                    cases a5 with
                    | tup a7 a8 =>
                      cases b5 with
                      | tup b7 b8 =>
                        rw [ints_rp a8 h1] at a7
                        rw [ints_rp b8 h2] at b7
                        exact ⟨_, _, _, _, a, b, ns, ms, rfl, rfl, .inl (rd_mono gd (Rd.of a1)), .inl (rd_mono gd (Rd.of b1)), .inl (rd_mono gd (Rd.of a7)), .inl (rd_mono gd (Rd.of b7)), q _ F H (Res.val gd (.bl _))⟩
  · cases h
theorem gtY_t {a b : Int} {ns ms : List Int} : gtY (.tuple [.int a, .tuple (ns.map PyData.int)]) (.tuple [.int b, .tuple (ms.map PyData.int)]) = some (.v (.bool (gP a ns b ms))) := by
  show (match intsOf (ns.map PyData.int), intsOf (ms.map PyData.int) with
    | some ns, some ms => some (Vl.v (.bool (gP a ns b ms)))
    | _, _ => none) = _
  rw [ints_ofX, ints_ofX]
end
end Q
/-! ### part ZA: xs.count(y), xs.index(y), least and greatest of a tuple, ranges by steps, except .. as by the second reading -/
namespace Q
noncomputable section
open PySem PySem.Spec L2 PyProof.Rows
set_option maxHeartbeats 1000000
section
variable {X : Cx} {ξ : Addr × Nat} {W : WX} {cr : Nat → Value} {F0 H0 F H F' H' F1 H1 F2 H2 : Hp} {env : En} {σ : L2.St} {pos : Pos} {e o : Expr}
/-! a method of a list, of one argument -/
def lm1K (g : D → D → Option Vl) (fe : Ev) (d : D) : En → R Vl := match d with
  | .list ds => bnd fe fun d' e => out (g (.list ds) d') e
  | _ => fun _ => .no
def lm1E (g : D → D → Option Vl) (fo fe : Ev) : Ev := bnd fo (lm1K g fe)
theorem je_lm1 {r : V → List V → Hp → VK → Prop} {g : D → D → Option Vl} {fo fe : Ev} {name : Str} {apos : Pos} (hg : Op2 (fun x y H Q => r x [y] H Q) g)
    (hb : ∀ {tr : TE} {ta : TA}, PE X o tr → PA X [e] ta → PE X (.Call (.Attribute o name apos) [e] [] pos) (tBM X.K "list" r tr ta)) (ho : JE X ξ W cr o fo) (he : JE X ξ W cr e fe) (hs1 : starEach [e] X.env = (false, eval e X.env) :: starEach [] X.env := by rfl) :
    JE X ξ W cr (.Call (.Attribute o name apos) [e] [] pos) (lm1E g fo fe) := by
  obtain ⟨to, o1, o2, o3⟩ := ho
  obtain ⟨te, e1, e2, e3⟩ := he
  refine ⟨_, hb o1 (pa_cons e1 pa_nil hs1), fun F0 H0 env σ F H Qq s ne ok er => ?_, nn_bnd o3 fun d => ?_⟩
  · refine se_bnd (k := lm1K g fe) o2 s ne (fun d a1 h1 v F1 H1 s1 f1 g1 c1 => ?_) er
    cases d with
    | list ds =>
      obtain ⟨p, vs, rfl, hr, hv⟩ := (show ∃ a vs, v = .ref a ∧ Rd H1 a (.lst vs) ∧ RpAll F1 vs ds from c1)
      refine ⟨.inl ⟨rfl, vs, .inl hr⟩, ?_⟩
      have h2 : lm1E g fo fe env = bnd fe (fun d' e => out (g (.list ds) d') e) a1 := h1
      refine se_bnd e2 s1 (by rw [← h2]; exact ne) (fun d' a2 h3 v' F2 H2 s2 f2 g2 c2 => ?_) fun c a2 h3 => er c a2 (h2.trans h3)
      have h4 : lm1E g fo fe env = out (g (.list ds) d') a2 := h2.trans h3
      cases hg2 : g (.list ds) d' with
      | none => rw [hg2] at h4; exact absurd h4 ne
      | some vl =>
        rw [hg2] at h4
        refine hg F2 H2 _ v' (.list ds) d' vl Qq s2.fh (Cont.mono f2 g2 c1) c2 hg2 fun z F3 H3 res => ?_
        obtain ⟨s3, ok3⟩ := res.ok s2
        exact ok vl a2 h4 z F3 H3 s3 ((f1.trans f2).trans res.1.f) ((g1.trans g2).trans res.1.h) ok3
    | _ => exact absurd h1 ne
  · cases d with
    | list ds => exact nn_bnd e3 fun d' => nn_out _
    | _ => exact fun env b env' h => by cases h
def cxOk (ds : List D) (d : D) : Bool := (SeqAt.shaped (.list ds) && SeqAt.shaped d) && (PyData.plainAll ds && d.plain)
def rCountD (K : PySem.W.Frag) : V → List V → Hp → VK → Prop := fun x xs H Q => ∃ (a : Addr) (y : V) (d : PyData) (ds : List PyData), x = V.ref a ∧ xs = [y] ∧ Dp K H (V.ref a) (.list ds) ∧ Dp K H y d ∧ cxOk ds d = true ∧ Q (.int ((ds.countP fun z => PyData.eqv z d : Nat) : Int)) H
theorem mt_countD (hu : X.A.units + 65 < cLine) : MtR X "list.count" (rCountD X.K) := by
  intro pins s σ H x xs v us Q I rx rxs h  -- q
  obtain ⟨a, y, d, ds, rfl, rfl, hl, hy, hc, q⟩ := h
  unfold cxOk at hc
  simp only [Bool.and_eq_true] at hc  -- q
  obtain ⟨⟨sl, sd⟩, pl, pd⟩ := hc
  cases rx
  cases rxs with
  | cons ry rt =>
    rename_i uy ut
    cases rt
    obtain ⟨bs, r1⟩ := Dp.reads I d y uy hy ry  -- q
    have hroom : X.A.units + 1 + min (PyData.depthAll ds) d.depth < cLine := room_in_shaped sd hu  -- q
    cases hl with
    | lst hs ha =>
      obtain ⟨its, rv, hl, hlen⟩ := I.list hs
      obtain ⟨as, h4⟩ := Dp.readsAll I ds _ its ha rv  -- q
      exact SeqAt.count_list_data (vs := its.toArray) hl.isList (show ReadsAll s.heap its.toArray.toList ds as from h4) r1 pl pd hroom ⟨.int _, H, I.tok _, ⟨s.toks, rfl⟩, q⟩
def countD : D → D → Option Vl
  | .list ds, d => if cxOk ds d = true then some (.v (.int ((ds.countP fun z => PyData.eqv z d : Nat) : Int))) else none
  | _, _ => none
theorem cxOk_dp {K : PySem.W.Frag} {x y : V} {ds : List D} {d : D} (g : Same F H) (hx : Cont F H x (.list ds)) (hy : Cont F H y d) (h : cxOk ds d = true) : ∃ a, x = V.ref a ∧ Dp K H (V.ref a) (.list ds) ∧ Dp K H y d := by
  have h' := h
  unfold cxOk at h'
  simp only [Bool.and_eq_true] at h'  -- q
  obtain ⟨a, vs, e, _⟩ := (show ∃ a vs, x = .ref a ∧ Rd H a (.lst vs) ∧ RpAll F vs ds from hx)
  refine ⟨a, e, ?_, (hy.rp g).dp (SeqAt.canLay_of_shaped h'.1.2)⟩
  rw [← e]
  exact (hx.rp g).dp (SeqAt.canLay_of_shaped h'.1.1)
theorem ap_count {K : PySem.W.Frag} : Op2 (fun x y H Q => rCountD K x [y] H Q) countD := fun F H x y d e vl Qq g hx hy h q => by
  cases d with
  | list ds =>
    have h' : (if cxOk ds e = true then some (Vl.v (.int ((ds.countP fun z => PyData.eqv z e : Nat) : Int))) else none) = some vl := h
    by_cases z : cxOk ds e = true
    · rw [if_pos z] at h'; cases h'
      obtain ⟨a, rfl, h1, h2⟩ := cxOk_dp (K := K) g hx hy z
      exact ⟨a, y, e, ds, rfl, rfl, h1, h2, z, q _ F H (Res.val g (.int _))⟩
    · rw [if_neg z] at h'; cases h'
  | _ => cases h
def indexD : D → D → Option Vl
  | .list ds, d => if cxOk ds d = true then (ds.findIdx? fun z => PyData.eqv z d).map fun j => .v (.int ((j : Nat) : Int)) else none
  | _, _ => none
theorem ap_index {K : PySem.W.Frag} : Op2 (fun x y H Q => rIndexD K x [y] H Q) indexD := fun F H x y d e vl Qq g hx hy h q => by
  cases d with
  | list ds =>
    have h' : (if cxOk ds e = true then (ds.findIdx? fun z => PyData.eqv z e).map fun j => Vl.v (.int ((j : Nat) : Int)) else none) = some vl := h
    by_cases z : cxOk ds e = true
    · rw [if_pos z] at h'
      cases hj : ds.findIdx? fun z => PyData.eqv z e with
      | none => rw [hj] at h'; cases h'
      | some j =>
        rw [hj] at h'; cases h'
        obtain ⟨a, rfl, h1, h2⟩ := cxOk_dp (K := K) g hx hy z
        obtain ⟨k1, k2, k3⟩ := List.findIdx?_eq_some_iff_getElem.mp hj
        have z' := z
        unfold cxOk at z'
        simp only [Bool.and_eq_true] at z'
        refine ⟨a, y, e, ds, j, ds[j], rfl, rfl, h1, h2, z'.1.1, z'.1.2, List.getElem?_eq_getElem k1, k2, fun m z2 hm e2 => ?_, q _ F H (Res.val g (.int _))⟩
        have hm2 : m < ds.length := by omega
        rw [List.getElem?_eq_getElem hm2] at e2
        cases e2
        have := k3 m hm
        simpa using this
    · rw [if_neg z] at h'; cases h'
  | _ => cases h
theorem room65H {k : Nat} {A : Around} (r : L2H.RoomH k A) : A.units + 65 < cLine := by have := r.un; omega
theorem _root_.L2H.RoomH.units {k : Nat} {A : Around} (r : L2H.RoomH k A) : A.units + 64 < cLine := by have := r.un; omega
theorem je_lcount {fo fe : Ev} {apos : Pos} (hu : X.A.units + 65 < cLine) (ho : JE X ξ W cr o fo) (he : JE X ξ W cr e fe) (hb : ∀ {tr : TE} {ta : TA}, PE X o tr → PA X [e] ta → PE X (.Call (.Attribute o "count" apos) [e] [] pos) (tBM X.K "list" (rCountD X.K) tr ta)) (hs1 : starEach [e] X.env = (false, eval e X.env) :: starEach [] X.env := by rfl) :
    JE X ξ W cr (.Call (.Attribute o "count" apos) [e] [] pos) (lm1E countD fo fe) := je_lm1 ap_count hb ho he hs1
theorem je_lindex {fo fe : Ev} {apos : Pos} (hu : X.A.units + 65 < cLine) (ho : JE X ξ W cr o fo) (he : JE X ξ W cr e fe) (hb : ∀ {tr : TE} {ta : TA}, PE X o tr → PA X [e] ta → PE X (.Call (.Attribute o "index" apos) [e] [] pos) (tBM X.K "list" (rIndexD X.K) tr ta)) (hs1 : starEach [e] X.env = (false, eval e X.env) :: starEach [] X.env := by rfl) :
    JE X ξ W cr (.Call (.Attribute o "index" apos) [e] [] pos) (lm1E indexD fo fe) := je_lm1 ap_index hb ho he hs1
@[simp] theorem lm1E_s {g : D → D → Option Vl} {fo fe : Ev} {env : En} : lm1E g fo fe env = bnd fo (lm1K g fe) env := rfl
@[simp] theorem lm1K_s {g : D → D → Option Vl} {fe : Ev} {ds : List D} {env : En} : lm1K g fe (.list ds) env = bnd fe (fun d' e => out (g (.list ds) d') e) env := rfl
end
/-! a def called with the error alone, with room -/
theorem fn_okE2 {P : Program} {w : World} {K : PySem.W.Frag} {mg : Str → Option Value} {base : Heap} {x qual : Str} {st : Stmt} {f : Addr} {fd : FuncData} {N ps : List Str} {k : Nat} {b : Sv} {p : Addr × Obj} {c : Nat} (Fn : Fun K x qual st f fd) (S : FnScope N ps (defScope st)) (hp1 : ps.length = 1) (hN : 1 ≤ N.length)
    (hbody : ∀ (cdv : Value) (A : Around) (outer : List Env) (s : Shared) (H : Hp) (E : XK), L2H.RoomH k (L2H.cxH (L2.CX P w) P w K mg base N qual (defScope st) f cdv A outer s H E p).A → JSs (L2H.cxH (L2.CX P w) P w K mg base N qual (defScope st) f cdv A outer s H E p) (p.1, c) W0 cr (defBody st) b) :
    FnE P w K mg base (L2.CX P w) (k + 1) f fd p ps (spE p.1 c (runDef N.length b)) := by
  obtain ⟨oc, od, kV, doc, pm, an, cdv, ct, osl, rfl, lk, hcd⟩ := Fn.ex
  refine fnE_of lk hcd S (fun vs H Qq E h => ?_) fun A outer s H vs Qq E hr h => ?_
  · obtain ⟨_, _, rfl, _⟩ := h
    exact hp1.symm
  · obtain ⟨ts, h1, h2⟩ := hbody cdv A outer s H E hr
    obtain ⟨F, g, rfl, hne, hok, her⟩ := h
    have un : runDef N.length b [.x c] = match b ([Sl.x c] ++ List.replicate (N.length - 1) .un) with
      | .rt v => .ok v
      | .nx _ => .ok (.v .none)
      | .err c _ => .err c
      | _ => .no := rfl
    refine ⟨ts, h1, h2 F H _ _ F H _ (sim_startE g hN) (fun z => hne (by rw [un]; simp only [z])) (fun e' z σ' F' H' s' _ => ?_) (fun vl z v F' H' res => ?_) (fun e' z => ?_) (fun e' z => ?_) fun c' e' z σ' F' H' s' => ?_⟩
    · exact hok (.v .none) (by rw [un]; simp only [z]) .non F' H' ⟨⟨s'.f, s'.h, s'.fh, s'.n⟩, .non⟩
    · exact hok vl (by rw [un]; simp only [z]) v F' H' res
    · exact absurd (by rw [un]; simp only [z]) hne
    · exact absurd (by rw [un]; simp only [z]) hne
    · exact absurd (by rw [un]; simp only [z]) (her c')
/-! least and greatest of a tuple of ints -/
section
variable {X : Cx}
theorem alike_ints (ns : List Int) : PySem.W.AlikeAll (ns.map PyData.int) := ⟨fun x hx y hy => by
  obtain ⟨a, _, rfl⟩ := List.mem_map.mp hx  -- q
  obtain ⟨b, _, rfl⟩ := List.mem_map.mp hy  -- q
  simp [PySem.W.alike], fun x hx => by
  obtain ⟨a, _, rfl⟩ := List.mem_map.mp hx  -- q
  exact fun z => nomatch z⟩
theorem depth_ints : ∀ ns : List Int, PyData.depthAll (ns.map PyData.int) ≤ 1
  | [] => by simp [PyData.depthAll]  -- q
  | n :: ns => by
    have := depth_ints ns
    simp only [List.map_cons, PyData.depthAll, PyData.depth]  -- q
    omega
def rMinT (K : PySem.W.Frag) (f : Int → Int → Int) : List V → Hp → VK → Prop := fun vs H Q => ∃ (a : Addr) (n : Int) (ns : List Int), vs = [V.ref a] ∧ SqT K H a ((n :: ns).map V.int) ∧ Q (.int (ns.foldl f n)) H
theorem reads_ints {pins : List (Addr × Obj)} {σ : L2.St} {H : Hp} {s : Shared} (I : Inv X pins σ H s) {ns : List Int} {us : List Value} (rv : Vals (ns.map V.int) us) : ∃ as, ReadsAll s.heap us (ns.map PyData.int) as :=
  Dp.readsAll I _ _ us (RpAll.dp (ints_rpAll H ns) (pul_ints (n := 0) ns).l) rv
theorem cr_minT (hc : X.calm = true) (hu : X.A.units + 65 < cLine) : CallR X (.builtin "min") (rMinT X.K min) := by
  intro pins s σ H vs us Q I r h  -- q
  obtain ⟨a, n, ns, rfl, hs, q⟩ := h
  obtain ⟨its, rv, hl, _⟩ := I.tuple hs
  obtain ⟨as, ra⟩ := reads_ints I rv
  rw [Vals.ref1 r]
  refine PySem.W.min_tuple_data (vs := its.toArray) (x := .int n) (xs := ns.map PyData.int) (I.ok.hd hc) hl ra (alike_ints (n :: ns)) (by have := depth_ints (n :: ns); rw [List.map_cons] at this; omega) fun i v h' tk bs hi rd hk => ?_
  rw [PySem.W.minD_ints] at rd
  cases rd with
  | int _ t => exact ⟨.int _, H, I.kept hk, ⟨_, rfl⟩, q⟩
theorem cr_maxT (hc : X.calm = true) (hu : X.A.units + 65 < cLine) : CallR X (.builtin "max") (rMinT X.K max) := by
  intro pins s σ H vs us Q I r h  -- q
  obtain ⟨a, n, ns, rfl, hs, q⟩ := h
  obtain ⟨its, rv, hl, _⟩ := I.tuple hs
  obtain ⟨as, ra⟩ := reads_ints I rv
  rw [Vals.ref1 r]
  refine PySem.W.max_tuple_data (vs := its.toArray) (x := .int n) (xs := ns.map PyData.int) (I.ok.hd hc) hl ra (alike_ints (n :: ns)) (by have := depth_ints (n :: ns); rw [List.map_cons] at this; omega) fun i v h' tk bs hi rd hk => ?_
  rw [PySem.W.maxD_ints] at rd
  cases rd with
  | int _ t => exact ⟨.int _, H, I.kept hk, ⟨_, rfl⟩, q⟩
end
def minTD (f : Int → Int → Int) : List D → Option Vl
  | [.tuple ds] => match intsOf ds with
    | some (n :: ns) => some (.v (.int (ns.foldl f n)))
    | _ => none
  | _ => none
theorem an_minT {K : PySem.W.Frag} {f : Int → Int → Int} : OpN (fun vs H Q => rMinT K f vs H Q) (minTD f) := opn1 (fun F H x d vl Qq g hx h q => by
  cases d with
  | tuple ds =>
    have h' : (match intsOf ds with
      | some (n :: ns) => some (Vl.v (.int (ns.foldl f n)))
      | _ => none) = some vl := h
    cases hz : intsOf ds with
    | none => rw [hz] at h'; cases h'
    | some ns =>
      cases ns with
      | nil => rw [hz] at h'; cases h'
      | cons n ns =>
        rw [hz] at h'; cases h'
        cases (show Rp F x (.tuple ds) from hx) with
        | tup h1 h2 =>
          rw [ints_rp h2 hz] at h1
          exact ⟨_, n, ns, rfl, .inl (rd_mono g (Rd.of h1)), q _ F H (Res.val g (.int _))⟩
  | _ => cases h) fun _ _ h => by unfold minTD at h; split at h <;> first | exact ⟨_, rfl⟩ | cases h
theorem minTD_t {f : Int → Int → Int} {n : Int} {ns : List Int} : minTD f [.tuple ((n :: ns).map PyData.int)] = some (.v (.int (ns.foldl f n))) := by
  show (match intsOf ((n :: ns).map PyData.int) with
      | some (n :: ns) => some (Vl.v (.int (ns.foldl f n)))
      | _ => none) = _
  rw [ints_ofX]
end
end Q
/-! ### part ZB: except .. as by the second reading, calls in its suite, ranges that fall -/
namespace Q
noncomputable section
open PySem PySem.Spec L2 PyProof.Rows
set_option maxHeartbeats 1000000
section
variable {X : Cx} {ξ : Addr × Nat} {W : WX} {cr : Nat → Value} {F H F' H' F1 H1 : Hp} {A A' A1 : List Addr} {S S' : Sto} {env : PEn} {σ : L2.St} {pos : Pos} {a b c e o : Expr} {fa fb fc : PEv}
def callXP (m : Fv) (i : Nat) : PEv := fun env S => match pgt env i with
  | .x c => match m [.x c] with
    | .ok (.v d) => if flat0 d = true then .ok (.d d) S else .no
    | _ => .no
  | _ => .no
theorem jep_callX {k : Nat} {f : Addr} {fd : FuncData} {ps : List Str} {m : Fv} {x n : Str} {q p3 : Pos} {p : Addr × Obj} {c : Nat} (i : Nat) (G : FnE X.prog X.w X.K X.mg X.base (L2.CX X.prog X.w) k f fd p ps (spE p.1 c m)) (hr : L2H.RoomH k X.A) (hp : p ∈ X.pn)
    (hm : X.mg x = some (.ref f)) (hk : PySem.W.keepIn X.K (.ref f) = true) (hb : Binds X.K fd ps []) (hg : Gl X x) (hN : X.N[i]? = some n) (hv : Vis X.env.scope n) (hdb : (x == ("__debug__" : Str)) = false := by decide)
    (hd : (n == ("__debug__" : Str)) = false := by decide) (hcd : (n == ("__classdict__" : Str)) = false := by decide)
    (he : starEach [.Name n p3] X.env = (false, eval (.Name n p3) X.env) :: starEach [] X.env := by rfl) (hpl : (backTo pos (starEach [] X.env)).any (·.1) = false := by rfl) : JEp X (p.1, c) W0 cr (.Call (.Name x q) [.Name n p3] [] pos) (callXP m i) := by
  refine ⟨_, pe_callEr G hr hp hg hm hk hb (fun σ => passAt (W := W0) takes0 σ) (pa_cons (pv i hN hv hd hcd) pa_nil he) hdb he hpl, fun env σ F A S H Qq s ne ok er => ?_⟩
  cases hs : pgt env i with
  | x c' =>
    have q := s.sl i
    rw [hs] at q
    obtain ⟨q1, rfl⟩ := q
    have e3 : σ[i]? = some (some (.ref p.1)) := by
      cases e : σ[i]? with
      | none => rw [e] at q1; cases q1
      | some w => rw [e] at q1; cases w with
        | none => cases q1
        | some u => cases q1; rfl
    have un : callXP m i env S = match m [.x c'] with
      | .ok (.v d) => if flat0 d = true then .ok (.d d) S else .no
      | _ => .no := by unfold callXP; simp only [hs]
    cases hl : m [.x c'] with
    | ok vl =>
      cases vl with
      | v d =>
        by_cases fl : flat0 d = true
        · have un2 : callXP m i env S = .ok (.d d) S := by rw [un, hl]; simp only [if_pos fl]
          refine ⟨.ref p.1, e3, F, s.so.fh, rfl, (by rw [hl]; exact fun z => by cases z), fun vl' h' v F' H' res => ?_, fun c2 z => by rw [hl] at z; cases z⟩
          rw [hl] at h'
          cases h'
          obtain ⟨gr, rp⟩ := res
          obtain ⟨o, gp⟩ := gr_same s.so gr.h
          exact ok (.d d) S un2 v F A H' o gp (flat_vr rp fl)
        · exact absurd (by rw [un, hl]; simp only [if_neg fl]) ne
      | _ => exact absurd (by rw [un, hl]) ne
    | _ => exact absurd (by rw [un, hl]) ne
  | _ => exact absurd (by unfold callXP; simp only [hs]) ne
@[simp] theorem callXP_s {m : Fv} {i : Nat} {env : PEn} {S : Sto} : callXP m i env S = match pgt env i with
  | .x c => match m [.x c] with
    | .ok (.v d) => if flat0 d = true then .ok (.d d) S else .no
    | _ => .no
  | _ => .no := rfl
def unxP (i : Nat) : PRS → PRS
  | .nx e S => .nx ((e.map clrP).set i .un) S
  | .bk e S => .bk ((e.map clrP).set i .un) S
  | .ct e S => .ct ((e.map clrP).set i .un) S
  | .rt v S => .rt v S
  | _ => .no
def tryAsP (b : PSv) (i : Nat) (l : List Bool) (s : PSv) : PSv := fun env S => match b env S with
  | .err c e S => match l[c]? with
    | some true => unxP i (s ((e.map clrP).set i (.x c)) S)
    | some false => .err c e S
    | none => .no
  | r => r
theorem jsp_tryAs {body : List Stmt} {x n : Str} {hv : Value} {l : List Bool} {b₀ : Stmt} {suite : List Stmt} {np pos' : Pos} {b s : PSv} (i : Nat) (hs : X.stack = X.env :: X.outer) (hf : X.env.frame = some X.env.locals) (hN : X.N.Nodup) (hi : X.N[i]? = some n) (hln : X.env.kindOf n = some .local)
    (hc : Names X x hv) (tk : Takes X W) (hb : ∀ (W : WX) (pn : List (Addr × Obj)) (xe : Value → Shared → Prop), Takes (X.tr pn xe) W → PassesOwn (model X.prog X.w) X.A X.env xe → JSsp (X.tr pn xe) ξ W cr body b)
    (hl : ∀ c b, l[c]? = some b → PySem.W.exmOne X.K (cr c) hv = some b) (h : HJp X cr b₀ suite s) : JSp X ξ W cr (.Try body [.ExceptHandler (some (.Name x np)) (some n) (b₀ :: suite) pos'] [] [] pos) (tryAsP b i l s) := by
  refine ⟨_, ps_try_as (tb := fun W => tsOfP ξ W cr b) (i := i) hs hf hN hi hln hc tk (fun W pn xe t p => (hb W pn xe t p).ps) h.ps, fun env σ F A S H De s0 ne nx rt bk ct er => ?_⟩
  have un : tryAsP b i l s env S = match b env S with
    | .err c e S => match l[c]? with
      | some true => unxP i (s ((e.map clrP).set i (.x c)) S)
      | some false => .err c e S
      | none => .no
    | r => r := rfl
  refine ⟨env, F, A, S, s0, fun z => ne (by rw [un, z]), fun e' S' h1 => nx e' S' (by rw [un, h1]), fun v S' h1 => rt v S' (by rw [un, h1]), fun e' S' h1 => bk e' S' (by rw [un, h1]), fun e' S' h1 => ct e' S' (by rw [un, h1]), fun c e' S' h1 σ' F' A' H' s' g => ?_⟩
  simp only [h1] at un
  cases hq : l[c]? with
  | none => exact absurd (by rw [un]; simp only [hq]) ne
  | some t =>
    refine ⟨t, hl c t hq, fun ht a ha => ?_, fun ht => ?_⟩
    · subst ht
      simp only [hq] at un
      have sx : SimP (a, c) ((e'.map clrP).set i (.x c)) (σ'.set i (some (.ref a))) F' A' S' H' := simP_put (simP_clr s') i ⟨rfl, rfl⟩
      have fin : ∀ {e3 : PEn} {σ3 : L2.St} {F3 H3 : Hp} {A3 : List Addr} {S3 : Sto}, SimP (a, c) e3 σ3 F3 A3 S3 H3 → SimP ξ ((e3.map clrP).set i .un) (σ3.set i none) F3 A3 S3 H3 := fun {e3 σ3 F3 H3 A3 S3} s3 => simP_put (simP_clr s3) i trivial
      refine ⟨c, rfl, rfl, _, F', A', S', sx, fun z => ne (by rw [un, z]; rfl), fun e3 S3 h3 σ3 F3 A3 H3 s3 g3 => ?_, fun v S3 h3 u F3 A3 H3 o3 g3 r3 => ?_, fun e3 S3 h3 σ3 F3 A3 H3 s3 g3 => ?_, fun e3 S3 h3 σ3 F3 A3 H3 s3 g3 => ?_, fun c' e3 S3 h3 => ?_⟩
      · exact nx _ S3 (by rw [un, h3]; rfl) _ F3 A3 H3 (fin s3) (g.trans g3)
      · exact rt v S3 (by rw [un, h3]; rfl) u F3 A3 H3 o3 (g.trans g3) r3
      · exact bk _ S3 (by rw [un, h3]; rfl) _ F3 A3 H3 (fin s3) (g.trans g3)
      · exact ct _ S3 (by rw [un, h3]; rfl) _ F3 A3 H3 (fin s3) (g.trans g3)
      · exact absurd (by rw [un, h3]; rfl) ne
    · subst ht
      simp only [hq] at un
      exact er c e' S' un σ' F' A' H' s' g
@[simp] theorem tryAsP_s {b : PSv} {i : Nat} {l : List Bool} {s : PSv} {env : PEn} {S : Sto} : tryAsP b i l s env S = match b env S with
  | .err c e S => match l[c]? with
    | some true => unxP i (s ((e.map clrP).set i (.x c)) S)
    | some false => .err c e S
    | none => .no
  | r => r := rfl
@[simp] theorem unxP_rt {i : Nat} {v : PV} {S : Sto} : unxP i (.rt v S) = .rt v S := rfl
/-! ranges that fall -/
def dnP (lo : Int) (n : Nat) : List PV := (List.range n).map fun (k : Nat) => .d (.int (lo + (k : Int) * -1))
def rg3P (x y z : PV) (S : Sto) : PR (List PV × Wat) := match x, y, z with
  | .d (.int i), .d (.int j), .d (.int k) => if (i62 i ∧ i62 j) ∧ k = -1 then .ok (dnP i (i - j).toNat, []) S else .no
  | _, _, _ => .no
def itR3P (f g h : PEv) : PIv := fun env S => bindP (f env S) fun x S => bindP (g env S) fun y S => bindP (h env S) fun z S => rg3P x y z S
theorem itP_dn (lo : Int) (n : Nat) : ItP F1 A1 [] (Itc lo (-1) n) (dnP lo n) := fun F A S H s f hA hw => by
  refine ⟨fun i x hx => ?_, by unfold dnP; rw [List.length_map, List.length_range]; exact Nat.le_refl n⟩
  unfold dnP at hx
  rw [List.getElem?_map] at hx
  by_cases hi : i < n
  · rw [List.getElem?_range hi] at hx
    cases hx
    refine ⟨hi, fun u H' hy => ?_⟩
    obtain ⟨rfl, rfl⟩ := hy
    exact ⟨F, s, .refl, .d (.int _)⟩
  · rw [List.getElem?_eq_none (by rw [List.length_range]; omega)] at hx
    cases hx
theorem jip_range3 {tg : Expr} {p : Pos} (hg : Gl X "range") (hm : X.mg "range" = none) (h : JEp X ξ W cr a fa) (h' : JEp X ξ W cr b fb) (h'' : JEp X ξ W cr c fc) (hs : starEach [a, b, c] X.env = (false, eval a X.env) :: starEach [b, c] X.env := by rfl) (hs2 : starEach [b, c] X.env = (false, eval b X.env) :: starEach [c] X.env := by rfl) (hs3 : starEach [c] X.env = (false, eval c X.env) :: starEach [] X.env := by rfl) (hpl : (backTo pos (starEach [b, c] X.env)).any (·.1) = false := by rfl) :
    JIp X ξ W cr tg (.Call (.Name "range" p) [a, b, c] [] pos) (itR3P fa fb fc) := by
  obtain ⟨ta, a1, a2⟩ := h
  obtain ⟨tb, b1, b2⟩ := h'
  obtain ⟨tc, c1, c2⟩ := h''
  refine ⟨_, pi_range3 hg hm (pa_cons a1 (pa_cons b1 (pa_cons c1 pa_nil hs3) hs2) hs) hs hpl, fun env σ F A S H Rr s ne ok er => ?_⟩
  refine sx_bind (k := fun x S => bindP (fb env S) fun y S => bindP (fc env S) fun z S => rg3P x y z S) a2 s (rfl : itR3P fa fb fc env S = _) ne (fun x S1 h1 u F1 A1 H1 s1 g1 r1 => ?_) er
  refine sx_bind (k := fun y S => bindP (fc env S) fun z S => rg3P x y z S) b2 s1 h1 ne (fun y S2 h2 w F2 A2 H2 s2 g2 r2 => ?_) fun c S2 h2 F2 A2 H2 o2 g2 => er c S2 h2 F2 A2 H2 o2 (g1.trans g2)
  refine sx_bind (P := fun q H3 => ∃ (i j k : Int) (n : Nat), [u, w, q] = [V.int i, V.int j, V.int k] ∧ RgC i j k n ∧ Rr (Itc i k n) H3) (k := fun z S => rg3P x y z S) c2 s2 h2 ne (fun z S3 h3 q F3 A3 H3 s3 g3 r3 => ?_) fun c S3 h3 F3 A3 H3 o3 g3 => er c S3 h3 F3 A3 H3 o3 ((g1.trans g2).trans g3)
  cases x with
  | d x0 =>
    cases x0 with
    | int i =>
      cases y with
      | d y0 =>
        cases y0 with
        | int j =>
          cases z with
          | d z0 =>
            cases z0 with
            | int k =>
              have h4 : itR3P fa fb fc env S = (if (i62 i ∧ i62 j) ∧ k = -1 then .ok (dnP i (i - j).toNat, []) S3 else .no) := h3
              have hj : (i62 i ∧ i62 j) ∧ k = -1 := by
                by_cases q : (i62 i ∧ i62 j) ∧ k = -1
                · exact q
                · rw [if_neg q] at h4; exact absurd h4 ne
              rw [if_pos hj] at h4
              obtain ⟨⟨hi, hj2⟩, rfl⟩ := hj
              exact ⟨i, j, -1, (i - j).toNat, by rw [vr_int r1, vr_int r2, vr_int r3], RgC.neg hi.1 hi.2 hj2.1 hj2.2, ok _ S3 h4 _ F3 A3 H3 s3.so ((g1.trans g2).trans g3) (itP_dn i (i - j).toNat)⟩
            | _ => exact absurd h3 ne
          | _ => exact absurd h3 ne
        | _ =>
          refine absurd ?_ ne
          rw [h3]
          cases z with
          | d z0 => cases z0 <;> rfl
          | _ => rfl
      | _ =>
        refine absurd ?_ ne
        rw [h3]
        cases z with
        | d z0 => cases z0 <;> rfl
        | _ => rfl
    | _ =>
      refine absurd ?_ ne
      rw [h3]
      rfl
  | _ =>
    refine absurd ?_ ne
    rw [h3]
    rfl
@[simp] theorem itR3P_s {f g h : PEv} {env : PEn} {S : Sto} : itR3P f g h env S = bindP (f env S) fun x S => bindP (g env S) fun y S => bindP (h env S) fun z S => rg3P x y z S := rfl
@[simp] theorem rg3P_s {i j k : Int} {S : Sto} : rg3P (.d (.int i)) (.d (.int j)) (.d (.int k)) S = if (i62 i ∧ i62 j) ∧ k = -1 then .ok (dnP i (i - j).toNat, []) S else .no := rfl
end
end
end Q
/-! ### part ZC: texts: str(int), int(text), sep.join(list), find, strip().replace(..), the signs of a text walked -/
namespace Q
noncomputable section
open PySem PySem.Spec L2 PyProof.Rows
section
variable {X : Cx} {ξ : Addr × Nat} {W : WX} {cr : Nat → Value} {pos : Pos} {e o tg : Expr} {f g : Ev}
/-- the text that writes an int -/
def txN (i : Int) : Str := Str.ofString (toString i)
def strD : List D → Option Vl
  | [.int i] => if i.natAbs.log2 < 1920 then some (.v (.str (txN i))) else none
  | _ => none
theorem an_str : OpN (fun xs H Q => ∃ i : Int, xs = [.int i] ∧ i.natAbs.log2 < 1920 ∧ Q (.str (toString i)) H) strD := opn1 (fun F H x d vl Qq g hx h q => by
  cases d with
  | int i =>
    have h' : (if i.natAbs.log2 < 1920 then some (Vl.v (.str (txN i))) else none) = some vl := h
    by_cases z : i.natAbs.log2 < 1920
    · rw [if_pos z] at h'; cases h'
      cases (show Rp F x (.int i) from hx)
      exact ⟨i, rfl, z, q _ F H (Res.val g (.str _))⟩
    · rw [if_neg z] at h'; cases h'
  | _ => cases h) fun _ _ h => by unfold strD at h; split at h <;> first | exact ⟨_, rfl⟩ | cases h
theorem strD_i {i : Int} (h : i.natAbs.log2 < 1920) : strD [.int i] = some (.v (.str (txN i))) := if_pos h
/-- int(text) -/
def intS : List D → Option Vl
  | [.str a] => match PySem.intText? a with
    | some n => if a.length ≤ 640 then some (.v (.int n)) else none
    | none => none
  | _ => none
theorem an_intS : OpN (fun xs H Q => ∃ a n, xs = [.str a] ∧ PySem.intText? a = some n ∧ a.length ≤ 640 ∧ Q (.int n) H) intS := opn1 (fun F H x d vl Qq g hx h q => by
  cases d with
  | str a =>
    have h' : (match PySem.intText? a with
      | some n => if a.length ≤ 640 then some (Vl.v (.int n)) else none
      | none => none) = some vl := h
    cases z : PySem.intText? a with
    | none => rw [z] at h'; cases h'
    | some n =>
      rw [z] at h'
      have h' : (if a.length ≤ 640 then some (Vl.v (.int n)) else none) = some vl := h'
      by_cases y : a.length ≤ 640
      · rw [if_pos y] at h'; cases h'
        cases (show Rp F x (.str a) from hx)
        exact ⟨a, n, rfl, z, y, q _ F H (Res.val g (.int _))⟩
      · rw [if_neg y] at h'; cases h'
  | _ => cases h) fun _ _ h => by unfold intS at h; split at h <;> first | exact ⟨_, rfl⟩ | cases h
theorem intS_ok {a : Str} {n : Int} (h : PySem.intText? a = some n) (hl : a.length ≤ 640) : intS [.str a] = some (.v (.int n)) := by
  show (match PySem.intText? a with
      | some n => if a.length ≤ 640 then some (Vl.v (.int n)) else none
      | none => none) = _
  rw [h]
  exact if_pos hl
/-! sep.join(list of texts) -/
def strsOf : List D → Option (List Str)
  | [] => some []
  | .str a :: r => (strsOf r).map (a :: ·)
  | _ => none
theorem strs_of : ∀ ys : List Str, strsOf (ys.map PyData.str) = some ys
  | [] => rfl
  | y :: ys => by
    show (strsOf (ys.map PyData.str)).map (y :: ·) = _
    rw [strs_of ys]; rfl
theorem strs_inv {F : Hp} : ∀ {ds : List D} {vs : List V} {ys : List Str}, RpAll F vs ds → strsOf ds = some ys → vs = ys.map V.str
  | [], _, ys, .nil, h => by cases h; rfl
  | d :: ds, _, ys, .cons h1 h2, h => by
    cases d <;> try (cases h; done)
    rename_i a
    have h' : (strsOf ds).map (a :: ·) = some ys := h
    cases q : strsOf ds with
    | none => rw [q] at h'; cases h'
    | some ms => rw [q] at h'; cases h'; cases h1; rw [strs_inv h2 q]; rfl
def joinB (a : Str) (d : D) (e : En) : R Vl := match d with
  | .list ds => match strsOf ds with
    | some ys => if (ys.map Str.length).sum + ys.length * a.length ≤ 16777216 then .ok (.v (.str (Txt.join a ys))) e else .no
    | none => .no
  | _ => .no
def joinK (d : D) (g : Ev) : En → R Vl := match d with
  | .str a => bnd g (joinB a)
  | _ => fun _ => .no
def joinE (f g : Ev) : Ev := bnd f fun d => joinK d g
theorem joinB_s {a : Str} {ys : List Str} {e : En} (h : (ys.map Str.length).sum + ys.length * a.length ≤ 16777216) : joinB a (.list (ys.map PyData.str)) e = .ok (.v (.str (Txt.join a ys))) e := by
  show (match strsOf (ys.map PyData.str) with
    | some ys => if (ys.map Str.length).sum + ys.length * a.length ≤ 16777216 then R.ok (Vl.v (.str (Txt.join a ys))) e else .no
    | none => .no) = _
  rw [strs_of]
  exact if_pos h
theorem je_join {apos : Pos} (ho : JE X ξ W cr o f) (he : JE X ξ W cr e g) (hs : starEach [e] X.env = [(false, eval e X.env)] := by rfl) (hbase : attributeBase o "join" X.env (eval o X.env) = eval o X.env := by rfl) (hline : (apos.endLine == pos.line) = true := by rfl) :
    JE X ξ W cr (.Call (.Attribute o "join" apos) [e] [] pos) (joinE f g) := by
  obtain ⟨to, o1, o2, o3⟩ := ho
  obtain ⟨te, e1, e2, e3⟩ := he
  refine ⟨_, pe_join o1 e1 hs hbase hline, fun F0 H0 env σ F H Qq s ne ok er => ?_, nn_bnd o3 fun d => ?_⟩
  · refine se_bnd (k := fun d => joinK d g) o2 s ne (fun d a1 h1 v F1 H1 s1 f1 g1 c1 => ?_) er
    cases d with
    | str a =>
      cases (show Rp F1 v (.str a) from c1)
      refine ⟨⟨a, rfl⟩, ?_⟩
      have ne2 : bnd g (joinB a) a1 ≠ .no := fun z => ne (h1.trans z)
      refine se_bnd (k := joinB a) e2 s1 ne2 (fun d' a2 h2 v' F2 H2 s2 f2 g2 c2 => ?_) fun c a2 h2 => er c a2 (h1.trans h2)
      have h3 : joinE f g env = joinB a d' a2 := h1.trans h2
      cases d' with
      | list ds =>
        have h4 : joinE f g env = match strsOf ds with
          | some ys => if (ys.map Str.length).sum + ys.length * a.length ≤ 16777216 then R.ok (Vl.v (.str (Txt.join a ys))) a2 else .no
          | none => .no := h3
        obtain ⟨p, vs, rfl, r1, r2⟩ := (show ∃ a vs, v' = .ref a ∧ Rd H2 a (.lst vs) ∧ RpAll F2 vs ds from c2)
        cases hy : strsOf ds with
        | none => rw [hy] at h4; exact absurd h4 ne
        | some ys =>
          rw [hy] at h4
          have h4 : joinE f g env = if (ys.map Str.length).sum + ys.length * a.length ≤ 16777216 then R.ok (Vl.v (.str (Txt.join a ys))) a2 else .no := h4
          by_cases q : (ys.map Str.length).sum + ys.length * a.length ≤ 16777216
          · rw [if_pos q] at h4
            rw [strs_inv r2 hy] at r1
            exact ⟨a, p, ys, rfl, rfl, .inl (rd_sq r1), q, ok _ a2 h4 _ F2 H2 s2 (f1.trans f2) (g1.trans g2) (.str _)⟩
          · rw [if_neg q] at h4; exact absurd h4 ne
      | _ => exact absurd h3 ne
    | _ => exact absurd h1 ne
  · cases d with
    | str a =>
      refine nn_bnd e3 fun d' env b env' h i hi => ?_
      cases d' with
      | list ds =>
        have h' : (match strsOf ds with
          | some ys => if (ys.map Str.length).sum + ys.length * a.length ≤ 16777216 then R.ok (Vl.v (.str (Txt.join a ys))) env else .no
          | none => .no) = .ok b env' := h
        cases hy : strsOf ds with
        | none => rw [hy] at h'; cases h'
        | some ys =>
          rw [hy] at h'
          have h' : (if (ys.map Str.length).sum + ys.length * a.length ≤ 16777216 then R.ok (Vl.v (.str (Txt.join a ys))) env else .no) = .ok b env' := h'
          by_cases q : (ys.map Str.length).sum + ys.length * a.length ≤ 16777216
          · rw [if_pos q] at h'; cases h'; exact hi
          · rw [if_neg q] at h'; cases h'
      | _ => cases h
    | _ => exact fun env b env' h => by cases h
/-! text.find(text) -/
def findD : D → D → Option Vl
  | .str a, .str b => some (.v (.int (Txt.find a b)))
  | _, _ => none
def findK (d : D) (g : Ev) : En → R Vl := match d with
  | .str a => bnd g fun d' e => out (findD (.str a) d') e
  | _ => fun _ => .no
def findE (f g : Ev) : Ev := bnd f fun d => findK d g
theorem je_find {apos : Pos} (ho : JE X ξ W cr o f) (he : JE X ξ W cr e g) (hs : starEach [e] X.env = [(false, eval e X.env)] := by rfl) (hbase : attributeBase o "find" X.env (eval o X.env) = eval o X.env := by rfl) (hline : (apos.endLine == pos.line) = true := by rfl) :
    JE X ξ W cr (.Call (.Attribute o "find" apos) [e] [] pos) (findE f g) := by
  obtain ⟨to, o1, o2, o3⟩ := ho
  obtain ⟨te, e1, e2, e3⟩ := he
  refine ⟨_, pe_m1 PySem.F.slot_str_find PySem.F.type_str_find mt_find o1 e1 hs hbase hline, fun F0 H0 env σ F H Qq s ne ok er => ?_, nn_bnd o3 fun d => ?_⟩
  · refine se_bnd (k := fun d => findK d g) o2 s ne (fun d a1 h1 v F1 H1 s1 f1 g1 c1 => ?_) er
    cases d with
    | str a =>
      cases (show Rp F1 v (.str a) from c1)
      refine ⟨⟨a, rfl⟩, ?_⟩
      have ne2 : bnd g (fun d' e => out (findD (.str a) d') e) a1 ≠ .no := fun z => ne (h1.trans z)
      refine se_bnd (k := fun d' e => out (findD (.str a) d') e) e2 s1 ne2 (fun d' a2 h2 v' F2 H2 s2 f2 g2 c2 => ?_) fun c a2 h2 => er c a2 (h1.trans h2)
      have h3 : findE f g env = out (findD (.str a) d') a2 := h1.trans h2
      cases d' with
      | str b =>
        cases (show Rp F2 v' (.str b) from c2)
        exact ⟨a, b, rfl, rfl, ok _ a2 h3 _ F2 H2 s2 (f1.trans f2) (g1.trans g2) (.int _)⟩
      | _ => exact absurd h3 ne
    | _ => exact absurd h1 ne
  · cases d with
    | str a => exact nn_bnd e3 fun d' => nn_out _
    | _ => exact fun env b env' h => by cases h
/-! a text walked -/
def sgnD (x : Str) : List D := x.cps.toList.map fun c => .str ⟨#[c]⟩
def itX (f : Ev) : Iv := bnd f fun d e => match d with
  | .str x => .ok (sgnD x) e
  | _ => .no
theorem it_txt {F1 H0 : Hp} (x : Str) : ItOk F1 H0 (Its x) (sgnD x) := fun F H f g h => by
  refine ⟨fun i d hd => ?_, by unfold sgnD; rw [List.length_map, Array.length_toList]; exact Nat.le_refl _⟩
  unfold sgnD at hd
  rw [List.getElem?_map] at hd
  cases q : x.cps.toList[i]? with
  | none => rw [q] at hd; cases hd
  | some c =>
    rw [q] at hd
    cases hd
    have hi : i < x.cps.size := by
      have := (List.getElem?_eq_some_iff.mp q).1
      rwa [Array.length_toList] at this
    refine ⟨hi, fun y H' hy => ?_⟩
    obtain ⟨rfl, c', h1, rfl⟩ := hy
    rw [Array.getElem?_toList] at q
    rw [q] at h1
    cases h1
    exact ⟨F, Gr.refl g, .str _⟩
theorem si_txt {te : TE} (h : SE ξ W cr te f) : SI ξ W cr (iStr te) (itX f) := fun F0 H0 env σ F H Rr s ne ok er => by
  refine se_bnd (k := fun d e => match d with
    | .str x => .ok (sgnD x) e
    | _ => .no) h s ne (fun d e1 h1 v F1 H1 s1 f1 g1 c1 => ?_) er
  have h2 : itX f env = _ := h1
  cases d with
  | str x =>
    cases (show Rp F1 v (.str x) from c1)
    exact ⟨x, rfl, ok _ e1 h2 _ F1 H1 s1 f1 g1 (it_txt x)⟩
  | _ => exact absurd h2 ne
theorem ji_txt (h : JE X ξ W cr e f) : JI X ξ W cr tg e (itX f) := by
  obtain ⟨te, a1, a2, a3⟩ := h
  refine ⟨_, pi_str a1, si_txt a2, nn_bnd a3 fun d env a env' q i hi => ?_⟩
  cases d with
  | str x => cases q; exact hi
  | _ => cases q
/-! behind a written text that is stored, a token is out: text.strip().replace(y, z) -/
def JET (X : Cx) (ξ : Addr × Nat) (W : WX) (cr : Nat → Value) (e : Expr) (f : Ev) : Prop := ∃ te, PET X e te ∧ SE ξ W cr te f ∧ NN f
def JST (X : Cx) (ξ : Addr × Nat) (W : WX) (cr : Nat → Value) (st : Stmt) (f : Sv) : Prop := ∃ ts, PST X st ts ∧ SS ξ W cr ts f
def JSsT (X : Cx) (ξ : Addr × Nat) (W : WX) (cr : Nat → Value) (st : List Stmt) (f : Sv) : Prop := ∃ ts, PSsT X st ts ∧ SS ξ W cr ts f
theorem jst_of {st : Stmt} {f : Sv} (h : JS X ξ W cr st f) : JST X ξ W cr st f := let ⟨_, a1, a2⟩ := h; ⟨_, PST.of a1, a2⟩
theorem jsst_of {st : List Stmt} {f : Sv} (h : JSs X ξ W cr st f) : JSsT X ξ W cr st f := let ⟨_, a1, a2⟩ := h; ⟨_, PSsT.of a1, a2⟩
theorem jsst_cons {st : Stmt} {rest : List Stmt} {f g : Sv} (h : JST X ξ W cr st f) (h' : JSsT X ξ W cr rest g) : JSsT X ξ W cr (st :: rest) (seqS f g) := let ⟨_, a1, a2⟩ := h; let ⟨_, b1, b2⟩ := h'; ⟨_, psst_cons a1 b1, ss_seq a2 b2⟩
theorem jsst_one {st : Stmt} {f : Sv} (h : JST X ξ W cr st f) : JSsT X ξ W cr [st] f := let ⟨_, a1, a2⟩ := h; ⟨_, CwR.psst_one a1, a2⟩
theorem jst_if {c : Expr} {s1 s2 : List Stmt} {t : Tv} {f g : Sv} (hc : JT X ξ W cr c t) (ha : JSsT X ξ W cr s1 f) (hb : JSsT X ξ W cr s2 g) : JST X ξ W cr (.If c s1 s2 pos) (ifS t f g) := let ⟨_, c1, c2, _⟩ := hc; let ⟨_, a1, a2⟩ := ha; let ⟨_, b1, b2⟩ := hb; ⟨_, CwR.pst_if c1 a1 b1, ss_if c2 a2 b2⟩
theorem jst_set (i : Nat) {x : Str} {pos' : Pos} (hN : X.N.Nodup) (hi : X.N[i]? = some x) (hx : Loc X.env.scope x) (he : JET X ξ W cr e f) (hs : swapsWith e (some (.Name x pos')) pos.line X.env = pure false := by rfl)
    (hf : X.fn x = true ∨ X.env.scope.names.lookup x = some .local := by first | exact .inl rfl | exact .inr rfl | assumption) : JST X ξ W cr (.Assign [.Name x pos'] e pos) (asgS i f) := by
  obtain ⟨te, a1, a2, _⟩ := he
  refine ⟨_, fun pins s σ H D h0 I h => ?_, ss_asg a2⟩
  refine wpAny_Assign_Name (thn (a1 pins s σ H _ h0 I h) fun v s1 ⟨y, H1, I1, r1, q1⟩ => ?_) hs
  exact store_ok I1 hN hi hx r1 (fun s2 I2 => ⟨_, H1, I2, q1⟩) hf  -- q
/-- a written text is stored -/
theorem jss_strT (i : Nat) {j : Nat} {x c : Str} {cpos pos' : Pos} {rest : List Stmt} {g : Sv} (hN : X.N.Nodup) (hi : X.N[i]? = some x) (hx : Loc X.env.scope x) (h2 : JSsT X ξ W cr rest g)
    (hs : swapsWith (.Constant (.str c) j cpos) (some (.Name x pos')) pos.line X.env = pure false := by rfl) (hf : X.fn x = true ∨ X.env.scope.names.lookup x = some .local := by first | exact .inl rfl | exact .inr rfl | assumption) :  -- q
    JSs X ξ W cr (.Assign [.Name x pos'] (.Constant (.str c) j cpos) pos :: rest) (seqS (asgS i (cE (.str c))) g) := by
  obtain ⟨_, b1, b2⟩ := h2
  exact ⟨_, pss_str hN hi hx b1 hs hf, ss_seq (ss_asg (se_c fun _ => .str c)) b2⟩
def stripD : List D → Option Vl
  | [.str a] => if a.length ≤ LIM then some (.v (.str (Txt.strip a))) else none
  | _ => none
def stripE (f : Ev) : Ev := op1 (fun d => stripD [d]) f
theorem je_strip {apos : Pos} (ho : JE X ξ W cr o f) (hbase : attributeBase o "strip" X.env (eval o X.env) = eval o X.env := by rfl) (hline : (apos.endLine == pos.line) = true := by rfl) :
    JE X ξ W cr (.Call (.Attribute o "strip" apos) [] [] pos) (stripE f) := by
  obtain ⟨to, o1, o2, o3⟩ := ho
  refine ⟨_, pe_strip o1 hbase hline, fun F0 H0 env σ F H Qq s ne ok er => ?_, nn_op1 o3⟩
  refine se_bnd (k := fun d e => out (stripD [d]) e) o2 s ne (fun d a1 h1 v F1 H1 s1 f1 g1 c1 => ?_) er
  have h2 : stripE f env = out (stripD [d]) a1 := h1
  cases d with
  | str a =>
    cases (show Rp F1 v (.str a) from c1)
    have h3 : stripE f env = out (if a.length ≤ LIM then some (Vl.v (.str (Txt.strip a))) else none) a1 := h2
    by_cases q : a.length ≤ LIM
    · rw [if_pos q] at h3
      exact ⟨⟨a, rfl⟩, a, rfl, rfl, by rw [← LIM_eq]; exact q, ok _ a1 h3 _ F1 H1 s1 f1 g1 (.str _)⟩
    · rw [if_neg q] at h3; exact absurd h3 ne
  | _ => exact absurd h2 ne
def replD (y z : Str) : D → Option Vl
  | .str a => if a.length + (a.length + 1) * z.length ≤ 16777216 then some (.v (.str (Txt.replace a y z))) else none
  | _ => none
def replE (f : Ev) (y z : Str) : Ev := op1 (replD y z) f
theorem jet_repl {y z : Str} {j k : Nat} {c0 c1 apos : Pos} (ho : JE X ξ W cr o f) (hyz : (y == z) = false := by decide)
    (hst : starEach [.Constant (.str y) j c0, .Constant (.str z) k c1] X.env = [(false, eval (.Constant (.str y) j c0) X.env), (false, eval (.Constant (.str z) k c1) X.env)] := by rfl)  -- q
    (hbase : attributeBase o "replace" X.env (eval o X.env) = eval o X.env := by rfl) (hline : (apos.endLine == pos.line) = true := by rfl) :  -- q
    JET X ξ W cr (.Call (.Attribute o "replace" apos) [.Constant (.str y) j c0, .Constant (.str z) k c1] [] pos) (replE f y z) := by
  obtain ⟨to, o1, o2, o3⟩ := ho
  refine ⟨_, CwR.pet_replC o1 hyz hst hbase hline, fun F0 H0 env σ F H Qq s ne ok er => ?_, nn_op1 o3⟩
  refine se_bnd (k := fun d e => out (replD y z d) e) o2 s ne (fun d a1 h1 v F1 H1 s1 f1 g1 c1 => ?_) er
  have h2 : replE f y z env = out (replD y z d) a1 := h1
  cases d with
  | str a =>
    cases (show Rp F1 v (.str a) from c1)
    have h3 : replE f y z env = out (if a.length + (a.length + 1) * z.length ≤ 16777216 then some (Vl.v (.str (Txt.replace a y z))) else none) a1 := h2
    by_cases q : a.length + (a.length + 1) * z.length ≤ 16777216
    · rw [if_pos q] at h3
      exact ⟨a, rfl, q, ok _ a1 h3 _ F1 H1 s1 f1 g1 (.str _)⟩
    · rw [if_neg q] at h3; exact absurd h3 ne
  | _ => exact absurd h2 ne
end
section
variable {f g : Ev} {env : En}
@[simp] theorem joinE_s : joinE f g env = bnd f (fun d => joinK d g) env := rfl
@[simp] theorem joinK_s {a : Str} : joinK (.str a) g = bnd g (joinB a) := rfl
@[simp] theorem findE_s : findE f g env = bnd f (fun d => findK d g) env := rfl
@[simp] theorem findK_s {a : Str} : findK (.str a) g = bnd g (fun d' e => out (findD (.str a) d') e) := rfl
@[simp] theorem itX_s : itX f env = bnd f (fun d e => match d with
  | .str x => .ok (sgnD x) e
  | _ => .no) env := rfl
@[simp] theorem stripE_s : stripE f env = op1 (fun d => stripD [d]) f env := rfl
@[simp] theorem replE_s {y z : Str} : replE f y z env = op1 (replD y z) f env := rfl
end
end
end Q
/-! ### the law law_k10_written: its text by places, its defs -/
namespace Lw
open PySem L2 Q
def topS (i : Nat) : Stmt := PySem.Challenge.pw_polyring_k10_written.main.body.getD i (.Pass ⟨0, 0, 0, 0⟩)
abbrev c_AlgebraError : Nat := 0
abbrev c_NoRing : Nat := 1
abbrev c_NoUnknowns : Nat := 2
abbrev c_NotWritten : Nat := 3
def crA (ad : Nat → Addr) : Nat → Value := fun c => .ref (ad (1000 + c))
structure Ex1 (K : PySem.W.Frag) (mg : Str → Option Value) (x : Str) (C : Addr) : Prop where
  q : PySem.W.excIn K C [.type "ValueError", .type "Exception", .type "BaseException", .type "object"] "ValueError.__new__" = true
  g : mg x = some (.ref C)
  k : PySem.W.keepIn K (.ref C) = true
  b : PySem.W.subIn K (.ref C) (.type "BaseException") = some true
  t : PySem.W.typeIn K (.ref C) = some (.type "type")
theorem Ex1.at {X : Cx} {x : Str} {C : Addr} (h : Ex1 X.K X.mg x C) : ExcAt X x C := ⟨h.q, h.g, h.k, h.b, h.t⟩
theorem tk0 {X : Cx} : Takes X W0 := takes0
theorem tk_cx {P : Program} {w : World} {K : PySem.W.Frag} {mg : Str → Option Value} {base : Heap} {N : List Str} {qual : Str} {sc : Scope} {f : Addr} {cd : Value} {A : Around} {outer : List Env} {s : Shared} {H : Hp} {E : XK} : Takes (cxOf (L2.CX P w) P w K mg base N qual sc f cd A outer s H E) (fun cls d _ H => E cls d H) := takes_of rfl rfl rfl rfl
theorem hp_cx {P : Program} {w : World} {K : PySem.W.Frag} {mg : Str → Option Value} {base : Heap} {N : List Str} {qual : Str} {sc : Scope} {f : Addr} {cd : Value} {A : Around} {outer : List Env} {s : Shared} {H : Hp} {E : XK} : PassesOwn (model (cxOf (L2.CX P w) P w K mg base N qual sc f cd A outer s H E).prog (cxOf (L2.CX P w) P w K mg base N qual sc f cd A outer s H E).w) (cxOf (L2.CX P w) P w K mg base N qual sc f cd A outer s H E).A (cxOf (L2.CX P w) P w K mg base N qual sc f cd A outer s H E).env (cxOf (L2.CX P w) P w K mg base N qual sc f cd A outer s H E).xe := passes_of rfl
structure Tx (K : PySem.W.Frag) (mg : Str → Option Value) (ad : Nat → Addr) (fd : Nat → FuncData) : Prop where
  F0 : Fun K "is_prime" "is_prime" (topS 7) (ad 0) (fd 0)
  b0 : Binds K (fd 0) ["thing"] []
  g0 : mg "is_prime" = some (.ref (ad 0))
  F1 : Fun K "is_ring" "is_ring" (topS 8) (ad 1) (fd 1)
  b1 : Binds K (fd 1) ["thing"] []
  g1 : mg "is_ring" = some (.ref (ad 1))
  F2 : Fun K "need_ring" "need_ring" (topS 11) (ad 2) (fd 2)
  b2 : Binds K (fd 2) ["ring"] []
  g2 : mg "need_ring" = some (.ref (ad 2))
  F3 : Fun K "is_whole" "is_whole" (topS 12) (ad 3) (fd 3)
  b3 : Binds K (fd 3) ["thing"] []
  g3 : mg "is_whole" = some (.ref (ad 3))
  F4 : Fun K "need_unknowns" "need_unknowns" (topS 13) (ad 4) (fd 4)
  b4 : Binds K (fd 4) ["many"] []
  g4 : mg "need_unknowns" = some (.ref (ad 4))
  F5 : Fun K "letters" "letters" (topS 17) (ad 5) (fd 5)
  b5 : Binds K (fd 5) ["exponents"] []
  g5 : mg "letters" = some (.ref (ad 5))
  F6 : Fun K "shown_term" "shown_term" (topS 18) (ad 6) (fd 6)
  b6 : Binds K (fd 6) ["exponents", "number"] []
  g6 : mg "shown_term" = some (.ref (ad 6))
  F7 : Fun K "shown" "shown" (topS 19) (ad 7) (fd 7)
  b7 : Binds K (fd 7) ["row"] []
  g7 : mg "shown" = some (.ref (ad 7))
  F8 : Fun K "whole_of" "whole_of" (topS 20) (ad 8) (fd 8)
  b8 : Binds K (fd 8) ["word"] []
  g8 : mg "whole_of" = some (.ref (ad 8))
  F9 : Fun K "power_of" "power_of" (topS 21) (ad 9) (fd 9)
  b9 : Binds K (fd 9) ["word"] []
  g9 : mg "power_of" = some (.ref (ad 9))
  F10 : Fun K "read_term" "read_term" (topS 22) (ad 10) (fd 10)
  b10 : Binds K (fd 10) ["many", "text"] []
  g10 : mg "read_term" = some (.ref (ad 10))
  F11 : Fun K "read" "read" (topS 23) (ad 11) (fd 11)
  b11 : Binds K (fd 11) ["ring", "many", "text"] []
  g11 : mg "read" = some (.ref (ad 11))
  F12 : Fun K "_law_whole" "_law_whole" (topS 25) (ad 12) (fd 12)
  b12 : Binds K (fd 12) ["_law_found"] []
  g12 : mg "_law_whole" = some (.ref (ad 12))
  F13 : Fun K "_law_cell_at" "_law_cell_at" (topS 26) (ad 13) (fd 13)
  b13 : Binds K (fd 13) ["_law_script", "_law_k"] []
  g13 : mg "_law_cell_at" = some (.ref (ad 13))
  F14 : Fun K "_law_prime" "_law_prime" (topS 27) (ad 14) (fd 14)
  b14 : Binds K (fd 14) ["_law_cell"] []
  g14 : mg "_law_prime" = some (.ref (ad 14))
  F15 : Fun K "_law_ring" "_law_ring" (topS 28) (ad 15) (fd 15)
  b15 : Binds K (fd 15) ["_law_cell"] []
  g15 : mg "_law_ring" = some (.ref (ad 15))
  F16 : Fun K "_law_settled" "_law_settled" (topS 29) (ad 16) (fd 16)
  b16 : Binds K (fd 16) ["_law_ring_here", "_law_number_here"] []
  g16 : mg "_law_settled" = some (.ref (ad 16))
  F17 : Fun K "_law_gathered" "_law_gathered" (topS 30) (ad 17) (fd 17)
  b17 : Binds K (fd 17) ["_law_ring_here", "_law_pairs_here"] []
  g17 : mg "_law_gathered" = some (.ref (ad 17))
  F18 : Fun K "_law_same" "_law_same" (topS 31) (ad 18) (fd 18)
  b18 : Binds K (fd 18) ["_law_found", "_law_due"] []
  g18 : mg "_law_same" = some (.ref (ad 18))
  F19 : Fun K "_law_number" "_law_number" (topS 32) (ad 19) (fd 19)
  b19 : Binds K (fd 19) ["_law_cell"] []
  g19 : mg "_law_number" = some (.ref (ad 19))
  F20 : Fun K "_law_exponents" "_law_exponents" (topS 33) (ad 20) (fd 20)
  b20 : Binds K (fd 20) ["_law_cell", "_law_many"] []
  g20 : mg "_law_exponents" = some (.ref (ad 20))
  F21 : Fun K "_law_pairs" "_law_pairs" (topS 34) (ad 21) (fd 21)
  b21 : Binds K (fd 21) ["_law_script", "_law_place", "_law_many", "_law_size"] []
  g21 : mg "_law_pairs" = some (.ref (ad 21))
  F22 : Fun K "_law_word" "_law_word" (topS 35) (ad 22) (fd 22)
  b22 : Binds K (fd 22) ["_law_term"] []
  g22 : mg "_law_word" = some (.ref (ad 22))
  F23 : Fun K "_law_written" "_law_written" (topS 36) (ad 23) (fd 23)
  b23 : Binds K (fd 23) ["_law_row"] []
  g23 : mg "_law_written" = some (.ref (ad 23))
  F24 : Fun K "_law_far" "_law_far" (topS 37) (ad 24) (fd 24)
  b24 : Binds K (fd 24) ["_law_ring_here", "_law_many", "_law_row", "_law_step"] []
  g24 : mg "_law_far" = some (.ref (ad 24))
  F25 : Fun K "law" "law" (topS 38) (ad 25) (fd 25)
  b25 : Binds K (fd 25) ["_law_script"] []
  g25 : mg "law" = some (.ref (ad 25))
  c0 : ∃ t, mg "GREATEST_PRIME" = some (.int 997 t)
  c1 : ∃ t, mg "MOST_UNKNOWNS" = some (.int 4 t)
  c2 : ∃ t, mg "LETTERS" = some (.str "xyzw" t)
  c3 : ∃ t, mg "FIGURES" = some (.str "0123456789" t)
  z_isinstance : mg "isinstance" = none
  z_int : mg "int" = none
  z_bool : mg "bool" = none
  z_range : mg "range" = none
  z_len : mg "len" = none
  z_str : mg "str" = none
  z_abs : mg "abs" = none
  z_tuple : mg "tuple" = none
  z_sorted : mg "sorted" = none
  z_list : mg "list" = none
  z_max : mg "max" = none
  e0 : Ex1 K mg "AlgebraError" (ad 1000)
  e1 : Ex1 K mg "NoRing" (ad 1001)
  e2 : Ex1 K mg "NoUnknowns" (ad 1002)
  e3 : Ex1 K mg "NotWritten" (ad 1003)
  h3 : ∀ c b, [false, false, false, true][c]? = some b → PySem.W.exmOne K (crA ad c) (.ref (ad 1003)) = some b
noncomputable section
variable {K : PySem.W.Frag} {mg : Str → Option Value} {ad : Nat → Addr} {fd : Nat → FuncData}
abbrev s_is_prime : Stmt := topS 7
abbrev N_is_prime : List Str := ["thing", "by"]
def fb0_is_prime : Sv := (ifS (andT (toT (op2 ltD (varE 1) (varE 0))) (toT (op2 eqD (op2 modD (varE 0) (varE 1)) (cE (.int 0))))) (retS (cE (.bool false))) skipS)
def b_is_prime : Sv := (seqS (ifS (orT (notT (toT (isiE "int" (varE 0)))) (orT (toT (isiE "bool" (varE 0))) (notT (toT (chainE leD leD (cE (.int 2)) (varE 0) (cE (.int 997))))))) (retS (cE (.bool false))) skipS) (seqS (forS (itR2 (cE (.int 2)) (cE (.int 32))) (bdN 1) fb0_is_prime) (retS (cE (.bool true)))))
def m_is_prime : Fv := runDef 2 b_is_prime
theorem sc_is_prime : FnScope N_is_prime ["thing"] (defScope s_is_prime) := ⟨rfl, rfl, rfl, by decide +kernel, rfl, by decide +kernel, by decide +kernel⟩
theorem ok_is_prime {P : Program} {w : World} {base : Heap} (T : Tx K mg ad fd) : FnOk P w K mg base (L2.CX P w) 1 (ad 0) (fd 0) ["thing"] (spOf (crA ad) 1 m_is_prime) :=
  fn_ok T.F0 sc_is_prime (by decide) (fun cdv A outer s H E hr => ⟨(0, 0), by
    have sc := sc_is_prime
    exact (jss_cons (js_if (JW.t (jw_or (jt_not (jt_val (je_isi kit_int (by rfl) T.z_isinstance (by rfl) T.z_int (by decide +kernel) (je_var 0)))) (jw_or (jt_val (je_isi kit_bool (by rfl) T.z_isinstance (by rfl) T.z_bool (by decide +kernel) (je_var 0))) (jw_or1 (jt_not (jt_chain op_le ap_le op_le ap_le je_int (je_var 0) (je_glob (by rfl) (T.c0).choose_spec))))))) (jss_one (js_ret je_bool)) jss_nil) (jss_cons (js_for hp_cx rfl (ji_range2 (by rfl) T.z_range je_int je_int) (jg_name 1 sc.nd (by rfl) (by first | exact Or.inl rfl | exact Or.inr rfl)) (jss_one (js_if (JW.t (jw_and (jt_cmp op_lt ap_lt (je_var 1) (je_var 0) (nomark _)) (jw_and1 (jt_cmp (op_eqD hr.units) ap_eq (je_op op_modN ap_mod (je_var 0) (je_var 1)) je_int (nomark _))))) (jss_one (js_ret je_bool)) jss_nil))) (jss_one (js_ret je_bool))))⟩)

abbrev s_is_ring : Stmt := topS 8
abbrev N_is_ring : List Str := ["thing"]
def b_is_ring : Sv := (retS (andE (isiE "int" (varE 0)) (andE (notE (isiE "bool" (varE 0))) (orE (op2 eqD (varE 0) (cE (.int 0))) (callE m_is_prime [(false, (varE 0))])))))
def m_is_ring : Fv := runDef 1 b_is_ring
theorem sc_is_ring : FnScope N_is_ring ["thing"] (defScope s_is_ring) := ⟨rfl, rfl, rfl, by decide +kernel, rfl, by decide +kernel, by decide +kernel⟩
theorem ok_is_ring {P : Program} {w : World} {base : Heap} (T : Tx K mg ad fd) : FnOk P w K mg base (L2.CX P w) 2 (ad 1) (fd 1) ["thing"] (spOf (crA ad) 1 m_is_ring) :=
  fn_ok T.F1 sc_is_ring (by decide) (fun cdv A outer s H E hr => ⟨(0, 0), by
    have sc := sc_is_ring
    exact (jss_one (js_ret (je_and (je_isi kit_int (by rfl) T.z_isinstance (by rfl) T.z_int (by decide +kernel) (je_var 0)) (je_and (je_not (je_isi kit_bool (by rfl) T.z_isinstance (by rfl) T.z_bool (by decide +kernel) (je_var 0))) (je_one (je_or (je_cmp (op_eqD hr.units) ap_eq (je_var 0) je_int (nomark _)) (je_one (je_call (ok_is_prime T) tk_cx (hr.mono (by decide)) T.g0 T.F0.kp T.b0 (by rfl) (ja_cons (je_var 0) ja_nil) rfl))))))))⟩)

abbrev s_need_ring : Stmt := topS 11
abbrev N_need_ring : List Str := ["ring"]
def b_need_ring : Sv := (ifS (notT (toT (callE m_is_ring [(false, (varE 0))]))) (errS c_NoRing) skipS)
def m_need_ring : Fv := runDef 1 b_need_ring
theorem sc_need_ring : FnScope N_need_ring ["ring"] (defScope s_need_ring) := ⟨rfl, rfl, rfl, by decide +kernel, rfl, by decide +kernel, by decide +kernel⟩
theorem ok_need_ring {P : Program} {w : World} {base : Heap} (T : Tx K mg ad fd) : FnOk P w K mg base (L2.CX P w) 3 (ad 2) (fd 2) ["ring"] (spOf (crA ad) 1 m_need_ring) :=
  fn_ok T.F2 sc_need_ring (by decide) (fun cdv A outer s H E hr => ⟨(0, 0), by
    have sc := sc_need_ring
    exact (jss_one (js_if (jt_not (jt_val (je_call (ok_is_ring T) tk_cx (hr.mono (by decide)) T.g1 T.F1.kp T.b1 (by rfl) (ja_cons (je_var 0) ja_nil) rfl))) (jss_one (js_raise rfl tk_cx (T.e1).at rfl (by rfl))) jss_nil))⟩)

abbrev s_is_whole : Stmt := topS 12
abbrev N_is_whole : List Str := ["thing"]
def b_is_whole : Sv := (retS (andE (isiE "int" (varE 0)) (notE (isiE "bool" (varE 0)))))
def m_is_whole : Fv := runDef 1 b_is_whole
theorem sc_is_whole : FnScope N_is_whole ["thing"] (defScope s_is_whole) := ⟨rfl, rfl, rfl, by decide +kernel, rfl, by decide +kernel, by decide +kernel⟩
theorem ok_is_whole {P : Program} {w : World} {base : Heap} (T : Tx K mg ad fd) : FnOk P w K mg base (L2.CX P w) 1 (ad 3) (fd 3) ["thing"] (spOf (crA ad) 1 m_is_whole) :=
  fn_ok T.F3 sc_is_whole (by decide) (fun cdv A outer s H E hr => ⟨(0, 0), by
    have sc := sc_is_whole
    exact (jss_one (js_ret (je_and (je_isi kit_int (by rfl) T.z_isinstance (by rfl) T.z_int (by decide +kernel) (je_var 0)) (je_one (je_not (je_isi kit_bool (by rfl) T.z_isinstance (by rfl) T.z_bool (by decide +kernel) (je_var 0)))))))⟩)

abbrev s_need_unknowns : Stmt := topS 13
abbrev N_need_unknowns : List Str := ["many"]
def b_need_unknowns : Sv := (ifS (orT (notT (toT (callE m_is_whole [(false, (varE 0))]))) (notT (toT (chainE leD leD (cE (.int 1)) (varE 0) (cE (.int 4)))))) (errS c_NoUnknowns) skipS)
def m_need_unknowns : Fv := runDef 1 b_need_unknowns
theorem sc_need_unknowns : FnScope N_need_unknowns ["many"] (defScope s_need_unknowns) := ⟨rfl, rfl, rfl, by decide +kernel, rfl, by decide +kernel, by decide +kernel⟩
theorem ok_need_unknowns {P : Program} {w : World} {base : Heap} (T : Tx K mg ad fd) : FnOk P w K mg base (L2.CX P w) 2 (ad 4) (fd 4) ["many"] (spOf (crA ad) 1 m_need_unknowns) :=
  fn_ok T.F4 sc_need_unknowns (by decide) (fun cdv A outer s H E hr => ⟨(0, 0), by
    have sc := sc_need_unknowns
    exact (jss_one (js_if (JW.t (jw_or (jt_not (jt_val (je_call (ok_is_whole T) tk_cx (hr.mono (by decide)) T.g3 T.F3.kp T.b3 (by rfl) (ja_cons (je_var 0) ja_nil) rfl))) (jw_or1 (jt_not (jt_chain op_le ap_le op_le ap_le je_int (je_var 0) (je_glob (by rfl) (T.c1).choose_spec)))))) (jss_one (js_raise rfl tk_cx (T.e2).at rfl (by rfl))) jss_nil))⟩)

abbrev s_letters : Stmt := topS 17
abbrev N_letters : List Str := ["exponents", "words", "k"]
def fb0_letters : Sv := (seqS (ifS (toT (op2 eqD (op2 ixD (varE 0) (varE 2)) (cE (.int 1)))) (appS 1 (op2 ixD (cE (.str "xyzw")) (varE 2))) skipS) (ifS (toT (op2 gtD (op2 ixD (varE 0) (varE 2)) (cE (.int 1)))) (appS 1 (op2 addD (op2 addD (op2 ixD (cE (.str "xyzw")) (varE 2)) (cE (.str "^"))) (opN strD [(op2 ixD (varE 0) (varE 2))]))) skipS))
def b_letters : Sv := (seqS (asgS 1 (lstE [])) (seqS (forS (itR1 (opN lenD [(varE 0)])) (bdN 2) fb0_letters) (retS (varE 1))))
def m_letters : Fv := runDef 3 b_letters
theorem sc_letters : FnScope N_letters ["exponents"] (defScope s_letters) := ⟨rfl, rfl, rfl, by decide +kernel, rfl, by decide +kernel, by decide +kernel⟩
theorem ok_letters {P : Program} {w : World} {base : Heap} (T : Tx K mg ad fd) : FnOk P w K mg base (L2.CX P w) 1 (ad 5) (fd 5) ["exponents"] (spOf (crA ad) 1 m_letters) :=
  fn_ok T.F5 sc_letters (by decide) (fun cdv A outer s H E hr => ⟨(0, 0), by
    have sc := sc_letters
    exact (jss_cons (js_set 1 sc.nd (by rfl) (by first | exact Or.inl rfl | exact Or.inr rfl) (je_lst ja_nil)) (jss_cons (js_for hp_cx rfl (ji_range1 (by rfl) T.z_range (je_bltn cl_len an_len (by rfl) T.z_len (by decide +kernel) (ja_cons (je_var 0) ja_nil))) (jg_name 2 sc.nd (by rfl) (by first | exact Or.inl rfl | exact Or.inr rfl)) (jss_cons (js_if (jt_cmp (op_eqD hr.units) ap_eq (je_ix (je_var 0) (je_var 2)) je_int (nomark _)) (jss_one (js_app 1 (he := (je_ix (je_globS (by rfl) (T.c2).choose_spec) (je_var 2))) (hb := fun a b => pe_bm PySem.F.plainAttrs_list PySem.F.slot_list_append PySem.F.type_list_append mt_append a b))) jss_nil) (jss_one (js_if (jt_cmp op_gt ap_gt (je_ix (je_var 0) (je_var 2)) je_int (nomark _)) (jss_one (js_app 1 (he := (je_op opl_add ap_add (je_op opl_add ap_add (je_ix (je_globS (by rfl) (T.c2).choose_spec) (je_var 2)) je_str) (je_bltT call_str_int an_str (by rfl) T.z_str (by decide +kernel) (ja_cons (je_ix (je_var 0) (je_var 2)) ja_nil)))) (hb := fun a b => pe_bm PySem.F.plainAttrs_list PySem.F.slot_list_append PySem.F.type_list_append mt_append a b))) jss_nil)))) (jss_one (js_ret (je_var 1)))))⟩)

abbrev s_shown_term : Stmt := topS 18
abbrev N_shown_term : List Str := ["exponents", "number", "words"]
def b_shown_term : Sv := (seqS (asgS 2 (callE m_letters [(false, (varE 0))])) (seqS (ifS (orT (toT (op2 neD (varE 1) (cE (.int 1)))) (toT (op2 eqD (varE 2) (lstE [])))) (asgS 2 (op2 addD (lstE [(opN strD [(varE 1)])]) (varE 2))) skipS) (retS (joinE (cE (.str "*")) (varE 2)))))
def m_shown_term : Fv := runDef 3 b_shown_term
theorem sc_shown_term : FnScope N_shown_term ["exponents", "number"] (defScope s_shown_term) := ⟨rfl, rfl, rfl, by decide +kernel, rfl, by decide +kernel, by decide +kernel⟩
theorem ok_shown_term {P : Program} {w : World} {base : Heap} (T : Tx K mg ad fd) : FnOk P w K mg base (L2.CX P w) 2 (ad 6) (fd 6) ["exponents", "number"] (spOf (crA ad) 2 m_shown_term) :=
  fn_ok T.F6 sc_shown_term (by decide) (fun cdv A outer s H E hr => ⟨(0, 0), by
    have sc := sc_shown_term
    exact (jss_cons (js_set 2 sc.nd (by rfl) (by first | exact Or.inl rfl | exact Or.inr rfl) (je_call (ok_letters T) tk_cx (hr.mono (by decide)) T.g5 T.F5.kp T.b5 (by rfl) (ja_cons (je_var 0) ja_nil) rfl)) (jss_cons (js_if (JW.t (jw_or (jt_cmp (op_neD hr.units) ap_ne (je_var 1) je_int (nomark _)) (jw_or1 (jt_cmp (op_eqD hr.units) ap_eq (je_var 2) (je_lst ja_nil) (nomark _))))) (jss_one (js_set 2 sc.nd (by rfl) (by first | exact Or.inl rfl | exact Or.inr rfl) (je_op opl_add ap_add (je_lst (ja_cons (je_bltT call_str_int an_str (by rfl) T.z_str (by decide +kernel) (ja_cons (je_var 1) ja_nil)) ja_nil)) (je_var 2)))) jss_nil) (jss_one (js_ret (je_join je_str (je_var 2))))))⟩)

abbrev s_shown : Stmt := topS 19
abbrev N_shown : List Str := ["row", "found", "exponents", "number", "sign"]
def fb0_shown : Sv := (seqS (asgS 4 (cE (.str " + "))) (seqS (ifS (toT (op2 ltD (varE 3) (cE (.int 0)))) (asgS 4 (cE (.str " - "))) skipS) (seqS (ifS (toT (op2 eqD (varE 1) (cE (.str "")))) (asgS 4 (replE (stripE (varE 4)) "+" "")) skipS) (asgS 1 (op2 addD (op2 addD (varE 1) (varE 4)) (callE m_shown_term [(false, (varE 2)), (false, (opN absD [(varE 3)]))]))))))
def b_shown : Sv := (seqS (ifS (toT (op2 eqD (varE 0) (lstE []))) (retS (cE (.str "0"))) skipS) (seqS (asgS 1 (cE (.str ""))) (seqS (forS (itQ (varE 0)) (bdT [(bdN 2), (bdN 3)]) fb0_shown) (retS (varE 1)))))
def m_shown : Fv := runDef 5 b_shown
theorem sc_shown : FnScope N_shown ["row"] (defScope s_shown) := ⟨rfl, rfl, rfl, by decide +kernel, rfl, by decide +kernel, by decide +kernel⟩
theorem ok_shown {P : Program} {w : World} {base : Heap} (T : Tx K mg ad fd) : FnOk P w K mg base (L2.CX P w) 3 (ad 7) (fd 7) ["row"] (spOf (crA ad) 1 m_shown) :=
  fn_ok T.F7 sc_shown (by decide) (fun cdv A outer s H E hr => ⟨(0, 0), by
    have sc := sc_shown
    exact (jss_cons (js_if (jt_cmp (op_eqD hr.units) ap_eq (je_var 0) (je_lst ja_nil) (nomark _)) (jss_one (js_ret je_str)) jss_nil) (jss_cons (js_set 1 sc.nd (by rfl) (by first | exact Or.inl rfl | exact Or.inr rfl) je_str) (jss_cons (js_for hp_cx rfl (ji_seq (je_var 0)) (jg_tup rfl (jgs_cons (jg_name 2 sc.nd (by rfl) (by first | exact Or.inl rfl | exact Or.inr rfl)) (jgs_cons (jg_name 3 sc.nd (by rfl) (by first | exact Or.inl rfl | exact Or.inr rfl)) jgs_nil))) (jss_strT 4 sc.nd (by rfl) (by first | exact Or.inl rfl | exact Or.inr rfl) (jsst_cons (jst_if (jt_cmp op_lt ap_lt (je_var 3) je_int (nomark _)) (jsst_of (jss_one (js_set 4 sc.nd (by rfl) (by first | exact Or.inl rfl | exact Or.inr rfl) je_str))) (jsst_of jss_nil)) (jsst_cons (jst_if (jt_cmp (op_eqD hr.units) ap_eq (je_var 1) je_str (nomark _)) (jsst_one (jst_set 4 sc.nd (by rfl) (by first | exact Or.inl rfl | exact Or.inr rfl) (jet_repl (je_strip (je_var 4))))) (jsst_of jss_nil)) (jsst_one (jst_of (js_set 1 sc.nd (by rfl) (by first | exact Or.inl rfl | exact Or.inr rfl) (je_op opl_add ap_add (je_op opl_add ap_add (je_var 1) (je_var 4)) (je_call (ok_shown_term T) tk_cx (hr.mono (by decide)) T.g6 T.F6.kp T.b6 (by rfl) (ja_cons (je_var 2) (ja_cons (je_bltn call_abs an_abs (by rfl) T.z_abs (by decide +kernel) (ja_cons (je_var 3) ja_nil)) ja_nil)) rfl))))))))) (jss_one (js_ret (je_var 1))))))⟩)

abbrev s_whole_of : Stmt := topS 20
abbrev N_whole_of : List Str := ["word", "sign"]
def fb0_whole_of : Sv := (ifS (toT (op2 ninD (varE 1) (cE (.str "0123456789")))) (errS c_NotWritten) skipS)
def b_whole_of : Sv := (seqS (forS (itX (varE 0)) (bdN 1) fb0_whole_of) (seqS (ifS (orT (toT (op2 eqD (varE 0) (cE (.str "")))) (toT (op2 eqD (op2 ixD (varE 0) (cE (.int 0))) (cE (.str "0"))))) (errS c_NotWritten) skipS) (retS (opN intS [(varE 0)]))))
def m_whole_of : Fv := runDef 2 b_whole_of
theorem sc_whole_of : FnScope N_whole_of ["word"] (defScope s_whole_of) := ⟨rfl, rfl, rfl, by decide +kernel, rfl, by decide +kernel, by decide +kernel⟩
theorem ok_whole_of {P : Program} {w : World} {base : Heap} (T : Tx K mg ad fd) : FnOk P w K mg base (L2.CX P w) 1 (ad 8) (fd 8) ["word"] (spOf (crA ad) 1 m_whole_of) :=
  fn_ok T.F8 sc_whole_of (by decide) (fun cdv A outer s H E hr => ⟨(0, 0), by
    have sc := sc_whole_of
    exact (jss_cons (js_for hp_cx rfl (ji_txt (je_var 0)) (jg_name 1 sc.nd (by rfl) (by first | exact Or.inl rfl | exact Or.inr rfl)) (jss_one (js_if (jt_cmp opl_nin ap_nin (je_var 1) (je_globS (by rfl) (T.c3).choose_spec) (by rfl)) (jss_one (js_raise rfl tk_cx (T.e3).at rfl (by rfl))) jss_nil))) (jss_cons (js_if (JW.t (jw_or (jt_cmp (op_eqD hr.units) ap_eq (je_var 0) je_str (nomark _)) (jw_or1 (jt_cmp (op_eqD hr.units) ap_eq (je_ix (je_var 0) je_int) je_str (nomark _))))) (jss_one (js_raise rfl tk_cx (T.e3).at rfl (by rfl))) jss_nil) (jss_one (js_ret (je_bltT call_int_str an_intS (by rfl) T.z_int (by decide +kernel) (ja_cons (je_var 0) ja_nil))))))⟩)

abbrev s_power_of : Stmt := topS 21
abbrev N_power_of : List Str := ["word", "at"]
def b_power_of : Sv := (seqS (ifS (orT (toT (op2 ninD (sliE (varE 0) none (some (cE (.int 1)))) (cE (.str "xyzw")))) (toT (op2 eqD (varE 0) (cE (.str ""))))) (errS c_NotWritten) skipS) (seqS (asgS 1 (sidxE (cE (.str "xyzw")) (op2 ixD (varE 0) (cE (.int 0))))) (seqS (ifS (toT (op2 eqD (opN lenD [(varE 0)]) (cE (.int 1)))) (retS (tupE [(varE 1), (cE (.int 1))])) skipS) (seqS (ifS (orT (toT (op2 neD (op2 ixD (varE 0) (cE (.int 1))) (cE (.str "^")))) (orT (toT (op2 gtD (opN lenD [(varE 0)]) (cE (.int 4)))) (toT (op2 eqD (sliE (varE 0) (some (cE (.int 2))) none) (cE (.str "1")))))) (errS c_NotWritten) skipS) (retS (tupE [(varE 1), (callE m_whole_of [(false, (sliE (varE 0) (some (cE (.int 2))) none))])]))))))
def m_power_of : Fv := runDef 2 b_power_of
theorem sc_power_of : FnScope N_power_of ["word"] (defScope s_power_of) := ⟨rfl, rfl, rfl, by decide +kernel, rfl, by decide +kernel, by decide +kernel⟩
theorem ok_power_of {P : Program} {w : World} {base : Heap} (T : Tx K mg ad fd) : FnOk P w K mg base (L2.CX P w) 2 (ad 9) (fd 9) ["word"] (spOf (crA ad) 1 m_power_of) :=
  fn_ok T.F9 sc_power_of (by decide) (fun cdv A outer s H E hr => ⟨(0, 0), by
    have sc := sc_power_of
    exact (jss_cons (js_if (JW.t (jw_or (jt_cmp opl_nin ap_nin (je_sli (je_var 0) jo_none (jo_some je_int)) (je_globS (by rfl) (T.c2).choose_spec) (by rfl)) (jw_or1 (jt_cmp (op_eqD hr.units) ap_eq (je_var 0) je_str (nomark _))))) (jss_one (js_raise rfl tk_cx (T.e3).at rfl (by rfl))) jss_nil) (jss_cons (js_set 1 sc.nd (by rfl) (by first | exact Or.inl rfl | exact Or.inr rfl) (je_sidx (je_globS (by rfl) (T.c2).choose_spec) (je_ix (je_var 0) je_int))) (jss_cons (js_if (jt_cmp (op_eqD hr.units) ap_eq (je_bltn cl_len an_len (by rfl) T.z_len (by decide +kernel) (ja_cons (je_var 0) ja_nil)) je_int (nomark _)) (jss_one (js_ret (je_tup (ja_cons (je_var 1) (ja_cons je_int ja_nil))))) jss_nil) (jss_cons (js_if (JW.t (jw_or (jt_cmp (op_neD hr.units) ap_ne (je_ix (je_var 0) je_int) je_str (nomark _)) (jw_or (jt_cmp op_gt ap_gt (je_bltn cl_len an_len (by rfl) T.z_len (by decide +kernel) (ja_cons (je_var 0) ja_nil)) je_int (nomark _)) (jw_or1 (jt_cmp (op_eqD hr.units) ap_eq (je_sli (je_var 0) (jo_some je_int) jo_none) je_str (nomark _)))))) (jss_one (js_raise rfl tk_cx (T.e3).at rfl (by rfl))) jss_nil) (jss_one (js_ret (je_tup (ja_cons (je_var 1) (ja_cons (je_call (ok_whole_of T) tk_cx (hr.mono (by decide)) T.g8 T.F8.kp T.b8 (by rfl) (ja_cons (je_sli (je_var 0) (jo_some je_int) jo_none) ja_nil) rfl) ja_nil)))))))))⟩)

abbrev s_read_term : Stmt := topS 22
abbrev N_read_term : List Str := ["many", "text", "words", "number", "exponents", "last", "word", "told"]
def fb0_read_term : Sv := (seqS (asgS 7 (callE m_power_of [(false, (varE 6))])) (seqS (ifS (notT (toT (chainE ltD ltD (varE 5) (op2 ixD (varE 7) (cE (.int 0))) (varE 0)))) (errS c_NotWritten) skipS) (seqS (asgS 5 (op2 ixD (varE 7) (cE (.int 0)))) (setS 4 (varE 5) (op2 ixD (varE 7) (cE (.int 1)))))))
def b_read_term : Sv := (seqS (asgS 2 (splitE (varE 1) (cE (.str "*")))) (seqS (asgS 3 (cE (.int 1))) (seqS (ifS (andT (toT (op2 neD (op2 ixD (varE 2) (cE (.int 0))) (cE (.str "")))) (toT (op2 inD (op2 ixD (op2 ixD (varE 2) (cE (.int 0))) (cE (.int 0))) (cE (.str "0123456789"))))) (seqS (asgS 3 (callE m_whole_of [(false, (op2 ixD (varE 2) (cE (.int 0))))])) (seqS (asgS 2 (sliE (varE 2) (some (cE (.int 1))) none)) (ifS (andT (toT (op2 eqD (varE 3) (cE (.int 1)))) (toT (op2 neD (varE 2) (lstE [])))) (errS c_NotWritten) skipS))) skipS) (seqS (asgS 4 (op2 mulD (lstE [(cE (.int 0))]) (varE 0))) (seqS (asgS 5 (op1 negD (cE (.int 1)))) (seqS (forS (itQ (varE 2)) (bdN 6) fb0_read_term) (retS (tupE [(opN tupleD [(varE 4)]), (varE 3)]))))))))
def m_read_term : Fv := runDef 8 b_read_term
theorem sc_read_term : FnScope N_read_term ["many", "text"] (defScope s_read_term) := ⟨rfl, rfl, rfl, by decide +kernel, rfl, by decide +kernel, by decide +kernel⟩
theorem ok_read_term {P : Program} {w : World} {base : Heap} (T : Tx K mg ad fd) : FnOk P w K mg base (L2.CX P w) 3 (ad 10) (fd 10) ["many", "text"] (spOf (crA ad) 2 m_read_term) :=
  fn_ok T.F10 sc_read_term (by decide) (fun cdv A outer s H E hr => ⟨(0, 0), by
    have sc := sc_read_term
    exact (jss_cons (js_set 2 sc.nd (by rfl) (by first | exact Or.inl rfl | exact Or.inr rfl) (je_split (je_var 1) je_str)) (jss_cons (js_set 3 sc.nd (by rfl) (by first | exact Or.inl rfl | exact Or.inr rfl) je_int) (jss_cons (js_if (JW.t (jw_and (jt_cmp (op_neD hr.units) ap_ne (je_ix (je_var 2) je_int) je_str (nomark _)) (jw_and1 (jt_cmp opl_in ap_in (je_ix (je_ix (je_var 2) je_int) je_int) (je_globS (by rfl) (T.c3).choose_spec) (by rfl))))) (jss_cons (js_set 3 sc.nd (by rfl) (by first | exact Or.inl rfl | exact Or.inr rfl) (je_call (ok_whole_of T) tk_cx (hr.mono (by decide)) T.g8 T.F8.kp T.b8 (by rfl) (ja_cons (je_ix (je_var 2) je_int) ja_nil) rfl)) (jss_cons (js_set 2 sc.nd (by rfl) (by first | exact Or.inl rfl | exact Or.inr rfl) (je_sli (je_var 2) (jo_some je_int) jo_none)) (jss_one (js_if (JW.t (jw_and (jt_cmp (op_eqD hr.units) ap_eq (je_var 3) je_int (nomark _)) (jw_and1 (jt_cmp (op_neD hr.units) ap_ne (je_var 2) (je_lst ja_nil) (nomark _))))) (jss_one (js_raise rfl tk_cx (T.e3).at rfl (by rfl))) jss_nil)))) jss_nil) (jss_cons (js_set 4 sc.nd (by rfl) (by first | exact Or.inl rfl | exact Or.inr rfl) (je_op opl_mul ap_mul (je_lst (ja_cons je_int ja_nil)) (je_var 0))) (jss_cons (js_set 5 sc.nd (by rfl) (by first | exact Or.inl rfl | exact Or.inr rfl) (je_un un_neg ap_neg je_int)) (jss_cons (js_for hp_cx rfl (ji_seq (je_var 2)) (jg_name 6 sc.nd (by rfl) (by first | exact Or.inl rfl | exact Or.inr rfl)) (jss_cons (js_set 7 sc.nd (by rfl) (by first | exact Or.inl rfl | exact Or.inr rfl) (je_call (ok_power_of T) tk_cx (hr.mono (by decide)) T.g9 T.F9.kp T.b9 (by rfl) (ja_cons (je_var 6) ja_nil) rfl)) (jss_cons (js_if (jt_not (jt_chain op_lt ap_lt op_lt ap_lt (je_var 5) (je_ix (je_var 7) je_int) (je_var 0))) (jss_one (js_raise rfl tk_cx (T.e3).at rfl (by rfl))) jss_nil) (jss_cons (js_set 5 sc.nd (by rfl) (by first | exact Or.inl rfl | exact Or.inr rfl) (je_ix (je_var 7) je_int)) (jss_one (js_setL 4 (hi := (je_var 5)) (he := (je_ix (je_var 7) je_int)) (hg := fun a b => pg_sub a b set_list))))))) (jss_one (js_ret (je_tup (ja_cons (je_bltT call_tuple_of an_tuple (by rfl) T.z_tuple (by decide +kernel) (ja_cons (je_var 4) ja_nil)) (ja_cons (je_var 3) ja_nil)))))))))))⟩)

abbrev s_read : Stmt := topS 23
abbrev N_read : List Str := ["ring", "many", "text", "sign", "words", "row", "k", "told"]
def fb0_read : Sv := (ifS (toT (op2 eqD (op2 modD (varE 6) (cE (.int 2))) (cE (.int 1)))) (seqS (ifS (toT (op2 ninD (op2 ixD (varE 4) (varE 6)) (tupE [(cE (.str "+")), (cE (.str "-"))]))) (errS c_NotWritten) skipS) (seqS (asgS 3 (cE (.int 1))) (ifS (toT (op2 eqD (op2 ixD (varE 4) (varE 6)) (cE (.str "-")))) (asgS 3 (op1 negD (cE (.int 1)))) skipS))) (seqS (asgS 7 (callE m_read_term [(false, (varE 1)), (true, (op2 ixD (varE 4) (varE 6)))])) (seqS (ifS (andT (toT (op2 neD (varE 5) (lstE []))) (toT (op2 geX (op2 ixD (varE 7) (cE (.int 0))) (op2 ixD (op2 ixD (varE 5) (op1 negD (cE (.int 1)))) (cE (.int 0)))))) (errS c_NotWritten) skipS) (seqS (ifS (andT (toT (op2 neD (varE 0) (cE (.int 0)))) (notT (toT (chainE ltD ltD (cE (.int 0)) (op2 mulD (varE 3) (op2 ixD (varE 7) (cE (.int 1)))) (varE 0))))) (errS c_NotWritten) skipS) (appS 5 (tupE [(op2 ixD (varE 7) (cE (.int 0))), (op2 mulD (varE 3) (op2 ixD (varE 7) (cE (.int 1))))]))))))
def b_read : Sv := (seqS (dropS (callE m_need_ring [(false, (varE 0))])) (seqS (dropS (callE m_need_unknowns [(false, (varE 1))])) (seqS (ifS (toT (op2 eqD (varE 2) (cE (.str "0")))) (retS (lstE [])) skipS) (seqS (asgS 3 (cE (.int 1))) (seqS (asgS 4 (splitE (varE 2) (cE (.str " ")))) (seqS (ifS (toT (op2 eqD (sliE (varE 2) none (some (cE (.int 1)))) (cE (.str "-")))) (seqS (asgS 3 (op1 negD (cE (.int 1)))) (asgS 4 (splitE (sliE (varE 2) (some (cE (.int 1))) none) (cE (.str " "))))) skipS) (seqS (asgS 5 (lstE [])) (seqS (forS (itR1 (opN lenD [(varE 4)])) (bdN 6) fb0_read) (seqS (ifS (toT (op2 eqD (op2 modD (opN lenD [(varE 4)]) (cE (.int 2))) (cE (.int 0)))) (errS c_NotWritten) skipS) (retS (varE 5)))))))))))
def m_read : Fv := runDef 8 b_read
theorem sc_read : FnScope N_read ["ring", "many", "text"] (defScope s_read) := ⟨rfl, rfl, rfl, by decide +kernel, rfl, by decide +kernel, by decide +kernel⟩
theorem ok_read {P : Program} {w : World} {base : Heap} (T : Tx K mg ad fd) : FnOk P w K mg base (L2.CX P w) 4 (ad 11) (fd 11) ["ring", "many", "text"] (spOf (crA ad) 3 m_read) :=
  fn_ok T.F11 sc_read (by decide) (fun cdv A outer s H E hr => ⟨(0, 0), by
    have sc := sc_read
    exact (jss_cons (js_expr (je_call (ok_need_ring T) tk_cx (hr.mono (by decide)) T.g2 T.F2.kp T.b2 (by rfl) (ja_cons (je_var 0) ja_nil) rfl)) (jss_cons (js_expr (je_call (ok_need_unknowns T) tk_cx (hr.mono (by decide)) T.g4 T.F4.kp T.b4 (by rfl) (ja_cons (je_var 1) ja_nil) rfl)) (jss_cons (js_if (jt_cmp (op_eqD hr.units) ap_eq (je_var 2) je_str (nomark _)) (jss_one (js_ret (je_lst ja_nil))) jss_nil) (jss_cons (js_set 3 sc.nd (by rfl) (by first | exact Or.inl rfl | exact Or.inr rfl) je_int) (jss_cons (js_set 4 sc.nd (by rfl) (by first | exact Or.inl rfl | exact Or.inr rfl) (je_split (je_var 2) je_str)) (jss_cons (js_if (jt_cmp (op_eqD hr.units) ap_eq (je_sli (je_var 2) jo_none (jo_some je_int)) je_str (nomark _)) (jss_cons (js_set 3 sc.nd (by rfl) (by first | exact Or.inl rfl | exact Or.inr rfl) (je_un un_neg ap_neg je_int)) (jss_one (js_set 4 sc.nd (by rfl) (by first | exact Or.inl rfl | exact Or.inr rfl) (je_split (je_sli (je_var 2) (jo_some je_int) jo_none) je_str)))) jss_nil) (jss_cons (js_set 5 sc.nd (by rfl) (by first | exact Or.inl rfl | exact Or.inr rfl) (je_lst ja_nil)) (jss_cons (js_for hp_cx rfl (ji_range1 (by rfl) T.z_range (je_bltn cl_len an_len (by rfl) T.z_len (by decide +kernel) (ja_cons (je_var 4) ja_nil))) (jg_name 6 sc.nd (by rfl) (by first | exact Or.inl rfl | exact Or.inr rfl)) (jss_one (js_if (jt_cmp (op_eqD hr.units) ap_eq (je_op op_modN ap_mod (je_var 6) je_int) je_int (nomark _)) (jss_cons (js_if (jt_cmp opl_nin ap_nin (je_ix (je_var 4) (je_var 6)) (je_tup (ja_cons je_str (ja_cons je_str ja_nil))) (by rfl)) (jss_one (js_raise rfl tk_cx (T.e3).at rfl (by rfl))) jss_nil) (jss_cons (js_set 3 sc.nd (by rfl) (by first | exact Or.inl rfl | exact Or.inr rfl) je_int) (jss_one (js_if (jt_cmp (op_eqD hr.units) ap_eq (je_ix (je_var 4) (je_var 6)) je_str (nomark _)) (jss_one (js_set 3 sc.nd (by rfl) (by first | exact Or.inl rfl | exact Or.inr rfl) (je_un un_neg ap_neg je_int))) jss_nil)))) (jss_cons (js_set 7 sc.nd (by rfl) (by first | exact Or.inl rfl | exact Or.inr rfl) (je_call (ok_read_term T) tk_cx (hr.mono (by decide)) T.g10 T.F10.kp T.b10 (by rfl) (ja_cons (je_var 1) (ja_cons (je_ix (je_var 4) (je_var 6)) ja_nil)) rfl)) (jss_cons (js_if (JW.t (jw_and (jt_cmp (op_neD hr.units) ap_ne (je_var 5) (je_lst ja_nil) (nomark _)) (jw_and1 (jt_cmp (opl_geX hr.units) ap_geX (je_ix (je_var 7) je_int) (je_ix (je_ix (je_var 5) (je_un un_neg ap_neg je_int)) je_int) (nomark _))))) (jss_one (js_raise rfl tk_cx (T.e3).at rfl (by rfl))) jss_nil) (jss_cons (js_if (JW.t (jw_and (jt_cmp (op_neD hr.units) ap_ne (je_var 0) je_int (nomark _)) (jw_and1 (jt_not (jt_chain op_lt ap_lt op_lt ap_lt je_int (je_op opl_mul ap_mul (je_var 3) (je_ix (je_var 7) je_int)) (je_var 0)))))) (jss_one (js_raise rfl tk_cx (T.e3).at rfl (by rfl))) jss_nil) (jss_one (js_app 5 (he := (je_tup (ja_cons (je_ix (je_var 7) je_int) (ja_cons (je_op opl_mul ap_mul (je_var 3) (je_ix (je_var 7) je_int)) ja_nil)))) (hb := fun a b => pe_bm PySem.F.plainAttrs_list PySem.F.slot_list_append PySem.F.type_list_append mt_append a b))))))))) (jss_cons (js_if (jt_cmp (op_eqD hr.units) ap_eq (je_op op_modN ap_mod (je_bltn cl_len an_len (by rfl) T.z_len (by decide +kernel) (ja_cons (je_var 4) ja_nil)) je_int) je_int (nomark _)) (jss_one (js_raise rfl tk_cx (T.e3).at rfl (by rfl))) jss_nil) (jss_one (js_ret (je_var 5))))))))))))⟩)

abbrev s__law_whole : Stmt := topS 25
abbrev N__law_whole : List Str := ["_law_found"]
def b__law_whole : Sv := (retS (andE (isiE "int" (varE 0)) (notE (isiE "bool" (varE 0)))))
def m__law_whole : Fv := runDef 1 b__law_whole
theorem sc__law_whole : FnScope N__law_whole ["_law_found"] (defScope s__law_whole) := ⟨rfl, rfl, rfl, by decide +kernel, rfl, by decide +kernel, by decide +kernel⟩
theorem ok__law_whole {P : Program} {w : World} {base : Heap} (T : Tx K mg ad fd) : FnOk P w K mg base (L2.CX P w) 1 (ad 12) (fd 12) ["_law_found"] (spOf (crA ad) 1 m__law_whole) :=
  fn_ok T.F12 sc__law_whole (by decide) (fun cdv A outer s H E hr => ⟨(0, 0), by
    have sc := sc__law_whole
    exact (jss_one (js_ret (je_and (je_isi kit_int (by rfl) T.z_isinstance (by rfl) T.z_int (by decide +kernel) (je_var 0)) (je_one (je_not (je_isi kit_bool (by rfl) T.z_isinstance (by rfl) T.z_bool (by decide +kernel) (je_var 0)))))))⟩)

abbrev s__law_cell_at : Stmt := topS 26
abbrev N__law_cell_at : List Str := ["_law_script", "_law_k", "_law_cell", "_law_one", "_law_found", "_law_turn"]
def fb0__law_cell_at : Sv := (seqS (asgS 3 (op2 modD (op2 addD (op2 mulD (op2 modD (op2 mulD (varE 3) (varE 3)) (cE (.int 2147483629))) (cE (.int 69621))) (varE 5)) (cE (.int 2147483647)))) (asgS 4 (op2 addD (op2 mulD (varE 4) (cE (.int 2147483647))) (varE 3))))
def b__law_cell_at : Sv := (seqS (asgS 2 (cE (.int 0))) (seqS (ifS (toT (op2 ltD (varE 1) (opN lenD [(varE 0)]))) (asgS 2 (op2 ixD (varE 0) (varE 1))) skipS) (seqS (asgS 3 (op2 modD (op2 addD (op2 addD (op2 addD (op2 mulD (varE 2) (cE (.int 48271))) (op2 mulD (op2 mulD (cE (.int 7919)) (varE 1)) (varE 1))) (op2 mulD (cE (.int 104729)) (varE 1))) (cE (.int 11))) (cE (.int 2147483647)))) (seqS (asgS 4 (cE (.int 0))) (seqS (forS (itR1 (cE (.int 6))) (bdN 5) fb0__law_cell_at) (retS (varE 4)))))))
def m__law_cell_at : Fv := runDef 6 b__law_cell_at
theorem sc__law_cell_at : FnScope N__law_cell_at ["_law_script", "_law_k"] (defScope s__law_cell_at) := ⟨rfl, rfl, rfl, by decide +kernel, rfl, by decide +kernel, by decide +kernel⟩
theorem ok__law_cell_at {P : Program} {w : World} {base : Heap} (T : Tx K mg ad fd) : FnOk P w K mg base (L2.CX P w) 1 (ad 13) (fd 13) ["_law_script", "_law_k"] (spOf (crA ad) 2 m__law_cell_at) :=
  fn_ok T.F13 sc__law_cell_at (by decide) (fun cdv A outer s H E hr => ⟨(0, 0), by
    have sc := sc__law_cell_at
    exact (jss_cons (js_set 2 sc.nd (by rfl) (by first | exact Or.inl rfl | exact Or.inr rfl) je_int) (jss_cons (js_if (jt_cmp op_lt ap_lt (je_var 1) (je_bltn cl_len an_len (by rfl) T.z_len (by decide +kernel) (ja_cons (je_var 0) ja_nil)) (nomark _)) (jss_one (js_set 2 sc.nd (by rfl) (by first | exact Or.inl rfl | exact Or.inr rfl) (je_ix (je_var 0) (je_var 1)))) jss_nil) (jss_cons (js_set 3 sc.nd (by rfl) (by first | exact Or.inl rfl | exact Or.inr rfl) (je_op op_modN ap_mod (je_op opl_add ap_add (je_op opl_add ap_add (je_op opl_add ap_add (je_op opl_mul ap_mul (je_var 2) je_int) (je_op opl_mul ap_mul (je_op opl_mul ap_mul je_int (je_var 1)) (je_var 1))) (je_op opl_mul ap_mul je_int (je_var 1))) je_int) je_int)) (jss_cons (js_set 4 sc.nd (by rfl) (by first | exact Or.inl rfl | exact Or.inr rfl) je_int) (jss_cons (js_for hp_cx rfl (ji_range1 (by rfl) T.z_range je_int) (jg_name 5 sc.nd (by rfl) (by first | exact Or.inl rfl | exact Or.inr rfl)) (jss_cons (js_set 3 sc.nd (by rfl) (by first | exact Or.inl rfl | exact Or.inr rfl) (je_op op_modN ap_mod (je_op opl_add ap_add (je_op opl_mul ap_mul (je_op op_modN ap_mod (je_op opl_mul ap_mul (je_var 3) (je_var 3)) je_int) je_int) (je_var 5)) je_int)) (jss_one (js_set 4 sc.nd (by rfl) (by first | exact Or.inl rfl | exact Or.inr rfl) (je_op opl_add ap_add (je_op opl_mul ap_mul (je_var 4) je_int) (je_var 3)))))) (jss_one (js_ret (je_var 4))))))))⟩)

abbrev s__law_prime : Stmt := topS 27
abbrev N__law_prime : List Str := ["_law_cell", "_law_number_here", "_law_by"]
def le0__law_prime : Ev := (varE 2)
def lt1__law_prime : Tv := (andT (toT (op2 ltD (varE 2) (varE 1))) (toT (op2 eqD (op2 modD (varE 1) (varE 2)) (cE (.int 0)))))
def wc2__law_prime : Tv := (toT (op2 neD (lcE (itR2 (cE (.int 2)) (cE (.int 32))) (bdN 2) lt1__law_prime le0__law_prime [2]) (lstE [])))
def wb3__law_prime : Sv := (asgS 1 (op2 addD (varE 1) (cE (.int 1))))
def b__law_prime : Sv := (seqS (ifS (toT (op2 eqD (op2 modD (varE 0) (cE (.int 2))) (cE (.int 0)))) (retS (op2 ixD (lstE [(cE (.int 2)), (cE (.int 3)), (cE (.int 5)), (cE (.int 7)), (cE (.int 11)), (cE (.int 13))]) (op2 modD (op2 divD (varE 0) (cE (.int 2))) (cE (.int 6))))) skipS) (seqS (asgS 1 (op2 addD (cE (.int 2)) (op2 modD (op2 divD (varE 0) (cE (.int 2))) (cE (.int 996))))) (seqS (whileS wc2__law_prime wb3__law_prime) (retS (varE 1)))))
def m__law_prime : Fv := runDef 3 b__law_prime
theorem sc__law_prime : FnScope N__law_prime ["_law_cell"] (defScope s__law_prime) := ⟨rfl, rfl, rfl, by decide +kernel, rfl, by decide +kernel, by decide +kernel⟩
theorem ok__law_prime {P : Program} {w : World} {base : Heap} (T : Tx K mg ad fd) : FnOk P w K mg base (L2.CX P w) 1 (ad 14) (fd 14) ["_law_cell"] (spOf (crA ad) 1 m__law_prime) :=
  fn_ok T.F14 sc__law_prime (by decide) (fun cdv A outer s H E hr => ⟨(0, 0), by
    have sc := sc__law_prime
    exact (jss_cons (js_if (jt_cmp (op_eqD hr.units) ap_eq (je_op op_modN ap_mod (je_var 0) je_int) je_int (nomark _)) (jss_one (js_ret (je_ix (je_lst (ja_cons je_int (ja_cons je_int (ja_cons je_int (ja_cons je_int (ja_cons je_int (ja_cons je_int ja_nil))))))) (je_op op_modN ap_mod (je_op op_fdivX ap_div (je_var 0) je_int) je_int)))) jss_nil) (jss_cons (js_set 1 sc.nd (by rfl) (by first | exact Or.inl rfl | exact Or.inr rfl) (je_op opl_add ap_add je_int (je_op op_modN ap_mod (je_op op_fdivX ap_div (je_var 0) je_int) je_int))) (jss_cons (js_while hp_cx (jt_cmp (op_neD hr.units) ap_ne (je_lc (own := [("_law_by", 2)]) rfl sc.nd (ji_range2 (by rfl) T.z_range je_int je_int) (blkOk_by (own := [("_law_by", 2)]) (N := N__law_prime) (sc := defScope s__law_prime) (by decide +kernel)) (fun _ _ _ _ _ => (jgw_name 2 sc.nd (by rfl) (by first | exact Or.inl rfl | exact Or.inr rfl) (by decide))) (fun _ _ _ _ _ => (jts_one (JW.t (jw_and (jt_cmp op_lt ap_lt (je_var 2) (je_var 1) (nomark _)) (jw_and1 (jt_cmp (op_eqD hr.units) ap_eq (je_op op_modN ap_mod (je_var 1) (je_var 2)) je_int (nomark _))))))) (fun _ _ _ _ _ => (je_var 2))) (je_lst ja_nil) (nomark _)) (jss_one (js_set 1 sc.nd (by rfl) (by first | exact Or.inl rfl | exact Or.inr rfl) (je_op opl_add ap_add (je_var 1) je_int)))) (jss_one (js_ret (je_var 1))))))⟩)

abbrev s__law_ring : Stmt := topS 28
abbrev N__law_ring : List Str := ["_law_cell"]
def b__law_ring : Sv := (seqS (ifS (toT (op2 eqD (op2 modD (varE 0) (cE (.int 3))) (cE (.int 0)))) (retS (cE (.int 0))) skipS) (retS (callE m__law_prime [(false, (op2 divD (varE 0) (cE (.int 3))))])))
def m__law_ring : Fv := runDef 1 b__law_ring
theorem sc__law_ring : FnScope N__law_ring ["_law_cell"] (defScope s__law_ring) := ⟨rfl, rfl, rfl, by decide +kernel, rfl, by decide +kernel, by decide +kernel⟩
theorem ok__law_ring {P : Program} {w : World} {base : Heap} (T : Tx K mg ad fd) : FnOk P w K mg base (L2.CX P w) 2 (ad 15) (fd 15) ["_law_cell"] (spOf (crA ad) 1 m__law_ring) :=
  fn_ok T.F15 sc__law_ring (by decide) (fun cdv A outer s H E hr => ⟨(0, 0), by
    have sc := sc__law_ring
    exact (jss_cons (js_if (jt_cmp (op_eqD hr.units) ap_eq (je_op op_modN ap_mod (je_var 0) je_int) je_int (nomark _)) (jss_one (js_ret je_int)) jss_nil) (jss_one (js_ret (je_call (ok__law_prime T) tk_cx (hr.mono (by decide)) T.g14 T.F14.kp T.b14 (by rfl) (ja_cons (je_op op_fdivX ap_div (je_var 0) je_int) ja_nil) rfl))))⟩)

abbrev s__law_settled : Stmt := topS 29
abbrev N__law_settled : List Str := ["_law_ring_here", "_law_number_here"]
def b__law_settled : Sv := (seqS (ifS (toT (op2 eqD (varE 0) (cE (.int 0)))) (retS (varE 1)) skipS) (retS (op2 modD (varE 1) (varE 0))))
def m__law_settled : Fv := runDef 2 b__law_settled
theorem sc__law_settled : FnScope N__law_settled ["_law_ring_here", "_law_number_here"] (defScope s__law_settled) := ⟨rfl, rfl, rfl, by decide +kernel, rfl, by decide +kernel, by decide +kernel⟩
theorem ok__law_settled {P : Program} {w : World} {base : Heap} (T : Tx K mg ad fd) : FnOk P w K mg base (L2.CX P w) 1 (ad 16) (fd 16) ["_law_ring_here", "_law_number_here"] (spOf (crA ad) 2 m__law_settled) :=
  fn_ok T.F16 sc__law_settled (by decide) (fun cdv A outer s H E hr => ⟨(0, 0), by
    have sc := sc__law_settled
    exact (jss_cons (js_if (jt_cmp (op_eqD hr.units) ap_eq (je_var 0) je_int (nomark _)) (jss_one (js_ret (je_var 1))) jss_nil) (jss_one (js_ret (je_op op_modN ap_mod (je_var 1) (je_var 0)))))⟩)

abbrev s__law_gathered : Stmt := topS 30
abbrev N__law_gathered : List Str := ["_law_ring_here", "_law_pairs_here", "_law_found", "_law_pair", "_law_rows", "_law_exponents_here"]
def fb0__law_gathered : Sv := (putS 2 (op2 ixD (varE 3) (cE (.int 0))) (op2 addD (getE 2 (op2 ixD (varE 3) (cE (.int 0))) (cE (.int 0))) (op2 ixD (varE 3) (cE (.int 1)))))
def fb1__law_gathered : Sv := (ifS (toT (op2 neD (callE m__law_settled [(false, (varE 0)), (true, (itemE 2 (varE 5)))]) (cE (.int 0)))) (appS 4 (tupE [(varE 5), (callE m__law_settled [(false, (varE 0)), (true, (itemE 2 (varE 5)))])])) skipS)
def b__law_gathered : Sv := (seqS (asgS 2 dnewE) (seqS (forS (itQ (varE 1)) (bdN 3) fb0__law_gathered) (seqS (asgS 4 (lstE [])) (seqS (forS (itQ (srtE 2)) (bdN 5) fb1__law_gathered) (retS (varE 4))))))
def m__law_gathered : Fv := runDef 6 b__law_gathered
theorem sc__law_gathered : FnScope N__law_gathered ["_law_ring_here", "_law_pairs_here"] (defScope s__law_gathered) := ⟨rfl, rfl, rfl, by decide +kernel, rfl, by decide +kernel, by decide +kernel⟩
theorem ok__law_gathered {P : Program} {w : World} {base : Heap} (T : Tx K mg ad fd) : FnOk P w K mg base (L2.CX P w) 2 (ad 17) (fd 17) ["_law_ring_here", "_law_pairs_here"] (spOf (crA ad) 2 m__law_gathered) :=
  fn_ok T.F17 sc__law_gathered (by decide) (fun cdv A outer s H E hr => ⟨(0, 0), by
    have sc := sc__law_gathered
    exact (jss_cons (js_set 2 sc.nd (by rfl) (by first | exact Or.inl rfl | exact Or.inr rfl) je_dnew) (jss_cons (js_for hp_cx rfl (ji_seq (je_var 1)) (jg_name 3 sc.nd (by rfl) (by first | exact Or.inl rfl | exact Or.inr rfl)) (jss_one (js_put 2 (hu := hu_of hr.units) (hk := (je_ix (je_var 3) je_int)) (he := (je_op opl_add ap_add (je_get 2 (hu := hu_of hr.units) (hk := (je_ix (je_var 3) je_int)) (hd := je_int) (m := ⟨by rfl, by rfl, by rfl, by rfl⟩)) (je_ix (je_var 3) je_int)))))) (jss_cons (js_set 4 sc.nd (by rfl) (by first | exact Or.inl rfl | exact Or.inr rfl) (je_lst ja_nil)) (jss_cons (js_for hp_cx rfl (ji_seq (je_srt 2 rfl (by rfl) T.z_sorted)) (jg_name 5 sc.nd (by rfl) (by first | exact Or.inl rfl | exact Or.inr rfl)) (jss_one (js_if (jt_cmp (op_neD hr.units) ap_ne (je_call (ok__law_settled T) tk_cx (hr.mono (by decide)) T.g16 T.F16.kp T.b16 (by rfl) (ja_cons (je_var 0) (ja_cons (je_item 2 (hu := hu_of hr.units) (hk := (je_var 5))) ja_nil)) rfl) je_int (nomark _)) (jss_one (js_app 4 (he := (je_tup (ja_cons (je_var 5) (ja_cons (je_call (ok__law_settled T) tk_cx (hr.mono (by decide)) T.g16 T.F16.kp T.b16 (by rfl) (ja_cons (je_var 0) (ja_cons (je_item 2 (hu := hu_of hr.units) (hk := (je_var 5))) ja_nil)) rfl) ja_nil)))) (hb := fun a b => pe_bm PySem.F.plainAttrs_list PySem.F.slot_list_append PySem.F.type_list_append mt_append a b))) jss_nil))) (jss_one (js_ret (je_var 4)))))))⟩)

abbrev s__law_same : Stmt := topS 31
abbrev N__law_same : List Str := ["_law_found", "_law_due", "_law_k", "_law_one"]
def le0__law_same : Ev := (varE 3)
def lt1__law_same : Tv := (notT (toT (callE m__law_whole [(false, (varE 3))])))
def fb2__law_same : Sv := (seqS (ifS (orT (notT (toT (isiE "tuple" (op2 ixD (varE 0) (varE 2))))) (orT (toT (op2 neD (opN lenD [(op2 ixD (varE 0) (varE 2))]) (cE (.int 2)))) (notT (toT (callE m__law_whole [(false, (op2 ixD (op2 ixD (varE 0) (varE 2)) (cE (.int 1))))]))))) (retS (cE (.bool false))) skipS) (ifS (orT (notT (toT (isiE "tuple" (op2 ixD (op2 ixD (varE 0) (varE 2)) (cE (.int 0)))))) (toT (op2 neD (lcE (itQ (op2 ixD (op2 ixD (varE 0) (varE 2)) (cE (.int 0)))) (bdN 3) lt1__law_same le0__law_same [3]) (lstE [])))) (retS (cE (.bool false))) skipS))
def b__law_same : Sv := (seqS (ifS (orT (notT (toT (isiE "list" (varE 0)))) (toT (op2 neD (opN lenD [(varE 0)]) (opN lenD [(varE 1)])))) (retS (cE (.bool false))) skipS) (seqS (forS (itR1 (opN lenD [(varE 1)])) (bdN 2) fb2__law_same) (retS (op2 eqD (varE 0) (varE 1)))))
def m__law_same : Fv := runDef 4 b__law_same
theorem sc__law_same : FnScope N__law_same ["_law_found", "_law_due"] (defScope s__law_same) := ⟨rfl, rfl, rfl, by decide +kernel, rfl, by decide +kernel, by decide +kernel⟩
theorem ok__law_same {P : Program} {w : World} {base : Heap} (T : Tx K mg ad fd) : FnOk P w K mg base (L2.CX P w) 2 (ad 18) (fd 18) ["_law_found", "_law_due"] (spOf (crA ad) 2 m__law_same) :=
  fn_ok T.F18 sc__law_same (by decide) (fun cdv A outer s H E hr => ⟨(0, 0), by
    have sc := sc__law_same
    exact (jss_cons (js_if (JW.t (jw_or (jt_not (jt_val (je_isi kit_list (by rfl) T.z_isinstance (by rfl) T.z_list (by decide +kernel) (je_var 0)))) (jw_or1 (jt_cmp (op_neD hr.units) ap_ne (je_bltn cl_len an_len (by rfl) T.z_len (by decide +kernel) (ja_cons (je_var 0) ja_nil)) (je_bltn cl_len an_len (by rfl) T.z_len (by decide +kernel) (ja_cons (je_var 1) ja_nil)) (nomark _))))) (jss_one (js_ret je_bool)) jss_nil) (jss_cons (js_for hp_cx rfl (ji_range1 (by rfl) T.z_range (je_bltn cl_len an_len (by rfl) T.z_len (by decide +kernel) (ja_cons (je_var 1) ja_nil))) (jg_name 2 sc.nd (by rfl) (by first | exact Or.inl rfl | exact Or.inr rfl)) (jss_cons (js_if (JW.t (jw_or (jt_not (jt_val (je_isi kit_tuple (by rfl) T.z_isinstance (by rfl) T.z_tuple (by decide +kernel) (je_ix (je_var 0) (je_var 2))))) (jw_or (jt_cmp (op_neD hr.units) ap_ne (je_bltn cl_len an_len (by rfl) T.z_len (by decide +kernel) (ja_cons (je_ix (je_var 0) (je_var 2)) ja_nil)) je_int (nomark _)) (jw_or1 (jt_not (jt_val (je_call (ok__law_whole T) tk_cx (hr.mono (by decide)) T.g12 T.F12.kp T.b12 (by rfl) (ja_cons (je_ix (je_ix (je_var 0) (je_var 2)) je_int) ja_nil) rfl))))))) (jss_one (js_ret je_bool)) jss_nil) (jss_one (js_if (JW.t (jw_or (jt_not (jt_val (je_isi kit_tuple (by rfl) T.z_isinstance (by rfl) T.z_tuple (by decide +kernel) (je_ix (je_ix (je_var 0) (je_var 2)) je_int)))) (jw_or1 (jt_cmp (op_neD hr.units) ap_ne (je_lc (own := [("_law_one", 3)]) rfl sc.nd (ji_seq (je_ix (je_ix (je_var 0) (je_var 2)) je_int)) (blkOk_by (own := [("_law_one", 3)]) (N := N__law_same) (sc := defScope s__law_same) (by decide +kernel)) (fun _ _ _ _ _ => (jgw_name 3 sc.nd (by rfl) (by first | exact Or.inl rfl | exact Or.inr rfl) (by decide))) (fun _ _ _ _ _ => (jts_one (jt_not (jt_val (je_call (ok__law_whole T) tk0 (hr.mono (by decide)) T.g12 T.F12.kp T.b12 (by rfl) (ja_cons (je_var 3) ja_nil) rfl))))) (fun _ _ _ _ _ => (je_var 3))) (je_lst ja_nil) (nomark _))))) (jss_one (js_ret je_bool)) jss_nil)))) (jss_one (js_ret (je_cmp (op_eqD hr.units) ap_eq (je_var 0) (je_var 1) (nomark _))))))⟩)

abbrev s__law_number : Stmt := topS 32
abbrev N__law_number : List Str := ["_law_cell"]
def b__law_number : Sv := (seqS (ifS (toT (op2 eqD (op2 modD (varE 0) (cE (.int 7))) (cE (.int 0)))) (retS (op2 mulD (op2 subD (cE (.int 1)) (op2 mulD (op2 modD (op2 divD (varE 0) (cE (.int 7))) (cE (.int 2))) (cE (.int 2)))) (op2 modD (op2 divD (varE 0) (cE (.int 14))) (op2 powD (cE (.int 10)) (cE (.int 57)))))) skipS) (seqS (ifS (toT (op2 ltD (op2 modD (varE 0) (cE (.int 7))) (cE (.int 3)))) (retS (op2 subD (op2 modD (op2 divD (varE 0) (cE (.int 7))) (cE (.int 3))) (cE (.int 1)))) skipS) (retS (op2 subD (op2 modD (op2 divD (varE 0) (cE (.int 7))) (cE (.int 19))) (cE (.int 9))))))
def m__law_number : Fv := runDef 1 b__law_number
theorem sc__law_number : FnScope N__law_number ["_law_cell"] (defScope s__law_number) := ⟨rfl, rfl, rfl, by decide +kernel, rfl, by decide +kernel, by decide +kernel⟩
theorem ok__law_number {P : Program} {w : World} {base : Heap} (T : Tx K mg ad fd) : FnOk P w K mg base (L2.CX P w) 1 (ad 19) (fd 19) ["_law_cell"] (spOf (crA ad) 1 m__law_number) :=
  fn_ok T.F19 sc__law_number (by decide) (fun cdv A outer s H E hr => ⟨(0, 0), by
    have sc := sc__law_number
    exact (jss_cons (js_if (jt_cmp (op_eqD hr.units) ap_eq (je_op op_modN ap_mod (je_var 0) je_int) je_int (nomark _)) (jss_one (js_ret (je_op opl_mul ap_mul (je_op op_sub ap_sub je_int (je_op opl_mul ap_mul (je_op op_modN ap_mod (je_op op_fdivX ap_div (je_var 0) je_int) je_int) je_int)) (je_op op_modN ap_mod (je_op op_fdivX ap_div (je_var 0) je_int) (je_op op_pow ap_pow je_int je_int))))) jss_nil) (jss_cons (js_if (jt_cmp op_lt ap_lt (je_op op_modN ap_mod (je_var 0) je_int) je_int (nomark _)) (jss_one (js_ret (je_op op_sub ap_sub (je_op op_modN ap_mod (je_op op_fdivX ap_div (je_var 0) je_int) je_int) je_int))) jss_nil) (jss_one (js_ret (je_op op_sub ap_sub (je_op op_modN ap_mod (je_op op_fdivX ap_div (je_var 0) je_int) je_int) je_int)))))⟩)

abbrev s__law_exponents : Stmt := topS 33
abbrev N__law_exponents : List Str := ["_law_cell", "_law_many", "_law_found", "_law_rest", "_law_wide", "_law_k", "_law_exponent"]
def fb0__law_exponents : Sv := (seqS (asgS 6 (op2 modD (varE 3) (varE 4))) (seqS (asgS 3 (op2 divD (varE 3) (varE 4))) (seqS (ifS (andT (toT (op2 eqD (varE 4) (cE (.int 4)))) (toT (op2 eqD (op2 modD (op2 divD (varE 0) (cE (.int 256))) (cE (.int 8))) (varE 5)))) (asgS 6 (op2 modD (op2 divD (varE 0) (cE (.int 2048))) (cE (.int 100)))) skipS) (appS 2 (varE 6)))))
def b__law_exponents : Sv := (seqS (asgS 2 (lstE [])) (seqS (asgS 3 (varE 0)) (seqS (asgS 4 (cE (.int 4))) (seqS (ifS (toT (op2 eqD (op2 modD (varE 0) (cE (.int 3))) (cE (.int 0)))) (seqS (asgS 3 (op2 divD (varE 0) (cE (.int 3)))) (asgS 4 (cE (.int 100)))) skipS) (seqS (forS (itR1 (varE 1)) (bdN 5) fb0__law_exponents) (retS (opN tupleD [(varE 2)])))))))
def m__law_exponents : Fv := runDef 7 b__law_exponents
theorem sc__law_exponents : FnScope N__law_exponents ["_law_cell", "_law_many"] (defScope s__law_exponents) := ⟨rfl, rfl, rfl, by decide +kernel, rfl, by decide +kernel, by decide +kernel⟩
theorem ok__law_exponents {P : Program} {w : World} {base : Heap} (T : Tx K mg ad fd) : FnOk P w K mg base (L2.CX P w) 1 (ad 20) (fd 20) ["_law_cell", "_law_many"] (spOf (crA ad) 2 m__law_exponents) :=
  fn_ok T.F20 sc__law_exponents (by decide) (fun cdv A outer s H E hr => ⟨(0, 0), by
    have sc := sc__law_exponents
    exact (jss_cons (js_set 2 sc.nd (by rfl) (by first | exact Or.inl rfl | exact Or.inr rfl) (je_lst ja_nil)) (jss_cons (js_set 3 sc.nd (by rfl) (by first | exact Or.inl rfl | exact Or.inr rfl) (je_var 0)) (jss_cons (js_set 4 sc.nd (by rfl) (by first | exact Or.inl rfl | exact Or.inr rfl) je_int) (jss_cons (js_if (jt_cmp (op_eqD hr.units) ap_eq (je_op op_modN ap_mod (je_var 0) je_int) je_int (nomark _)) (jss_cons (js_set 3 sc.nd (by rfl) (by first | exact Or.inl rfl | exact Or.inr rfl) (je_op op_fdivX ap_div (je_var 0) je_int)) (jss_one (js_set 4 sc.nd (by rfl) (by first | exact Or.inl rfl | exact Or.inr rfl) je_int))) jss_nil) (jss_cons (js_for hp_cx rfl (ji_range1 (by rfl) T.z_range (je_var 1)) (jg_name 5 sc.nd (by rfl) (by first | exact Or.inl rfl | exact Or.inr rfl)) (jss_cons (js_set 6 sc.nd (by rfl) (by first | exact Or.inl rfl | exact Or.inr rfl) (je_op op_modN ap_mod (je_var 3) (je_var 4))) (jss_cons (js_set 3 sc.nd (by rfl) (by first | exact Or.inl rfl | exact Or.inr rfl) (je_op op_fdivX ap_div (je_var 3) (je_var 4))) (jss_cons (js_if (JW.t (jw_and (jt_cmp (op_eqD hr.units) ap_eq (je_var 4) je_int (nomark _)) (jw_and1 (jt_cmp (op_eqD hr.units) ap_eq (je_op op_modN ap_mod (je_op op_fdivX ap_div (je_var 0) je_int) je_int) (je_var 5) (nomark _))))) (jss_one (js_set 6 sc.nd (by rfl) (by first | exact Or.inl rfl | exact Or.inr rfl) (je_op op_modN ap_mod (je_op op_fdivX ap_div (je_var 0) je_int) je_int))) jss_nil) (jss_one (js_app 2 (he := (je_var 6)) (hb := fun a b => pe_bm PySem.F.plainAttrs_list PySem.F.slot_list_append PySem.F.type_list_append mt_append a b))))))) (jss_one (js_ret (je_bltT call_tuple_of an_tuple (by rfl) T.z_tuple (by decide +kernel) (ja_cons (je_var 2) ja_nil)))))))))⟩)

abbrev s__law_pairs : Stmt := topS 34
abbrev N__law_pairs : List Str := ["_law_script", "_law_place", "_law_many", "_law_size", "_law_pairs_here", "_law_k", "_law_exponents_here"]
def fb0__law_pairs : Sv := (seqS (asgS 6 (callE m__law_exponents [(false, (callE m__law_cell_at [(false, (varE 0)), (false, (op2 addD (varE 1) (op2 mulD (cE (.int 2)) (varE 5))))])), (false, (varE 2))])) (appS 4 (tupE [(varE 6), (callE m__law_number [(false, (callE m__law_cell_at [(false, (varE 0)), (false, (op2 addD (op2 addD (varE 1) (op2 mulD (cE (.int 2)) (varE 5))) (cE (.int 1))))]))])])))
def b__law_pairs : Sv := (seqS (asgS 4 (lstE [])) (seqS (forS (itR1 (varE 3)) (bdN 5) fb0__law_pairs) (retS (varE 4))))
def m__law_pairs : Fv := runDef 7 b__law_pairs
theorem sc__law_pairs : FnScope N__law_pairs ["_law_script", "_law_place", "_law_many", "_law_size"] (defScope s__law_pairs) := ⟨rfl, rfl, rfl, by decide +kernel, rfl, by decide +kernel, by decide +kernel⟩
theorem ok__law_pairs {P : Program} {w : World} {base : Heap} (T : Tx K mg ad fd) : FnOk P w K mg base (L2.CX P w) 2 (ad 21) (fd 21) ["_law_script", "_law_place", "_law_many", "_law_size"] (spOf (crA ad) 4 m__law_pairs) :=
  fn_ok T.F21 sc__law_pairs (by decide) (fun cdv A outer s H E hr => ⟨(0, 0), by
    have sc := sc__law_pairs
    exact (jss_cons (js_set 4 sc.nd (by rfl) (by first | exact Or.inl rfl | exact Or.inr rfl) (je_lst ja_nil)) (jss_cons (js_for hp_cx rfl (ji_range1 (by rfl) T.z_range (je_var 3)) (jg_name 5 sc.nd (by rfl) (by first | exact Or.inl rfl | exact Or.inr rfl)) (jss_cons (js_set 6 sc.nd (by rfl) (by first | exact Or.inl rfl | exact Or.inr rfl) (je_call (ok__law_exponents T) tk_cx (hr.mono (by decide)) T.g20 T.F20.kp T.b20 (by rfl) (ja_cons (je_call (ok__law_cell_at T) tk_cx (hr.mono (by decide)) T.g13 T.F13.kp T.b13 (by rfl) (ja_cons (je_var 0) (ja_cons (je_op opl_add ap_add (je_var 1) (je_op opl_mul ap_mul je_int (je_var 5))) ja_nil)) rfl) (ja_cons (je_var 2) ja_nil)) rfl)) (jss_one (js_app 4 (he := (je_tup (ja_cons (je_var 6) (ja_cons (je_call (ok__law_number T) tk_cx (hr.mono (by decide)) T.g19 T.F19.kp T.b19 (by rfl) (ja_cons (je_call (ok__law_cell_at T) tk_cx (hr.mono (by decide)) T.g13 T.F13.kp T.b13 (by rfl) (ja_cons (je_var 0) (ja_cons (je_op opl_add ap_add (je_op opl_add ap_add (je_var 1) (je_op opl_mul ap_mul je_int (je_var 5))) je_int) ja_nil)) rfl) ja_nil) rfl) ja_nil)))) (hb := fun a b => pe_bm PySem.F.plainAttrs_list PySem.F.slot_list_append PySem.F.type_list_append mt_append a b))))) (jss_one (js_ret (je_var 4)))))⟩)

abbrev s__law_word : Stmt := topS 35
abbrev N__law_word : List Str := ["_law_term", "_law_words", "_law_k"]
def fb0__law_word : Sv := (seqS (ifS (toT (op2 eqD (op2 ixD (op2 ixD (varE 0) (cE (.int 0))) (varE 2)) (cE (.int 1)))) (appS 1 (op2 ixD (cE (.str "xyzw")) (varE 2))) skipS) (ifS (toT (op2 gtD (op2 ixD (op2 ixD (varE 0) (cE (.int 0))) (varE 2)) (cE (.int 1)))) (appS 1 (op2 addD (op2 addD (op2 ixD (cE (.str "xyzw")) (varE 2)) (cE (.str "^"))) (opN strD [(op2 ixD (op2 ixD (varE 0) (cE (.int 0))) (varE 2))]))) skipS))
def b__law_word : Sv := (seqS (asgS 1 (lstE [])) (seqS (forS (itR1 (opN lenD [(op2 ixD (varE 0) (cE (.int 0)))])) (bdN 2) fb0__law_word) (seqS (ifS (orT (toT (op2 neD (opN absD [(op2 ixD (varE 0) (cE (.int 1)))]) (cE (.int 1)))) (toT (op2 eqD (varE 1) (lstE [])))) (asgS 1 (op2 addD (lstE [(opN strD [(opN absD [(op2 ixD (varE 0) (cE (.int 1)))])])]) (varE 1))) skipS) (retS (joinE (cE (.str "*")) (varE 1))))))
def m__law_word : Fv := runDef 3 b__law_word
theorem sc__law_word : FnScope N__law_word ["_law_term"] (defScope s__law_word) := ⟨rfl, rfl, rfl, by decide +kernel, rfl, by decide +kernel, by decide +kernel⟩
theorem ok__law_word {P : Program} {w : World} {base : Heap} (T : Tx K mg ad fd) : FnOk P w K mg base (L2.CX P w) 1 (ad 22) (fd 22) ["_law_term"] (spOf (crA ad) 1 m__law_word) :=
  fn_ok T.F22 sc__law_word (by decide) (fun cdv A outer s H E hr => ⟨(0, 0), by
    have sc := sc__law_word
    exact (jss_cons (js_set 1 sc.nd (by rfl) (by first | exact Or.inl rfl | exact Or.inr rfl) (je_lst ja_nil)) (jss_cons (js_for hp_cx rfl (ji_range1 (by rfl) T.z_range (je_bltn cl_len an_len (by rfl) T.z_len (by decide +kernel) (ja_cons (je_ix (je_var 0) je_int) ja_nil))) (jg_name 2 sc.nd (by rfl) (by first | exact Or.inl rfl | exact Or.inr rfl)) (jss_cons (js_if (jt_cmp (op_eqD hr.units) ap_eq (je_ix (je_ix (je_var 0) je_int) (je_var 2)) je_int (nomark _)) (jss_one (js_app 1 (he := (je_ix je_str (je_var 2))) (hb := fun a b => pe_bm PySem.F.plainAttrs_list PySem.F.slot_list_append PySem.F.type_list_append mt_append a b))) jss_nil) (jss_one (js_if (jt_cmp op_gt ap_gt (je_ix (je_ix (je_var 0) je_int) (je_var 2)) je_int (nomark _)) (jss_one (js_app 1 (he := (je_op opl_add ap_add (je_op opl_add ap_add (je_ix je_str (je_var 2)) je_str) (je_bltT call_str_int an_str (by rfl) T.z_str (by decide +kernel) (ja_cons (je_ix (je_ix (je_var 0) je_int) (je_var 2)) ja_nil)))) (hb := fun a b => pe_bm PySem.F.plainAttrs_list PySem.F.slot_list_append PySem.F.type_list_append mt_append a b))) jss_nil)))) (jss_cons (js_if (JW.t (jw_or (jt_cmp (op_neD hr.units) ap_ne (je_bltn call_abs an_abs (by rfl) T.z_abs (by decide +kernel) (ja_cons (je_ix (je_var 0) je_int) ja_nil)) je_int (nomark _)) (jw_or1 (jt_cmp (op_eqD hr.units) ap_eq (je_var 1) (je_lst ja_nil) (nomark _))))) (jss_one (js_set 1 sc.nd (by rfl) (by first | exact Or.inl rfl | exact Or.inr rfl) (je_op opl_add ap_add (je_lst (ja_cons (je_bltT call_str_int an_str (by rfl) T.z_str (by decide +kernel) (ja_cons (je_bltn call_abs an_abs (by rfl) T.z_abs (by decide +kernel) (ja_cons (je_ix (je_var 0) je_int) ja_nil)) ja_nil)) ja_nil)) (je_var 1)))) jss_nil) (jss_one (js_ret (je_join je_str (je_var 1)))))))⟩)

abbrev s__law_written : Stmt := topS 36
abbrev N__law_written : List Str := ["_law_row", "_law_found", "_law_term", "_law_sign"]
def fb0__law_written : Sv := (seqS (asgS 3 (cE (.str " + "))) (seqS (ifS (toT (op2 ltD (op2 ixD (varE 2) (cE (.int 1))) (cE (.int 0)))) (asgS 3 (cE (.str " - "))) skipS) (asgS 1 (op2 addD (op2 addD (varE 1) (varE 3)) (callE m__law_word [(false, (varE 2))])))))
def b__law_written : Sv := (seqS (ifS (toT (op2 eqD (varE 0) (lstE []))) (retS (cE (.str "0"))) skipS) (seqS (asgS 1 (callE m__law_word [(false, (op2 ixD (varE 0) (cE (.int 0))))])) (seqS (ifS (toT (op2 ltD (op2 ixD (op2 ixD (varE 0) (cE (.int 0))) (cE (.int 1))) (cE (.int 0)))) (asgS 1 (op2 addD (cE (.str "-")) (varE 1))) skipS) (seqS (forS (itQ (sliE (varE 0) (some (cE (.int 1))) none)) (bdN 2) fb0__law_written) (retS (varE 1))))))
def m__law_written : Fv := runDef 4 b__law_written
theorem sc__law_written : FnScope N__law_written ["_law_row"] (defScope s__law_written) := ⟨rfl, rfl, rfl, by decide +kernel, rfl, by decide +kernel, by decide +kernel⟩
theorem ok__law_written {P : Program} {w : World} {base : Heap} (T : Tx K mg ad fd) : FnOk P w K mg base (L2.CX P w) 2 (ad 23) (fd 23) ["_law_row"] (spOf (crA ad) 1 m__law_written) :=
  fn_ok T.F23 sc__law_written (by decide) (fun cdv A outer s H E hr => ⟨(0, 0), by
    have sc := sc__law_written
    exact (jss_cons (js_if (jt_cmp (op_eqD hr.units) ap_eq (je_var 0) (je_lst ja_nil) (nomark _)) (jss_one (js_ret je_str)) jss_nil) (jss_cons (js_set 1 sc.nd (by rfl) (by first | exact Or.inl rfl | exact Or.inr rfl) (je_call (ok__law_word T) tk_cx (hr.mono (by decide)) T.g22 T.F22.kp T.b22 (by rfl) (ja_cons (je_ix (je_var 0) je_int) ja_nil) rfl)) (jss_cons (js_if (jt_cmp op_lt ap_lt (je_ix (je_ix (je_var 0) je_int) je_int) je_int (nomark _)) (jss_one (js_set 1 sc.nd (by rfl) (by first | exact Or.inl rfl | exact Or.inr rfl) (je_op opl_add ap_add je_str (je_var 1)))) jss_nil) (jss_cons (js_for hp_cx rfl (ji_seq (je_sli (je_var 0) (jo_some je_int) jo_none)) (jg_name 2 sc.nd (by rfl) (by first | exact Or.inl rfl | exact Or.inr rfl)) (jss_cons (js_set 3 sc.nd (by rfl) (by first | exact Or.inl rfl | exact Or.inr rfl) je_str) (jss_cons (js_if (jt_cmp op_lt ap_lt (je_ix (je_var 2) je_int) je_int (nomark _)) (jss_one (js_set 3 sc.nd (by rfl) (by first | exact Or.inl rfl | exact Or.inr rfl) je_str)) jss_nil) (jss_one (js_set 1 sc.nd (by rfl) (by first | exact Or.inl rfl | exact Or.inr rfl) (je_op opl_add ap_add (je_op opl_add ap_add (je_var 1) (je_var 3)) (je_call (ok__law_word T) tk_cx (hr.mono (by decide)) T.g22 T.F22.kp T.b22 (by rfl) (ja_cons (je_var 2) ja_nil) rfl))))))) (jss_one (js_ret (je_var 1)))))))⟩)

abbrev s__law_far : Stmt := topS 37
abbrev N__law_far : List Str := ["_law_ring_here", "_law_many", "_law_row", "_law_step", "_law_far_here", "_law_found", "_law_due", "_law_told", "_law_term", "_law_one"]
def le0__law_far : Ev := (op2 mulD (varE 9) (varE 3))
def le1__law_far : Ev := (tupE [(opN tupleD [(lcE (itQ (op2 ixD (varE 8) (cE (.int 0)))) (bdN 9) tt le0__law_far [9])]), (op2 ixD (varE 8) (cE (.int 1)))])
def le2__law_far : Ev := (varE 8)
def lt3__law_far : Tv := (toT (op2 gtD (opN (minTD max) [(op2 ixD (varE 8) (cE (.int 0)))]) (cE (.int 99))))
def b__law_far : Sv := (seqS (asgS 4 (lcE (itQ (varE 2)) (bdN 8) tt le1__law_far [8])) (seqS (asgS 5 (callE m_shown [(false, (varE 4))])) (seqS (ifS (toT (op2 neD (varE 5) (callE m__law_written [(false, (varE 4))]))) (retS (cE (.bool false))) skipS) (seqS (asgS 6 (op2 eqD (lcE (itQ (varE 4)) (bdN 8) lt3__law_far le2__law_far [8]) (lstE []))) (seqS (tryS (asgS 7 (callE m_read [(false, (varE 0)), (false, (varE 1)), (true, (varE 5))])) [([false, false, false, true], (retS (notE (varE 6))))]) (retS (andE (varE 6) (callE m__law_same [(false, (varE 7)), (false, (varE 4))]))))))))
def m__law_far : Fv := runDef 10 b__law_far
theorem sc__law_far : FnScope N__law_far ["_law_ring_here", "_law_many", "_law_row", "_law_step"] (defScope s__law_far) := ⟨rfl, rfl, rfl, by decide +kernel, rfl, by decide +kernel, by decide +kernel⟩
theorem ok__law_far {P : Program} {w : World} {base : Heap} (T : Tx K mg ad fd) : FnOk P w K mg base (L2.CX P w) 5 (ad 24) (fd 24) ["_law_ring_here", "_law_many", "_law_row", "_law_step"] (spOf (crA ad) 4 m__law_far) :=
  fn_ok T.F24 sc__law_far (by decide) (fun cdv A outer s H E hr => ⟨(0, 0), by
    have sc := sc__law_far
    exact (jss_cons (by first | exact (js_setLc 4 (own := [("_law_term", 8)]) rfl sc.nd (by rfl) (by rfl) (sw_true rfl rfl rfl (by decide +kernel)) (ji_seq (je_var 2)) (blkOk_by (own := [("_law_term", 8)]) (N := N__law_far) (sc := defScope s__law_far) (by decide +kernel)) (fun _ _ _ _ _ => (jgw_name 8 sc.nd (by rfl) (by first | exact Or.inl rfl | exact Or.inr rfl) (by decide))) (fun _ _ _ _ _ => jts_nil) (fun _ _ _ _ _ => (je_tup (ja_cons (je_bltT call_tuple_of an_tuple (by rfl) T.z_tuple (by decide +kernel) (ja_cons (je_lc (own := [("_law_one", 9)]) rfl sc.nd (ji_seq (je_ix (je_var 8) je_int)) (blkOk_by (own := [("_law_one", 9)]) (by rfl)) (fun _ _ _ _ _ => (jgw_name 9 sc.nd (by rfl) (by first | exact Or.inl rfl | exact Or.inr rfl) (by decide))) (fun _ _ _ _ _ => jts_nil) (fun _ _ _ _ _ => (je_op opl_mul ap_mul (je_var 9) (je_var 3)))) ja_nil)) (ja_cons (je_ix (je_var 8) je_int) ja_nil))))) | exact (js_set 4 sc.nd (by rfl) (by first | exact Or.inl rfl | exact Or.inr rfl) (je_lc (own := [("_law_term", 8)]) rfl sc.nd (ji_seq (je_var 2)) (blkOk_by (own := [("_law_term", 8)]) (N := N__law_far) (sc := defScope s__law_far) (by decide +kernel)) (fun _ _ _ _ _ => (jgw_name 8 sc.nd (by rfl) (by first | exact Or.inl rfl | exact Or.inr rfl) (by decide))) (fun _ _ _ _ _ => jts_nil) (fun _ _ _ _ _ => (je_tup (ja_cons (je_bltT call_tuple_of an_tuple (by rfl) T.z_tuple (by decide +kernel) (ja_cons (je_lc (own := [("_law_one", 9)]) rfl sc.nd (ji_seq (je_ix (je_var 8) je_int)) (blkOk_by (own := [("_law_one", 9)]) (by rfl)) (fun _ _ _ _ _ => (jgw_name 9 sc.nd (by rfl) (by first | exact Or.inl rfl | exact Or.inr rfl) (by decide))) (fun _ _ _ _ _ => jts_nil) (fun _ _ _ _ _ => (je_op opl_mul ap_mul (je_var 9) (je_var 3)))) ja_nil)) (ja_cons (je_ix (je_var 8) je_int) ja_nil))))))) (jss_cons (js_set 5 sc.nd (by rfl) (by first | exact Or.inl rfl | exact Or.inr rfl) (je_call (ok_shown T) tk_cx (hr.mono (by decide)) T.g7 T.F7.kp T.b7 (by rfl) (ja_cons (je_var 4) ja_nil) rfl)) (jss_cons (js_if (jt_cmp (op_neD hr.units) ap_ne (je_var 5) (je_call (ok__law_written T) tk_cx (hr.mono (by decide)) T.g23 T.F23.kp T.b23 (by rfl) (ja_cons (je_var 4) ja_nil) rfl) (nomark _)) (jss_one (js_ret je_bool)) jss_nil) (jss_cons (js_set 6 sc.nd (by rfl) (by first | exact Or.inl rfl | exact Or.inr rfl) (je_cmp (op_eqD hr.units) ap_eq (je_lc (own := [("_law_term", 8)]) rfl sc.nd (ji_seq (je_var 4)) (blkOk_by (own := [("_law_term", 8)]) (N := N__law_far) (sc := defScope s__law_far) (by decide +kernel)) (fun _ _ _ _ _ => (jgw_name 8 sc.nd (by rfl) (by first | exact Or.inl rfl | exact Or.inr rfl) (by decide))) (fun _ _ _ _ _ => (jts_one (jt_cmp op_gt ap_gt (je_bltn (cr_maxT rfl (room65 hr)) an_minT (by rfl) T.z_max (by decide +kernel) (ja_cons (je_ix (je_var 8) je_int) ja_nil)) je_int (nomark _)))) (fun _ _ _ _ _ => (je_var 8))) (je_lst ja_nil) (nomark _))) (jss_cons (js_try rfl rfl tk_cx (fun _ _ _ tk1 hp1 => (jss_one (js_set 7 sc.nd (by rfl) (by first | exact Or.inl rfl | exact Or.inr rfl) (je_call (ok_read T) tk1 (hr.mono (by decide)) T.g11 T.F11.kp T.b11 (by rfl) (ja_cons (je_var 0) (ja_cons (je_var 1) (ja_cons (je_var 5) ja_nil))) rfl)))) (HJs.cons (l := [false, false, false, true]) ⟨by rfl, by decide, .inl (T.e3).g⟩ T.h3 (fun a oe c pn hz hf => (jss_one (js_ret (je_not (je_var 6))))) HJs.nil)) (jss_one (js_ret (je_and (je_var 6) (je_one (je_call (ok__law_same T) tk_cx (hr.mono (by decide)) T.g18 T.F18.kp T.b18 (by rfl) (ja_cons (je_var 7) (ja_cons (je_var 4) ja_nil)) rfl))))))))))⟩)

abbrev s_law : Stmt := topS 38
abbrev N_law : List Str := ["_law_script", "_law_ring_here", "_law_second", "_law_third", "_law_many", "_law_row", "_law_handed", "_law_found", "_law_turn", "_law_mix", "_law_pairs_here", "_law_told", "_law_k"]
def le0_law : Ev := (tupE [(callE m__law_exponents [(false, (op2 addD (op2 divD (varE 9) (cE (.int 7))) (op2 mulD (cE (.int 37)) (varE 12)))), (false, (varE 4))]), (callE m__law_number [(false, (op2 addD (varE 9) (op2 mulD (cE (.int 5)) (varE 12))))])])
def fb1_law : Sv := (seqS (asgS 11 (callE m_read [(false, (varE 1)), (false, (varE 4)), (true, (varE 7))])) (seqS (ifS (notT (toT (callE m__law_same [(false, (varE 11)), (false, (varE 5))]))) (retS (cE (.bool false))) skipS) (appS 11 (cE (.int 7)))))
def b_law : Sv := (seqS (asgS 1 (callE m__law_ring [(false, (callE m__law_cell_at [(false, (varE 0)), (false, (cE (.int 0)))]))])) (seqS (asgS 2 (callE m__law_cell_at [(false, (varE 0)), (false, (cE (.int 1)))])) (seqS (asgS 3 (callE m__law_cell_at [(false, (varE 0)), (false, (cE (.int 2)))])) (seqS (asgS 4 (op2 addD (cE (.int 1)) (op2 modD (varE 2) (cE (.int 4))))) (seqS (asgS 5 (callE m__law_gathered [(false, (varE 1)), (false, (callE m__law_pairs [(false, (varE 0)), (false, (cE (.int 4))), (false, (varE 4)), (false, (op2 modD (op2 divD (varE 2) (cE (.int 4))) (cE (.int 8))))]))])) (seqS (ifS (toT (op2 eqD (op2 modD (varE 3) (cE (.int 8))) (cE (.int 1)))) (seqS (asgS 9 (callE m__law_cell_at [(false, (varE 0)), (false, (cE (.int 3)))])) (seqS (asgS 10 (lcE (itR1 (op2 modD (op2 divD (varE 3) (cE (.int 8))) (cE (.int 31)))) (bdN 12) tt le0_law [12])) (asgS 5 (callE m__law_gathered [(false, (varE 1)), (false, (varE 10))])))) skipS) (seqS (asgS 6 (opN listD [(varE 5)])) (seqS (asgS 7 (callE m_shown [(false, (varE 6))])) (seqS (ifS (orT (notT (toT (isiE "str" (varE 7)))) (orT (toT (op2 neD (varE 7) (callE m__law_written [(false, (varE 5))]))) (notT (toT (callE m__law_same [(false, (varE 6)), (false, (varE 5))]))))) (retS (cE (.bool false))) skipS) (seqS (ifS (toT (op2 eqD (op2 modD (varE 3) (cE (.int 8))) (cE (.int 2)))) (retS (callE m__law_far [(false, (varE 1)), (false, (varE 4)), (false, (varE 5)), (false, (op2 addD (cE (.int 97)) (op2 modD (op2 divD (varE 3) (cE (.int 8))) (op2 powD (cE (.int 10)) (cE (.int 6))))))])) skipS) (seqS (forS (itR1 (cE (.int 2))) (bdN 8) fb1_law) (retS (cE (.bool true))))))))))))))
def m_law : Fv := runDef 13 b_law
theorem sc_law : FnScope N_law ["_law_script"] (defScope s_law) := ⟨rfl, rfl, rfl, by decide +kernel, rfl, by decide +kernel, by decide +kernel⟩
theorem ok_law {P : Program} {w : World} {base : Heap} (T : Tx K mg ad fd) : FnOk P w K mg base (L2.CX P w) 6 (ad 25) (fd 25) ["_law_script"] (spOf (crA ad) 1 m_law) :=
  fn_ok T.F25 sc_law (by decide) (fun cdv A outer s H E hr => ⟨(0, 0), by
    have sc := sc_law
    exact (jss_cons (js_set 1 sc.nd (by rfl) (by first | exact Or.inl rfl | exact Or.inr rfl) (je_call (ok__law_ring T) tk_cx (hr.mono (by decide)) T.g15 T.F15.kp T.b15 (by rfl) (ja_cons (je_call (ok__law_cell_at T) tk_cx (hr.mono (by decide)) T.g13 T.F13.kp T.b13 (by rfl) (ja_cons (je_var 0) (ja_cons je_int ja_nil)) rfl) ja_nil) rfl)) (jss_cons (js_set 2 sc.nd (by rfl) (by first | exact Or.inl rfl | exact Or.inr rfl) (je_call (ok__law_cell_at T) tk_cx (hr.mono (by decide)) T.g13 T.F13.kp T.b13 (by rfl) (ja_cons (je_var 0) (ja_cons je_int ja_nil)) rfl)) (jss_cons (js_set 3 sc.nd (by rfl) (by first | exact Or.inl rfl | exact Or.inr rfl) (je_call (ok__law_cell_at T) tk_cx (hr.mono (by decide)) T.g13 T.F13.kp T.b13 (by rfl) (ja_cons (je_var 0) (ja_cons je_int ja_nil)) rfl)) (jss_cons (js_set 4 sc.nd (by rfl) (by first | exact Or.inl rfl | exact Or.inr rfl) (je_op opl_add ap_add je_int (je_op op_modN ap_mod (je_var 2) je_int))) (jss_cons (js_set 5 sc.nd (by rfl) (by first | exact Or.inl rfl | exact Or.inr rfl) (je_call (ok__law_gathered T) tk_cx (hr.mono (by decide)) T.g17 T.F17.kp T.b17 (by rfl) (ja_cons (je_var 1) (ja_cons (je_call (ok__law_pairs T) tk_cx (hr.mono (by decide)) T.g21 T.F21.kp T.b21 (by rfl) (ja_cons (je_var 0) (ja_cons je_int (ja_cons (je_var 4) (ja_cons (je_op op_modN ap_mod (je_op op_fdivX ap_div (je_var 2) je_int) je_int) ja_nil)))) rfl) ja_nil)) rfl)) (jss_cons (js_if (jt_cmp (op_eqD hr.units) ap_eq (je_op op_modN ap_mod (je_var 3) je_int) je_int (nomark _)) (jss_cons (js_set 9 sc.nd (by rfl) (by first | exact Or.inl rfl | exact Or.inr rfl) (je_call (ok__law_cell_at T) tk_cx (hr.mono (by decide)) T.g13 T.F13.kp T.b13 (by rfl) (ja_cons (je_var 0) (ja_cons je_int ja_nil)) rfl)) (jss_cons (by first | exact (js_setLc 10 (own := [("_law_k", 12)]) rfl sc.nd (by rfl) (by rfl) (sw_true rfl rfl rfl (by decide +kernel)) (ji_range1 (by rfl) T.z_range (je_op op_modN ap_mod (je_op op_fdivX ap_div (je_var 3) je_int) je_int)) (blkOk_by (own := [("_law_k", 12)]) (N := N_law) (sc := defScope s_law) (by decide +kernel)) (fun _ _ _ _ _ => (jgw_name 12 sc.nd (by rfl) (by first | exact Or.inl rfl | exact Or.inr rfl) (by decide))) (fun _ _ _ _ _ => jts_nil) (fun _ _ _ _ _ => (je_tup (ja_cons (je_call (ok__law_exponents T) tk0 (hr.mono (by decide)) T.g20 T.F20.kp T.b20 (by rfl) (ja_cons (je_op opl_add ap_add (je_op op_fdivX ap_div (je_var 9) je_int) (je_op opl_mul ap_mul je_int (je_var 12))) (ja_cons (je_var 4) ja_nil)) rfl) (ja_cons (je_call (ok__law_number T) tk0 (hr.mono (by decide)) T.g19 T.F19.kp T.b19 (by rfl) (ja_cons (je_op opl_add ap_add (je_var 9) (je_op opl_mul ap_mul je_int (je_var 12))) ja_nil) rfl) ja_nil))))) | exact (js_set 10 sc.nd (by rfl) (by first | exact Or.inl rfl | exact Or.inr rfl) (je_lc (own := [("_law_k", 12)]) rfl sc.nd (ji_range1 (by rfl) T.z_range (je_op op_modN ap_mod (je_op op_fdivX ap_div (je_var 3) je_int) je_int)) (blkOk_by (own := [("_law_k", 12)]) (N := N_law) (sc := defScope s_law) (by decide +kernel)) (fun _ _ _ _ _ => (jgw_name 12 sc.nd (by rfl) (by first | exact Or.inl rfl | exact Or.inr rfl) (by decide))) (fun _ _ _ _ _ => jts_nil) (fun _ _ _ _ _ => (je_tup (ja_cons (je_call (ok__law_exponents T) tk0 (hr.mono (by decide)) T.g20 T.F20.kp T.b20 (by rfl) (ja_cons (je_op opl_add ap_add (je_op op_fdivX ap_div (je_var 9) je_int) (je_op opl_mul ap_mul je_int (je_var 12))) (ja_cons (je_var 4) ja_nil)) rfl) (ja_cons (je_call (ok__law_number T) tk0 (hr.mono (by decide)) T.g19 T.F19.kp T.b19 (by rfl) (ja_cons (je_op opl_add ap_add (je_var 9) (je_op opl_mul ap_mul je_int (je_var 12))) ja_nil) rfl) ja_nil))))))) (jss_one (js_set 5 sc.nd (by rfl) (by first | exact Or.inl rfl | exact Or.inr rfl) (je_call (ok__law_gathered T) tk_cx (hr.mono (by decide)) T.g17 T.F17.kp T.b17 (by rfl) (ja_cons (je_var 1) (ja_cons (je_var 10) ja_nil)) rfl))))) jss_nil) (jss_cons (js_set 6 sc.nd (by rfl) (by first | exact Or.inl rfl | exact Or.inr rfl) (je_bltT call_list_of an_list (by rfl) T.z_list (by decide +kernel) (ja_cons (je_var 5) ja_nil))) (jss_cons (js_set 7 sc.nd (by rfl) (by first | exact Or.inl rfl | exact Or.inr rfl) (je_call (ok_shown T) tk_cx (hr.mono (by decide)) T.g7 T.F7.kp T.b7 (by rfl) (ja_cons (je_var 6) ja_nil) rfl)) (jss_cons (js_if (JW.t (jw_or (jt_not (jt_val (je_isi kit_str (by rfl) T.z_isinstance (by rfl) T.z_str (by decide +kernel) (je_var 7)))) (jw_or (jt_cmp (op_neD hr.units) ap_ne (je_var 7) (je_call (ok__law_written T) tk_cx (hr.mono (by decide)) T.g23 T.F23.kp T.b23 (by rfl) (ja_cons (je_var 5) ja_nil) rfl) (nomark _)) (jw_or1 (jt_not (jt_val (je_call (ok__law_same T) tk_cx (hr.mono (by decide)) T.g18 T.F18.kp T.b18 (by rfl) (ja_cons (je_var 6) (ja_cons (je_var 5) ja_nil)) rfl))))))) (jss_one (js_ret je_bool)) jss_nil) (jss_cons (js_if (jt_cmp (op_eqD hr.units) ap_eq (je_op op_modN ap_mod (je_var 3) je_int) je_int (nomark _)) (jss_one (js_ret (je_call (ok__law_far T) tk_cx (hr.mono (by decide)) T.g24 T.F24.kp T.b24 (by rfl) (ja_cons (je_var 1) (ja_cons (je_var 4) (ja_cons (je_var 5) (ja_cons (je_op opl_add ap_add je_int (je_op op_modN ap_mod (je_op op_fdivX ap_div (je_var 3) je_int) (je_op op_pow ap_pow je_int je_int))) ja_nil)))) rfl))) jss_nil) (jss_cons (js_for hp_cx rfl (ji_range1 (by rfl) T.z_range je_int) (jg_name 8 sc.nd (by rfl) (by first | exact Or.inl rfl | exact Or.inr rfl)) (jss_cons (js_set 11 sc.nd (by rfl) (by first | exact Or.inl rfl | exact Or.inr rfl) (je_call (ok_read T) tk_cx (hr.mono (by decide)) T.g11 T.F11.kp T.b11 (by rfl) (ja_cons (je_var 1) (ja_cons (je_var 4) (ja_cons (je_var 7) ja_nil))) rfl)) (jss_cons (js_if (jt_not (jt_val (je_call (ok__law_same T) tk_cx (hr.mono (by decide)) T.g18 T.F18.kp T.b18 (by rfl) (ja_cons (je_var 11) (ja_cons (je_var 5) ja_nil)) rfl))) (jss_one (js_ret je_bool)) jss_nil) (jss_one (js_app 11 (he := je_int) (hb := fun a b => pe_bm PySem.F.plainAttrs_list PySem.F.slot_list_append PySem.F.type_list_append mt_append a b)))))) (jss_one (js_ret je_bool)))))))))))))⟩)

end
end Lw
namespace Lw
open PySem L2 Q
/-! ### primes up to 997 -/
def hitB (p d : Int) : Bool := decide (d < p) && decide (p % d = 0)
def upI : Int → Nat → List Int
  | _, 0 => []
  | i, n + 1 => i :: upI (i + 1) n
theorem mem_upI {d : Int} : ∀ {n : Nat} {i : Int}, d ∈ upI i n ↔ i ≤ d ∧ d < i + n
  | 0, i => by
    simp only [upI, List.not_mem_nil, false_iff]
    omega
  | n + 1, i => by
    simp only [upI, List.mem_cons, mem_upI (n := n)]
    omega
theorem len_upI : ∀ {n : Nat} {i : Int}, (upI i n).length = n
  | 0, _ => rfl
  | n + 1, _ => by simp [upI, len_upI]
theorem rgL_up : ∀ {n : Nat} {i : Int}, rgL i 1 n = (upI i n).map PyData.int
  | 0, _ => rfl
  | n + 1, i => by
    have h : rgL i 1 (n + 1) = .int i :: rgL (i + 1) 1 n := by
      unfold rgL
      rw [List.range_succ_eq_map]
      simp
      intro a _
      omega
    rw [h, rgL_up]
    rfl
theorem fb_is_prime (p d : Int) (hd : 0 < d) : fb0_is_prime [.v (.int p), .v (.int d)] = if hitB p d then .rt (.v (.bool false)) else .nx [.v (.int p), .v (.int d)] := by
  by_cases h : d < p <;> by_cases h2 : p % d = 0 <;> simp [fb0_is_prime, hitB, h, h2, modD_pos hd]
theorem lp_is_prime (p : Int) : ∀ (ds : List Int) (x : Sl), (∀ d ∈ ds, 0 < d) → ∃ x', forL (bdN 1) fb0_is_prime (ds.map PyData.int) [.v (.int p), x] = if ds.any (hitB p) then .rt (.v (.bool false)) else .nx [.v (.int p), x']
  | [], x, _ => ⟨x, rfl⟩
  | d :: ds, x, h => by
    obtain ⟨x', e⟩ := lp_is_prime p ds (.v (.int d)) fun y hy => h y (List.mem_cons_of_mem _ hy)
    refine ⟨x', ?_⟩
    rw [List.map_cons, forL_cons]
    have t := fb_is_prime p d (h d List.mem_cons_self)
    by_cases q : hitB p d = true
    · simp [t, q]
    · simp [t, q, e]
def primeB (p : Int) : Bool := decide (2 ≤ p) && decide (p ≤ 997) && !(upI 2 30).any (hitB p)
theorem i62_32 : i62 2 ∧ i62 32 := ⟨⟨by decide, by decide⟩, ⟨by decide, by decide⟩⟩
theorem rg30 : (30 : Int).toNat = 30 := rfl
theorem any_up {q : Int → Bool} {i : Int} {n : Nat} : (upI i n).any q = true ↔ ∃ d, (i ≤ d ∧ d < i + n) ∧ q d = true := by
  rw [List.any_eq_true]
  simp only [mem_upI]
theorem is_prime_ok (p : Int) : m_is_prime [.v (.int p)] = .ok (.v (.bool (primeB p))) := by
  obtain ⟨x', e⟩ := lp_is_prime p (upI 2 30) .un fun d hd => by have := mem_upI.mp hd; omega
  have i2 : (i62 2 ∧ i62 32) := ⟨⟨by decide, by decide⟩, ⟨by decide, by decide⟩⟩
  by_cases h1 : 2 ≤ p
  · by_cases h2 : p ≤ 997
    · by_cases h3 : (upI 2 30).any (hitB p) = true
      · simp only [h3, if_true] at e
        have hp : primeB p = false := by simp only [primeB, h3, Bool.not_true, Bool.and_false]
        rw [hp]
        simp [m_is_prime, b_is_prime, isiD, tyN, h1, h2, if_pos i2, rgL_up, rg30, e]
      · simp only [if_neg h3] at e
        have hp : primeB p = true := by simp only [primeB, h1, h2, h3, decide_true, Bool.and_self, Bool.not_false]
        rw [hp]
        simp [m_is_prime, b_is_prime, isiD, tyN, h1, h2, if_pos i2, rgL_up, rg30, e]
    · simp [m_is_prime, b_is_prime, isiD, tyN, h1, h2, primeB]
  · simp [m_is_prime, b_is_prime, isiD, tyN, h1, primeB]
/-- a prime: no divisor between -/
def Pri (p : Int) : Prop := 2 ≤ p ∧ p ≤ 997 ∧ ∀ d, 2 ≤ d → d < p → p % d ≠ 0
theorem pri_iff {p : Int} : primeB p = true ↔ Pri p := by
  unfold primeB Pri
  simp only [Bool.and_eq_true, decide_eq_true_eq, Bool.not_eq_true', ← Bool.not_eq_true, any_up]
  constructor
  · rintro ⟨⟨h1, h2⟩, h3⟩
    refine ⟨h1, h2, fun d hd hp hm => h3 ?_⟩
    by_cases q : d < 32
    · exact ⟨d, ⟨hd, by omega⟩, by simp [hitB, hp, hm]⟩
    · have e : d * (p / d) = p := Int.mul_ediv_cancel' (Int.dvd_of_emod_eq_zero hm)
      have c1 : 0 < p / d := by
        rcases Int.lt_or_le 0 (p / d) with g | g
        · exact g
        · have := Int.mul_nonpos_of_nonneg_of_nonpos (show (0 : Int) ≤ d by omega) g
          omega
      have c2 : p / d ≠ 1 := fun g => by rw [g] at e; omega
      have c3 : p / d < 32 := by
        rcases Int.lt_or_le (p / d) 32 with g | g
        · exact g
        · have := Int.mul_le_mul (show (32 : Int) ≤ d by omega) g (by decide) (by omega)
          omega
      refine ⟨p / d, ⟨by omega, by omega⟩, ?_⟩
      have c4 : p % (p / d) = 0 := Int.emod_eq_zero_of_dvd ⟨d, by rw [Int.mul_comm]; exact e.symm⟩
      simp only [hitB, c4, decide_true, Bool.and_true, decide_eq_true_eq]
      omega
  · rintro ⟨h1, h2, h3⟩
    refine ⟨⟨h1, h2⟩, ?_⟩
    rintro ⟨d, ⟨a, b⟩, c⟩
    simp only [hitB, Bool.and_eq_true, decide_eq_true_eq] at c
    exact h3 d a c.1 c.2
def ringB (p : Int) : Bool := decide (p = 0) || primeB p
theorem is_ring_ok (p : Int) : m_is_ring [.v (.int p)] = .ok (.v (.bool (ringB p))) := by
  by_cases h : p = 0
  · simp [m_is_ring, b_is_ring, isiD, tyN, h, ringB]
  · simp [m_is_ring, b_is_ring, isiD, tyN, h, ringB, is_prime_ok]
/-- a number of a ring -/
def inR (p n : Int) : Int := if p = 0 then n else n % p
theorem ring_pos {p : Int} (h : ringB p = true) : p = 0 ∨ Pri p := by
  unfold ringB at h
  rw [Bool.or_eq_true, decide_eq_true_eq, pri_iff] at h
  exact h
theorem ring_of {p : Int} (h : p = 0 ∨ Pri p) : ringB p = true := by
  unfold ringB
  rw [Bool.or_eq_true, decide_eq_true_eq, pri_iff]
  exact h
theorem ring_ge {p : Int} (h : ringB p = true) : 0 ≤ p := by
  rcases ring_pos h with g | g
  · omega
  · have := g.1; omega
end Lw
namespace Lw
open PySem L2 Q
theorem need_ok {p : Int} (h : ringB p = true) : m_need_ring [.v (.int p)] = .ok (.v .none) := by
  simp [m_need_ring, b_need_ring, is_ring_ok, h]
theorem need_no {p : Int} (h : ringB p = false) : m_need_ring [.v (.int p)] = .err c_NoRing := by
  simp [m_need_ring, b_need_ring, is_ring_ok, h]
end Lw
namespace Lw
open PySem L2 Q
/-- [x for x in ds if q x] over ints -/
theorem lc_filter {i : Nat} {c : Tv} {q : Int → Bool} {e : En} (hi : i < e.length) (he : e.set i .un = e) : ∀ (ds : List Int) (acc : List D), (∀ d ∈ ds, c (e.set i (.v (.int d))) = .ok (q d) (e.set i (.v (.int d)))) →
    lcL (bdN i) c (varE i) [i] (ds.map PyData.int) acc e = .ok (acc ++ (ds.filter q).map PyData.int) e
  | [], acc, _ => by simp
  | d :: ds, acc, h => by
    have h1 := h d List.mem_cons_self
    have ih := fun acc => lc_filter hi he ds acc fun x hx => h x (List.mem_cons_of_mem _ hx)
    have g : gt (e.set i (.v (.int d))) i = .v (.int d) := by
      unfold gt
      rw [List.getD_eq_getElem?_getD, List.getElem?_set_self hi]
      rfl
    rw [List.map_cons, lcL_cons]
    by_cases hq : q d = true
    · simp [h1, hq, g, List.set_set, he, ih]
    · simp [h1, hq, List.set_set, he, ih]
/-! step by step -/
theorem nxt {f g : Sv} {env e1 : En} {r : RS} (h : f env = .nx e1) (h2 : g e1 = r) : seqS f g env = r := by simp [h, h2]
theorem run_rt {n : Nat} {b : Sv} {sl : List Sl} {v : Vl} (h : b (sl ++ List.replicate (n - sl.length) .un) = .rt v) : runDef n b sl = .ok v := by simp [h]
theorem run_er {n : Nat} {b : Sv} {sl : List Sl} {c : Nat} {e : En} (h : b (sl ++ List.replicate (n - sl.length) .un) = .err c e) : runDef n b sl = .err c := by simp [h]
end Lw
namespace Lw
open PySem L2 Q
/-! ### more tools: comprehensions, slices, places -/
theorem gt_set {e : En} {i : Nat} {s : Sl} (hi : i < e.length) : gt (e.set i s) i = s := by
  unfold gt
  rw [List.getD_eq_getElem?_getD, List.getElem?_set_self hi]
  rfl
theorem lc_gen {i : Nat} {c : Tv} {f : Ev} {q : D → Bool} {g : D → D} {e : En} (he : e.set i .un = e) : ∀ (ds : List D) (acc : List D), (∀ d ∈ ds, c (e.set i (.v d)) = .ok (q d) (e.set i (.v d)) ∧ (q d = true → f (e.set i (.v d)) = .ok (.v (g d)) (e.set i (.v d)))) →
    lcL (bdN i) c f [i] ds acc e = .ok (acc ++ (ds.filter q).map g) e
  | [], acc, _ => by simp
  | d :: ds, acc, h => by
    obtain ⟨h1, h2⟩ := h d List.mem_cons_self
    have ih := fun acc => lc_gen he ds acc fun x hx => h x (List.mem_cons_of_mem _ hx)
    rw [lcL_cons]
    by_cases hq : q d = true
    · simp [h1, hq, h2 hq, List.set_set, he, ih]
    · simp [h1, hq, List.set_set, he, ih]
/-- [f x for x in ds], over ints -/
theorem lc_ints {i : Nat} {f : Ev} {g : Int → D} {e : En} (he : e.set i .un = e) (ns : List Int) (h : ∀ n ∈ ns, f (e.set i (.v (.int n))) = .ok (.v (g n)) (e.set i (.v (.int n)))) :
    lcL (bdN i) tt f [i] (ns.map PyData.int) [] e = .ok (ns.map g) e := by
  have := lc_gen (i := i) (c := tt) (f := f) (q := fun _ => true) (g := fun d => match d with | .int n => g n | d => d) he (ns.map PyData.int) [] fun d hd => by
    obtain ⟨n, hn, rfl⟩ := List.mem_map.mp hd
    exact ⟨rfl, fun _ => h n hn⟩
  rw [this]
  congr 1
  simp [List.filter_eq_self.mpr, List.map_map]
/-- [f x for x in ds if q x], over ints -/
theorem lc_intsF {i : Nat} {c : Tv} {f : Ev} {q : Int → Bool} {g : Int → D} {e : En} (he : e.set i .un = e) (ns : List Int) (h : ∀ n ∈ ns, c (e.set i (.v (.int n))) = .ok (q n) (e.set i (.v (.int n))) ∧ (q n = true → f (e.set i (.v (.int n))) = .ok (.v (g n)) (e.set i (.v (.int n))))) :
    lcL (bdN i) c f [i] (ns.map PyData.int) [] e = .ok ((ns.filter q).map g) e := by
  have := lc_gen (i := i) (c := c) (f := f) (q := fun d => match d with | .int n => q n | _ => true) (g := fun d => match d with | .int n => g n | d => d) he (ns.map PyData.int) [] fun d hd => by
    obtain ⟨n, hn, rfl⟩ := List.mem_map.mp hd
    exact h n hn
  rw [this]
  congr 1
  rw [List.filter_map, List.map_map]
  rfl
theorem cut_hi {ds : List D} {k : Nat} (h : k ≤ ds.length) : cutD ds none (some (k : Int)) = ds.take k := by
  unfold cutD
  rw [HT.sIx_none, HT.sIx_nat, Nat.min_eq_left h]
  simp
theorem cut_lo {ds : List D} {k : Nat} (h : k ≤ ds.length) : cutD ds (some (k : Int)) none = ds.drop k := by
  unfold cutD
  rw [HT.sIx_none, HT.sIx_nat, Nat.min_eq_left h]
  exact List.take_of_length_le (by rw [List.length_drop]; exact Nat.le_refl _)
theorem ix_nat {ds : List D} {k : Nat} {d : D} (h : ds[k]? = some d) : ixD (.list ds) (.int (k : Int)) = some (.v d) := ixD_l (by omega) (by simpa using h)
theorem ix_int {ns : List Int} {k : Nat} {n : Int} (h : ns[k]? = some n) : ixD (.list (ns.map PyData.int)) (.int (k : Int)) = some (.v (.int n)) := ix_nat (by rw [List.getElem?_map, h]; rfl)
/-- a list's item at a place -/
def at0 (ns : List Int) (k : Nat) : Int := ns[k]?.getD 0
theorem ix_at {ns : List Int} {k : Nat} (h : k < ns.length) : ixD (.list (ns.map PyData.int)) (.int (k : Int)) = some (.v (.int (at0 ns k))) := ix_int (by unfold at0; rw [List.getElem?_eq_getElem h]; rfl)
theorem ixN_in {n k : Nat} (h : k < n) : ixN n (k : Int) = some k := by
  unfold ixN
  rw [if_pos (by omega), if_pos (by omega), Int.toNat_natCast]
theorem eqD_ints {ns ms : List Int} : eqD (.list (ns.map PyData.int)) (.list (ms.map PyData.int)) = some (.v (.bool (decide (ns = ms)))) :=
  eqD_pu (pu_list (n := 0) (pul_ints ns)) (pu_list (n := 0) (pul_ints ms)) (by
    rw [decide_eq_true_eq]
    refine ⟨fun h => by rw [h], fun h => ?_⟩
    injection h with h
    exact (List.map_inj_right (fun a b h => by injection h)).mp h)
theorem neD_ints {ns ms : List Int} : neD (.list (ns.map PyData.int)) (.list (ms.map PyData.int)) = some (.v (.bool (!decide (ns = ms)))) :=
  neD_pu (pu_list (n := 0) (pul_ints ns)) (pu_list (n := 0) (pul_ints ms)) (by
    rw [decide_eq_true_eq]
    refine ⟨fun h => by rw [h], fun h => ?_⟩
    injection h with h
    exact (List.map_inj_right (fun a b h => by injection h)).mp h)
theorem eqD_self {n : Nat} {d : D} (h : Pu n d) (hn : n ≤ 64 := by decide) : eqD d d = some (.v (.bool true)) := eqD_pu h h (by simp) hn hn
theorem neD_self {n : Nat} {d : D} (h : Pu n d) (hn : n ≤ 64 := by decide) : neD d d = some (.v (.bool false)) := neD_pu (b := true) h h (by simp) hn hn
end Lw
namespace Lw
open PySem L2 Q
/-! ### lists by their places -/
def tabN (n : Nat) (f : Nat → Int) : List Int := (List.range n).map f
theorem tab_len {n : Nat} {f : Nat → Int} : (tabN n f).length = n := by unfold tabN; rw [List.length_map, List.length_range]
theorem tab_get {n k : Nat} {f : Nat → Int} : (tabN n f)[k]? = if k < n then some (f k) else none := by
  unfold tabN
  rw [List.getElem?_map]
  by_cases h : k < n
  · rw [if_pos h, List.getElem?_range h]; rfl
  · rw [if_neg h, List.getElem?_eq_none (by rw [List.length_range]; omega)]; rfl
theorem tab_at {n k : Nat} {f : Nat → Int} (h : k < n) : at0 (tabN n f) k = f k := by
  unfold at0
  rw [tab_get, if_pos h]; rfl
theorem tab_out {n k : Nat} {f : Nat → Int} (h : n ≤ k) : at0 (tabN n f) k = 0 := by
  unfold at0
  rw [tab_get, if_neg (by omega)]; rfl
theorem tab_ext {n : Nat} {f g : Nat → Int} (h : ∀ k, k < n → f k = g k) : tabN n f = tabN n g := List.map_congr_left fun k hk => h k (List.mem_range.mp hk)
theorem at_out {ns : List Int} {k : Nat} (h : ns.length ≤ k) : at0 ns k = 0 := by
  unfold at0
  rw [List.getElem?_eq_none h]; rfl
theorem tab_of (ns : List Int) : ns = tabN ns.length (at0 ns) := by
  apply List.ext_getElem?
  intro k
  rw [tab_get]
  by_cases h : k < ns.length
  · rw [if_pos h]
    unfold at0
    rw [List.getElem?_eq_getElem h]; rfl
  · rw [if_neg h, List.getElem?_eq_none (by omega)]
theorem tab_pad (ns : List Int) (r : Nat) : ns ++ List.replicate r 0 = tabN (ns.length + r) (at0 ns) := by
  apply List.ext_getElem?
  intro k
  rw [tab_get]
  by_cases h : k < ns.length
  · rw [if_pos (by omega), List.getElem?_append_left h]
    unfold at0
    rw [List.getElem?_eq_getElem h]; rfl
  · rw [List.getElem?_append_right (by omega), at_out (by omega), List.getElem?_replicate]
    by_cases h2 : k < ns.length + r
    · rw [if_pos h2, if_pos (by omega)]
    · rw [if_neg h2, if_neg (by omega)]
theorem tab_zero (r : Nat) : List.replicate r 0 = tabN r fun _ => 0 := by
  have := tab_pad [] r
  rw [List.nil_append, List.length_nil, Nat.zero_add] at this
  rw [this]
  exact tab_ext fun k _ => at_out (by simp)
theorem tab_set {n k : Nat} {f : Nat → Int} {v : Int} (h : k < n) : (tabN n f).set k v = tabN n fun i => if i = k then v else f i := by
  apply List.ext_getElem?
  intro i
  rw [List.getElem?_set, tab_get, tab_get, tab_len]
  by_cases e : k = i
  · subst e
    simp [h]
  · rw [if_neg e]
    have e2 : ¬ i = k := fun z => e z.symm
    simp [e2]
theorem tab_succ {n : Nat} {f : Nat → Int} : tabN (n + 1) f = tabN n f ++ [f n] := by
  unfold tabN
  rw [List.range_succ, List.map_append]; rfl
theorem upI_tab : ∀ (n : Nat) (i : Int), upI i n = (List.range n).map fun (k : Nat) => i + (k : Int)
  | 0, _ => rfl
  | n + 1, i => by
    rw [upI, upI_tab n, List.range_succ_eq_map, List.map_cons, List.map_map]
    simp
    intro a _
    omega
theorem up_tab (n : Nat) (g : Int → Int) : (upI 0 n).map g = tabN n fun k => g k := by
  rw [upI_tab, List.map_map]
  unfold tabN
  exact List.map_congr_left fun k _ => by simp
/-- a loop over a count -/
theorem forL_up {J : Type} {bd : Bv} {b : Sv} (E : Nat → J → En) {n : Nat} (h : ∀ k, k < n → ∀ j, ∃ e1, bd (.int (k : Int)) (E k j) = some e1 ∧ ∃ j', b e1 = .nx (E (k + 1) j')) (j : J) : ∃ j', forL bd b ((upI 0 n).map PyData.int) (E 0 j) = .nx (E n j') := by
  have key : ∀ m k j, k + m = n → ∃ j', forL bd b ((upI (k : Int) m).map PyData.int) (E k j) = .nx (E n j') := fun m => by
    induction m with
    | zero => intro k j hk; obtain rfl : k = n := hk; exact ⟨j, rfl⟩
    | succ m ih =>
      intro k j hk
      obtain ⟨e1, h1, j1, h2⟩ := h k (by omega) j
      obtain ⟨j2, h3⟩ := ih (k + 1) j1 (by omega)
      refine ⟨j2, ?_⟩
      rw [upI, List.map_cons, forL_cons, h1]
      simp only [h2]
      have e : ((k + 1 : Nat) : Int) = (k : Int) + 1 := by omega  -- q
      rw [e] at h3
      exact h3
  exact key n 0 j (by omega)
theorem at_mem {ns : List Int} {P : Int → Prop} (h0 : P 0) (h : ∀ n ∈ ns, P n) (k : Nat) : P (at0 ns k) := by
  unfold at0
  by_cases q : k < ns.length
  · rw [List.getElem?_eq_getElem q]; exact h _ (List.getElem_mem q)
  · rw [List.getElem?_eq_none (by omega)]; exact h0
theorem rep0 {k : Int} (h : -1000000 ≤ k ∧ k ≤ 1000000) : mulD (.list [.int 0]) (.int k) = some (.f ((List.replicate k.toNat (0 : Int)).map PyData.int)) := by
  have e : (List.replicate k.toNat [PyData.int 0]).flatten = (List.replicate k.toNat (0 : Int)).map PyData.int := by
    generalize k.toNat = n
    induction n with
    | zero => rfl
    | succ n ih => rw [List.replicate_succ, List.flatten_cons, ih, List.replicate_succ, List.map_cons]; rfl
  have rk : repOk [PyData.int 0].length k := by
    refine ⟨by omega, by omega, ?_⟩  -- q
    rw [List.length_singleton, Nat.one_mul]
    exact Nat.le_trans (show k.toNat ≤ 1000000 by omega) (by decide)
  show (if repOk [PyData.int 0].length k then some (Vl.f (List.replicate k.toNat [PyData.int 0]).flatten) else none) = _
  rw [if_pos rk, e]
theorem ad_ll {a b : List D} (h : a.length + b.length ≤ 1000000) : addD (.list a) (.list b) = some (.f (a ++ b)) := if_pos (Nat.le_trans h (by decide))
def rowD (ns : List Int) : D := .list (ns.map PyData.int)
end Lw
namespace Lw
open PySem L2 Q
/-! ### loops by a step -/
theorem forL_fold {α S J : Type} {bd : Bv} {b : Sv} (g : α → D) (E : S → J → En) (st : S → α → S) (inv : List α → S → Prop)
    (h : ∀ x xs s j, inv (x :: xs) s → ∃ j' e1, bd (g x) (E s j) = some e1 ∧ b e1 = .nx (E (st s x) j') ∧ inv xs (st s x)) :
    ∀ (xs : List α) (s : S) (j : J), inv xs s → ∃ j', forL bd b (xs.map g) (E s j) = .nx (E (xs.foldl st s) j') ∧ inv [] (xs.foldl st s)
  | [], s, j, hi => ⟨j, rfl, hi⟩
  | x :: xs, s, j, hi => by
    obtain ⟨j1, e1, h1, h2, h3⟩ := h x xs s j hi
    obtain ⟨j2, h4, h5⟩ := forL_fold g E st inv h xs (st s x) j1 h3
    refine ⟨j2, ?_, h5⟩
    rw [List.map_cons, forL_cons, h1]
    simp only [h2]
    exact h4
theorem forL_inv {α S J : Type} {bd : Bv} {b : Sv} (g : α → D) (E : S → J → En) (inv : List α → S → Prop)
    (h : ∀ x xs s j, inv (x :: xs) s → ∃ s' j' e1, bd (g x) (E s j) = some e1 ∧ b e1 = .nx (E s' j') ∧ inv xs s') :
    ∀ (xs : List α) (s : S) (j : J), inv xs s → ∃ s' j', forL bd b (xs.map g) (E s j) = .nx (E s' j') ∧ inv [] s'
  | [], s, j, hi => ⟨s, j, rfl, hi⟩
  | x :: xs, s, j, hi => by
    obtain ⟨s1, j1, e1, h1, h2, h3⟩ := h x xs s j hi
    obtain ⟨s2, j2, h4, h5⟩ := forL_inv g E inv h xs s1 j1 h3
    refine ⟨s2, j2, ?_, h5⟩
    rw [List.map_cons, forL_cons, h1]
    simp only [h2]
    exact h4
/-- a comprehension's list: each item as told -/
theorem lc_ex {i : Nat} {f : Ev} {e : En} {P : D → Prop} (he : e.set i .un = e) : ∀ (ds : List D) (acc : List D), (∀ d ∈ ds, ∃ y, f (e.set i (.v d)) = .ok (.v y) (e.set i (.v d)) ∧ P y) →
    ∃ ys, lcL (bdN i) tt f [i] ds acc e = .ok (acc ++ ys) e ∧ ys.length = ds.length ∧ ∀ y ∈ ys, P y
  | [], acc, _ => ⟨[], by simp⟩
  | d :: ds, acc, h => by
    obtain ⟨y, h1, h2⟩ := h d List.mem_cons_self
    obtain ⟨ys, h3, h4, h5⟩ := lc_ex he ds (acc ++ [y]) fun x hx => h x (List.mem_cons_of_mem _ hx)
    refine ⟨y :: ys, ?_, by simp [h4], fun z hz => (List.mem_cons.mp hz).elim (fun q => by rw [q]; exact h2) (h5 z)⟩
    rw [lcL_cons]
    simp [h1, List.set_set, he, h3]
theorem of_map {α : Type} {g : α → D} {P : α → Prop} : ∀ {ys : List D}, (∀ y ∈ ys, ∃ p, y = g p ∧ P p) → ∃ ps : List α, ys = ps.map g ∧ ∀ p ∈ ps, P p
  | [], _ => ⟨[], rfl, fun _ h => nomatch h⟩
  | y :: ys, h => by
    obtain ⟨p, h1, h2⟩ := h y List.mem_cons_self
    obtain ⟨ps, h3, h4⟩ := of_map (ys := ys) fun z hz => h z (List.mem_cons_of_mem _ hz)
    exact ⟨p :: ps, by rw [h1, h3]; rfl, fun q hq => (List.mem_cons.mp hq).elim (fun e => by rw [e]; exact h2) (h4 q)⟩
/-- a loop that changes nothing but places of no account -/
theorem forL_same {α J : Type} {bd : Bv} {b : Sv} (g : α → D) (E : J → En) (P : α → Prop)
    (h : ∀ x j, P x → ∃ j' e1, bd (g x) (E j) = some e1 ∧ b e1 = .nx (E j')) (xs : List α) (j : J) (hp : ∀ x ∈ xs, P x) : ∃ j', forL bd b (xs.map g) (E j) = .nx (E j') := by
  obtain ⟨j', h1, _⟩ := forL_fold (S := Unit) g (fun _ j => E j) (fun _ _ => ()) (fun ys _ => ∀ x ∈ ys, P x) (fun x ys _ j hi => by
    obtain ⟨j', e1, h1, h2⟩ := h x j (hi x List.mem_cons_self)
    exact ⟨j', e1, h1, h2, fun y hy => hi y (List.mem_cons_of_mem _ hy)⟩) xs () j hp
  exact ⟨j', h1⟩
end Lw
namespace Lw
open PySem L2 Q
/-! ### like exponents gathered: plain -/
abbrev Pz := List Int × Int
def tz (p : Pz) : List Int × D := (p.1, .int p.2)
def getZ (kvs : List Pz) (k : List Int) : Option Int := (kvs.find? fun p => decide (p.1 = k)).map (·.2)
def putZ (kvs : List Pz) (k : List Int) (n : Int) : List Pz :=
  if (kvs.any fun p => decide (p.1 = k)) = true then kvs.map (fun p => if p.1 = k then (p.1, n) else p) else kvs ++ [(k, n)]
theorem val_tz (k : List Int) : ∀ kvs : List Pz, valI (kvs.map tz) k = (getZ kvs k).map PyData.int
  | [] => rfl
  | p :: kvs => by
    have ih := val_tz k kvs
    unfold valI getZ at *
    rw [List.map_cons, List.find?_cons, List.find?_cons]
    by_cases h : p.1 = k
    · have h2 : (tz p).1 = k := h
      simp [h, h2, tz]
    · have h2 : ¬ (tz p).1 = k := h
      simp only [decide_eq_false h, decide_eq_false h2]
      exact ih
theorem put_tz (kvs : List Pz) (k : List Int) (n : Int) : putI (kvs.map tz) k (.int n) = (putZ kvs k n).map tz := by
  unfold putI putZ
  have e : ((kvs.map tz).any fun p => decide (p.1 = k)) = (kvs.any fun p => decide (p.1 = k)) := by
    rw [List.any_map]
    rfl
  rw [e]
  by_cases h : (kvs.any fun p => decide (p.1 = k)) = true
  · rw [if_pos h, if_pos h, List.map_map, List.map_map]
    apply List.map_congr_left
    intro p _
    by_cases q : p.1 = k
    · have q2 : (tz p).1 = k := q
      simp [q, q2, tz]
    · have q2 : ¬ (tz p).1 = k := q
      simp [q, q2]
  · rw [if_neg h, if_neg h, List.map_append]
    rfl
def addZ (kvs : List Pz) (p : Pz) : List Pz := putZ kvs p.1 ((getZ kvs p.1).getD 0 + p.2)
def dctZ (ps : List Pz) : List Pz := ps.foldl addZ []
/-- the sum of these terms, over a ring -/
def gat (r : Int) (ps : List Pz) : List Pz := (srtF ((dctZ ps).map (·.1))).filterMap fun k => if inR r ((getZ (dctZ ps) k).getD 0) = 0 then none else some (k, inR r ((getZ (dctZ ps) k).getD 0))
theorem ints_of : ∀ k : List Int, intsOf (k.map PyData.int) = some k
  | [] => rfl
  | n :: k => by
    show (intsOf (k.map PyData.int)).map (n :: ·) = _
    rw [ints_of k]; rfl
theorem len_putZ (kvs : List Pz) (k : List Int) (n : Int) : (putZ kvs k n).length ≤ kvs.length + 1 := by
  unfold putZ
  split
  · rw [List.length_map]; omega
  · simp
theorem key_ps {kvs : List Pz} {k : List Int} {n : Int} (h : ∀ p ∈ kvs, p.1 ≠ []) (hk : k ≠ []) : ∀ p ∈ putZ kvs k n, p.1 ≠ [] := fun p hp => by
  unfold putZ at hp
  split at hp
  · obtain ⟨q, h1, h2⟩ := List.mem_map.mp hp
    split at h2
    · subst h2; exact h q h1
    · subst h2; exact h q h1
  · rcases List.mem_append.mp hp with z | z
    · exact h p z
    · rw [List.mem_singleton.mp z]; exact hk
def tmZ (p : Pz) : D := .tuple [keyD p.1, .int p.2]
theorem getK_ok {e : En} {i : Nat} {kvs : List Pz} (k : List Int) (h : gt e i = .t (kvs.map tz)) : getK i (keyD k) (.int 0) e = .ok (.v (.int ((getZ kvs k).getD 0))) e := by
  rw [getK_s, h]
  unfold keyD
  simp only [ints_of, val_tz]
  cases getZ kvs k <;> rfl
theorem putT_ok {e : En} {i : Nat} {kvs : List Pz} (k : List Int) (n : Int) (h : gt e i = .t (kvs.map tz)) (hl : kvs.length ≤ 1000000) : putT i (keyD k) (.int n) e = .nx (e.set i (.t ((putZ kvs k n).map tz))) := by
  rw [putT_s, h]
  unfold keyD
  simp only [ints_of, put_tz]
  rw [if_pos (by rw [List.length_map]; exact Nat.lt_of_le_of_lt hl (by decide))]
theorem itemK_ok {e : En} {i : Nat} {kvs : List Pz} {k : List Int} {v : Int} (h : gt e i = .t (kvs.map tz)) (hv : getZ kvs k = some v) : itemK i (keyD k) e = .ok (.v (.int v)) e := by
  rw [itemK_s, h]
  unfold keyD
  simp only [ints_of, val_tz, hv]
  rfl
theorem getZ_mem {k : List Int} : ∀ {kvs : List Pz}, k ∈ kvs.map (·.1) → ∃ v, getZ kvs k = some v
  | [], h => by simp at h
  | p :: kvs, h => by
    unfold getZ
    rw [List.find?_cons]
    by_cases q : p.1 = k
    · exact ⟨p.2, by simp [q]⟩
    · rw [List.map_cons] at h
      rcases List.mem_cons.mp h with z | z  -- q
      · exact absurd z.symm q
      · obtain ⟨v, hv⟩ := getZ_mem z
        exact ⟨v, by simp only [decide_eq_false q]; exact hv⟩
def pick (r : Int) (kvs : List Pz) (k : List Int) : Option Pz := if inR r ((getZ kvs k).getD 0) = 0 then none else some (k, inR r ((getZ kvs k).getD 0))
theorem gat_eq (r : Int) (ps : List Pz) : gat r ps = (srtF ((dctZ ps).map (·.1))).filterMap (pick r (dctZ ps)) := rfl
theorem dct_ne : ∀ (ps kvs : List Pz), (∀ p ∈ ps, p.1 ≠ []) → (∀ p ∈ kvs, p.1 ≠ []) → ∀ p ∈ ps.foldl addZ kvs, p.1 ≠ []
  | [], kvs, _, h => h
  | p :: ps, kvs, h, h2 => dct_ne ps (addZ kvs p) (fun q hq => h q (List.mem_cons_of_mem _ hq)) (key_ps h2 (h p List.mem_cons_self))
theorem dct_len : ∀ (ps kvs : List Pz), (ps.foldl addZ kvs).length ≤ kvs.length + ps.length
  | [], kvs => Nat.le_refl _
  | p :: ps, kvs => by
    have h := dct_len ps (addZ kvs p)
    have l1 := len_putZ kvs p.1 ((getZ kvs p.1).getD 0 + p.2)
    unfold addZ at *
    rw [List.foldl_cons, List.length_cons]  -- q
    omega
theorem map_tz1 (kvs : List Pz) : (kvs.map tz).map (·.1) = kvs.map (·.1) := by rw [List.map_map]; rfl
theorem srt_ok {env : En} {i : Nat} {kvs : List Pz} (h : gt env i = .t (kvs.map tz)) (hn : ∀ p ∈ kvs, p.1 ≠ []) : srtE i env = .ok (.f ((srtF (kvs.map (·.1))).map keyD)) env := by
  have hn2 : ∀ p ∈ kvs.map tz, p.1 ≠ [] := fun p hp => by
    obtain ⟨q, h1, rfl⟩ := List.mem_map.mp hp
    exact hn q h1
  rw [srtE_s, h]
  simp only
  rw [if_pos hn2, map_tz1]
end Lw
namespace Lw
open PySem L2 Q
/-! ### sums of terms: what stands by exponents -/
def coef : List Pz → List Int → Int
  | [], _ => 0
  | p :: ps, k => (if p.1 = k then p.2 else 0) + coef ps k
theorem coef_app : ∀ (ps qs : List Pz) (k : List Int), coef (ps ++ qs) k = coef ps k + coef qs k
  | [], qs, k => by simp [coef]
  | p :: ps, qs, k => by simp only [List.cons_append, coef, coef_app ps qs k]; omega
theorem coef_no {k : List Int} : ∀ {ps : List Pz}, k ∉ ps.map (·.1) → coef ps k = 0
  | [], _ => rfl
  | p :: ps, h => by
    rw [List.map_cons, List.mem_cons, not_or] at h
    rw [coef, coef_no h.2, if_neg fun z => h.1 z.symm]; rfl
theorem coef_one {k : List Int} : ∀ {ps : List Pz}, (ps.map (·.1)).Nodup → ∀ {p : Pz}, p ∈ ps → p.1 = k → coef ps k = p.2
  | [], _, p, h, _ => nomatch h
  | q :: ps, hn, p, h, e => by
    rw [List.map_cons, List.nodup_cons] at hn  -- q
    rcases List.mem_cons.mp h with z | z  -- q
    · subst z
      rw [coef, if_pos e, coef_no (by rw [← e]; exact hn.1)]; omega
    · rw [coef, if_neg (fun w => hn.1 (by rw [w, ← e]; exact List.mem_map_of_mem z)), coef_one hn.2 z e]; omega
theorem getZ_nil (k : List Int) : getZ [] k = none := rfl
theorem getZ_cons (p : Pz) (kvs : List Pz) (k : List Int) : getZ (p :: kvs) k = if p.1 = k then some p.2 else getZ kvs k := by
  unfold getZ
  rw [List.find?_cons]
  by_cases h : p.1 = k
  · simp [h]
  · simp [h]
theorem getZ_app (k : List Int) : ∀ xs ys : List Pz, getZ (xs ++ ys) k = (getZ xs k).or (getZ ys k)
  | [], ys => by simp [getZ_nil]
  | x :: xs, ys => by
    rw [List.cons_append, getZ_cons, getZ_cons, getZ_app k xs ys]
    by_cases h : x.1 = k <;> simp [h]
theorem getZ_none {k : List Int} : ∀ {kvs : List Pz}, getZ kvs k = none ↔ k ∉ kvs.map (·.1)
  | [] => by simp [getZ_nil]
  | p :: kvs => by
    rw [getZ_cons, List.map_cons, List.mem_cons, not_or]
    by_cases h : p.1 = k
    · simp [h]
    · rw [if_neg h, getZ_none]
      exact ⟨fun z => ⟨fun w => h w.symm, z⟩, fun z => z.2⟩
theorem getZ_upd (k : List Int) (n : Int) (j : List Int) : ∀ kvs : List Pz, getZ (kvs.map fun p => if p.1 = k then (p.1, n) else p) j = if j = k then (getZ kvs j).map (fun _ => n) else getZ kvs j
  | [] => by simp [getZ_nil]
  | p :: kvs => by
    rw [List.map_cons, getZ_cons, getZ_cons, getZ_upd k n j kvs]
    by_cases h : p.1 = k
    · by_cases h2 : j = k
      · subst h2; simp [h]
      · have : ¬ k = j := fun z => h2 z.symm
        simp [h, h2, this]
    · by_cases h2 : j = k
      · subst h2; simp [h]
      · simp [h, h2]
theorem getZ_put (kvs : List Pz) (k : List Int) (n : Int) (j : List Int) : getZ (putZ kvs k n) j = if j = k then some n else getZ kvs j := by
  unfold putZ
  by_cases h : (kvs.any fun p => decide (p.1 = k)) = true
  · rw [if_pos h, getZ_upd]
    by_cases h2 : j = k
    · subst h2
      rw [if_pos rfl, if_pos rfl]
      cases q : getZ kvs j with
      | some v => rfl
      | none =>
        obtain ⟨p, hp, e⟩ := List.any_eq_true.mp h
        exact absurd (List.mem_map_of_mem (f := (·.1)) hp) (by rw [of_decide_eq_true e]; exact getZ_none.mp q)
    · rw [if_neg h2, if_neg h2]
  · rw [if_neg h, getZ_app, getZ_cons, getZ_nil]
    by_cases h2 : j = k
    · subst h2
      have : getZ kvs j = none := getZ_none.mpr fun z => by
        obtain ⟨p, hp, e⟩ := List.mem_map.mp z
        exact h (List.any_eq_true.mpr ⟨p, hp, decide_eq_true e⟩)  -- q
      rw [this]; simp
    · have : ¬ k = j := fun z => h2 z.symm
      rw [if_neg this, if_neg h2]
      cases getZ kvs j <;> rfl
theorem keys_put (kvs : List Pz) (k : List Int) (n : Int) : (putZ kvs k n).map (·.1) = if k ∈ kvs.map (·.1) then kvs.map (·.1) else kvs.map (·.1) ++ [k] := by
  unfold putZ
  have e : (kvs.any fun p => decide (p.1 = k)) = true ↔ k ∈ kvs.map (·.1) := by
    rw [List.any_eq_true, List.mem_map]
    exact ⟨fun ⟨p, a, b⟩ => ⟨p, a, of_decide_eq_true b⟩, fun ⟨p, a, b⟩ => ⟨p, a, decide_eq_true b⟩⟩
  by_cases h : k ∈ kvs.map (·.1)  -- q
  · rw [if_pos (e.mpr h), if_pos h, List.map_map]
    apply List.map_congr_left
    intro p _
    show (if p.1 = k then (p.1, n) else p).1 = p.1
    by_cases q : p.1 = k
    · rw [if_pos q]
    · rw [if_neg q]
  · rw [if_neg (fun z => h (e.mp z)), if_neg h, List.map_append]; rfl
theorem dct_get : ∀ (ps kvs : List Pz) (k : List Int), (getZ (ps.foldl addZ kvs) k).getD 0 = (getZ kvs k).getD 0 + coef ps k
  | [], kvs, k => by simp [coef]
  | p :: ps, kvs, k => by
    rw [List.foldl_cons, dct_get ps (addZ kvs p) k, coef]
    unfold addZ
    rw [getZ_put]
    by_cases h : k = p.1
    · subst h; simp; omega
    · have : ¬ p.1 = k := fun z => h z.symm
      rw [if_neg h, if_neg this]; omega
theorem dct_keys : ∀ (ps kvs : List Pz) (k : List Int), k ∈ (ps.foldl addZ kvs).map (·.1) ↔ k ∈ kvs.map (·.1) ∨ k ∈ ps.map (·.1)
  | [], kvs, k => by simp
  | p :: ps, kvs, k => by
    rw [List.foldl_cons, dct_keys ps (addZ kvs p) k]
    unfold addZ
    rw [keys_put]
    by_cases h : p.1 ∈ kvs.map (·.1)
    · rw [if_pos h, List.map_cons, List.mem_cons]
      exact ⟨fun z => z.elim .inl fun w => .inr (.inr w), fun z => z.elim .inl fun w => w.elim (fun e => .inl (by rw [e]; exact h)) .inr⟩
    · rw [if_neg h, List.mem_append, List.mem_singleton, List.map_cons, List.mem_cons, or_assoc]
theorem dct_nodup : ∀ (ps kvs : List Pz), (kvs.map (·.1)).Nodup → ((ps.foldl addZ kvs).map (·.1)).Nodup
  | [], kvs, h => h
  | p :: ps, kvs, h => by
    rw [List.foldl_cons]
    refine dct_nodup ps _ ?_
    unfold addZ
    rw [keys_put]
    by_cases q : p.1 ∈ kvs.map (·.1)
    · rw [if_pos q]; exact h
    · rw [if_neg q]
      exact List.nodup_append.mpr ⟨h, by simp, fun a ha b hb e => q (by rw [List.mem_singleton.mp hb] at e; rw [← e]; exact ha)⟩
theorem inR_0 (r : Int) : inR r 0 = 0 := by
  unfold inR
  split <;> simp
theorem mem_gat {r : Int} {ps : List Pz} {p : Pz} : p ∈ gat r ps ↔ p.2 = inR r (coef ps p.1) ∧ p.2 ≠ 0 := by
  rw [gat_eq, List.mem_filterMap]
  have g : ∀ k, (getZ (dctZ ps) k).getD 0 = coef ps k := fun k => by
    have := dct_get ps [] k
    rw [getZ_nil] at this
    unfold dctZ
    rw [this]
    show 0 + _ = _
    omega
  have hk : ∀ k, k ∈ srtF ((dctZ ps).map (·.1)) ↔ k ∈ ps.map (·.1) := fun k => by
    rw [(srtF_perm _).mem_iff]
    have := dct_keys ps [] k
    simpa [dctZ] using this
  constructor
  · rintro ⟨k, _, h2⟩
    unfold pick at h2
    rw [g] at h2
    by_cases z : inR r (coef ps k) = 0
    · rw [if_pos z] at h2; cases h2
    · rw [if_neg z] at h2
      cases h2
      exact ⟨rfl, z⟩
  · rintro ⟨h1, h2⟩
    refine ⟨p.1, (hk _).mpr ?_, ?_⟩
    · by_cases q : p.1 ∈ ps.map (·.1)
      · exact q
      · rw [coef_no q, inR_0] at h1
        exact absurd h1 h2
    · unfold pick
      rw [g, ← h1, if_neg h2]
theorem gat_fall (r : Int) (ps : List Pz) : (gat r ps).Pairwise fun p q => HT.lexLt q.1 p.1 = true := by
  rw [gat_eq, List.pairwise_filterMap]
  have nd : (srtF ((dctZ ps).map (·.1))).Nodup := (srtF_perm _).nodup_iff.mpr (dct_nodup ps [] (by simp))
  have h : (srtF ((dctZ ps).map (·.1))).Pairwise fun k j => HT.lexLt j k = true :=
    (srtF_fall ((dctZ ps).map (·.1))).imp₂ (fun a b h1 h2 => by
      cases q : HT.lexLt b a with
      | true => rfl
      | false => exact absurd (lex_anti a b h1 q) h2) nd
  refine h.imp fun {k j} hkj p hp q hq => ?_
  have e : ∀ {k : List Int} {p : Pz}, p ∈ pick r (dctZ ps) k → p.1 = k := fun {k p} hp => by
    unfold pick at hp
    split at hp
    · cases hp
    · cases hp; rfl
  rw [e hp, e hq]
  exact hkj
theorem lex_irr (x : List Int) : HT.lexLt x x = false := by
  cases h : HT.lexLt x x with
  | false => rfl
  | true =>
    have := NtL.lex_asym x x h
    rw [h] at this
    cases this
theorem fall_nodup {ps : List Pz} (h : ps.Pairwise fun p q => HT.lexLt q.1 p.1 = true) : (ps.map (·.1)).Nodup := by
  unfold List.Nodup
  rw [List.pairwise_map]
  exact h.imp fun {a b} z e => by
    rw [e, lex_irr] at z; cases z
theorem fall_eq {ps qs : List Pz} (h : ps.Pairwise fun p q => HT.lexLt q.1 p.1 = true) (h' : qs.Pairwise fun p q => HT.lexLt q.1 p.1 = true) (hm : ∀ p, p ∈ ps ↔ p ∈ qs) : ps = qs := by
  have n1 : ps.Nodup := h.imp fun {a b} z e => by
    rw [e, lex_irr] at z; cases z
  have n2 : qs.Nodup := h'.imp fun {a b} z e => by
    rw [e, lex_irr] at z; cases z
  exact perm_uniq (R := fun p q : Pz => HT.lexLt q.1 p.1 = true) (fun x y a b => by
    have := NtL.lex_asym _ _ a
    rw [b] at this; cases this) ((List.perm_ext_iff_of_nodup n1 n2).mpr hm) h h'
theorem gat_congr {r : Int} {ps qs : List Pz} (h : ∀ k, inR r (coef ps k) = inR r (coef qs k)) : gat r ps = gat r qs :=
  fall_eq (gat_fall r ps) (gat_fall r qs) fun p => by rw [mem_gat, mem_gat, h]
theorem coef_gat (r : Int) (ps : List Pz) (k : List Int) : coef (gat r ps) k = inR r (coef ps k) := by
  by_cases h : k ∈ (gat r ps).map (·.1)
  · obtain ⟨p, hp, rfl⟩ := List.mem_map.mp h
    rw [coef_one (fall_nodup (gat_fall r ps)) hp rfl]
    exact (mem_gat.mp hp).1
  · rw [coef_no h]
    by_cases z : inR r (coef ps k) = 0
    · exact z.symm
    · exact absurd (List.mem_map.mpr ⟨(k, inR r (coef ps k)), mem_gat.mpr ⟨rfl, z⟩, rfl⟩) h
theorem gat_key {r : Int} {ps : List Pz} {p : Pz} (h : p ∈ gat r ps) : p.1 ∈ ps.map (·.1) := by
  obtain ⟨h1, h2⟩ := mem_gat.mp h
  by_cases q : p.1 ∈ ps.map (·.1)
  · exact q
  · rw [coef_no q, inR_0] at h1
    exact absurd h1 h2
theorem gat_len (r : Int) (ps : List Pz) : (gat r ps).length ≤ ps.length := by
  rw [gat_eq]
  have h1 := List.length_filterMap_le (pick r (dctZ ps)) (srtF ((dctZ ps).map (·.1)))
  have h2 := dct_len ps []
  rw [(srtF_perm _).length_eq, List.length_map] at h1
  unfold dctZ at *
  simp at h2
  omega
theorem coef_b {B : Nat} {k : List Int} : ∀ {ps : List Pz}, (∀ p ∈ ps, p.2.natAbs < B) → (coef ps k).natAbs ≤ ps.length * B
  | [], _ => by simp [coef]
  | p :: ps, h => by
    have h1 := h p List.mem_cons_self
    have h2 := coef_b (k := k) (ps := ps) fun q hq => h q (List.mem_cons_of_mem _ hq)
    rw [coef, List.length_cons, Nat.add_mul]
    split <;> omega
end Lw
namespace Lw
open PySem L2 Q
/-! ### `_law_same` of like sums -/
theorem pu_key (k : List Int) : Pu 1 (keyD k) := pu_tuple (pul_ints k)
theorem pu_tmZ (p : Pz) : Pu 2 (tmZ p) := pu_tuple (n := 1) (pul_cons (pu_key p.1) (pul_cons pu_int pul_nil))
theorem pu_tms (ps : List Pz) : Pu 3 (.list (ps.map tmZ)) := pu_list (pul_all fun d hd => by
  obtain ⟨p, _, rfl⟩ := List.mem_map.mp hd
  exact pu_tmZ p)
theorem law_whole_int (i : Int) : m__law_whole [.v (.int i)] = .ok (.v (.bool true)) := by simp [m__law_whole, b__law_whole, isiD, tyN]
theorem same_turn (ps : List Pz) (x3 : Sl) {k : Int} (hs : ∀ p ∈ ps, p.1.length ≤ 1000) (hk : 0 ≤ k ∧ k < ps.length) : fb2__law_same [.b (ps.map tmZ), .b (ps.map tmZ), .v (.int k), x3] = .nx [.b (ps.map tmZ), .b (ps.map tmZ), .v (.int k), x3] ∨ x3.own = true := by
  by_cases ho : x3.own = true
  · exact .inr ho
  left
  have hi : k.toNat < ps.length := by omega
  have ix : ixD (.list (ps.map tmZ)) (.int k) = some (.v (tmZ ps[k.toNat])) := ixD_l hk.1 (by rw [List.getElem?_map, List.getElem?_eq_getElem hi]; rfl)
  have hl := hs _ (List.getElem_mem hi)
  generalize ps[k.toNat] = p at ix hl
  have f := lc_intsF (i := 3) (c := lt1__law_same) (f := le0__law_same) (q := fun _ => false) (g := fun n => .int n) (e := [.b (ps.map tmZ), .b (ps.map tmZ), .v (.int k), .un]) rfl p.1 fun n _ => by
    constructor
    · simp [lt1__law_same, law_whole_int]
    · intro z; cases z
  have fl : (p.1.filter fun _ => false) = [] := by simp
  rw [fl, List.map_nil] at f
  have l2 : (p.1.map PyData.int).length ≤ LIM := by
    rw [List.length_map]
    exact Nat.le_trans hl (by decide)
  unfold tmZ keyD at *
  generalize p.1.map PyData.int = ds at *
  simp [fb2__law_same, ix, isiD, tyN, law_whole_int, f, l2, ho]
theorem law_same_ok {ps : List Pz} (hs : ∀ p ∈ ps, p.1.length ≤ 1000) (hl : ps.length ≤ 1000000) : m__law_same [.b (ps.map tmZ), .b (ps.map tmZ)] = .ok (.v (.bool true)) := by
  have i6 : i62 (((ps.map tmZ).length : Nat) : Int) := by
    rw [List.length_map]
    generalize hn : ((ps.length : Nat) : Int) = n
    unfold i62; omega
  obtain ⟨j, h⟩ := forL_same (b := fb2__law_same) (bd := bdN 2) PyData.int (fun x2 => [.b (ps.map tmZ), .b (ps.map tmZ), x2, .un]) (fun k => 0 ≤ k ∧ k < ps.length) (fun k x2 hk => by
    rcases same_turn ps .un hs hk with q | q
    · exact ⟨.v (.int k), _, rfl, q⟩
    · cases q) (upI 0 ps.length) .un fun k hk => by
    have := mem_upI.mp hk; omega
  have e := eqD_self (pu_tms ps)
  have tn : ((((ps.map tmZ).length : Nat) : Int)).toNat = ps.length := by rw [List.length_map]; omega
  generalize hd : ps.map tmZ = ds at *
  simp [m__law_same, b__law_same, isiD, tyN, if_pos i6, rgL_up, h, e, tn]
  try omega
end Lw
namespace Lw
open PySem L2 Q
/-! ### drawing cells -/
theorem cell_turn (x0 x1 x2 x5 : Sl) (o f t : Int) (ho : 0 ≤ o ∧ o < 2147483647) (ht : 0 ≤ t ∧ t < 6) :
    ∃ o', 0 ≤ o' ∧ o' < 2147483647 ∧ fb0__law_cell_at [x0, x1, x2, .v (.int o), .v (.int f), .v (.int t)] = .nx [x0, x1, x2, .v (.int o'), .v (.int (f * 2147483647 + o')), .v (.int t)] := by
  refine ⟨(o * o % 2147483629 * 69621 + t) % 2147483647, by omega, by omega, ?_⟩
  have m1 : mulOk o o := mulOk_l (by omega)
  have m2 : mulOk (o * o % 2147483629) 69621 := mulOk_r (by decide)
  have m3 : mulOk f 2147483647 := mulOk_r (by decide)
  simp [fb0__law_cell_at, mulD_ok m1, modD_pos, mulD_ok m2, mulD_ok m3]
theorem cell_loop (x0 x1 x2 : Sl) : ∀ (n k : Nat) (o f : Int) (x5 : Sl), k + n = 6 → 0 ≤ o ∧ o < 2147483647 → 0 ≤ f ∧ f < 2 ^ (31 * k) →
    ∃ o' f' x5', 0 ≤ f' ∧ f' < 2 ^ 186 ∧ forL (bdN 5) fb0__law_cell_at ((rgL 0 1 6).drop k) [x0, x1, x2, .v (.int o), .v (.int f), x5] = .nx [x0, x1, x2, .v (.int o'), .v (.int f'), x5']
  | 0, k, o, f, x5, hk, ho, hf => by
    have : k = 6 := by omega
    subst this
    exact ⟨o, f, x5, hf.1, hf.2, rfl⟩
  | n + 1, k, o, f, x5, hk, ho, hf => by
    have hd : (rgL 0 1 6).drop k = .int (k : Int) :: (rgL 0 1 6).drop (k + 1) := by
      have : k = 0 ∨ k = 1 ∨ k = 2 ∨ k = 3 ∨ k = 4 ∨ k = 5 := by omega
      rcases this with h | h | h | h | h | h <;> subst h <;> rfl
    obtain ⟨o', h1, h2, h3⟩ := cell_turn x0 x1 x2 x5 o f (k : Int) ho (by omega)
    have e : (2 : Int) ^ (31 * (k + 1)) = 2 ^ (31 * k) * 2147483648 := by rw [Nat.mul_add, Int.pow_add, show (2 : Int) ^ (31 * 1) = 2147483648 from by decide]
    obtain ⟨o2, f2, x2', h4, h5, h6⟩ := cell_loop x0 x1 x2 n (k + 1) o' (f * 2147483647 + o') (.v (.int (k : Int))) (by omega) ⟨h1, h2⟩ ⟨by omega, by rw [e]; omega⟩
    refine ⟨o2, f2, x2', h4, h5, ?_⟩
    rw [hd, forL_cons]
    simp [h3, h6]
theorem rg6 : (6 : Int).toNat = 6 := rfl
theorem at_ints {ns : List Int} {k : Int} (h0 : 0 ≤ k) (h : k < ns.length) : ∃ z, ixD (.list (ns.map PyData.int)) (.int k) = some (.v (.int z)) := by
  have hk : k.toNat < ns.length := by omega  -- q
  exact ⟨ns[k.toNat], ixD_l h0 (by rw [List.getElem?_map, List.getElem?_eq_getElem hk]; rfl)⟩
theorem cell_ok (ns : List Int) (k : Int) (hk : 0 ≤ k ∧ k < 1000000) : ∃ n, m__law_cell_at [.b (ns.map PyData.int), .v (.int k)] = .ok (.v (.int n)) ∧ 0 ≤ n ∧ n < 2 ^ 186 := by
  have m1 : ∀ c : Int, mulOk c 48271 := fun c => mulOk_r (by decide)
  have m2 : mulOk 7919 k := mulOk_l (by decide)
  have m3 : mulOk (7919 * k) k := mulOk_r (by omega)
  have m4 : mulOk 104729 k := mulOk_l (by decide)
  have key : ∀ c : Int, ∃ n, (0 ≤ n ∧ n < 2 ^ 186) ∧ ∃ x3 x5, forL (bdN 5) fb0__law_cell_at (rgL 0 1 6) [.b (ns.map PyData.int), .v (.int k), .v (.int c), .v (.int ((c * 48271 + 7919 * k * k + 104729 * k + 11) % 2147483647)), .v (.int 0), .un] = .nx [.b (ns.map PyData.int), .v (.int k), .v (.int c), x3, .v (.int n), x5] := fun c => by
    obtain ⟨o, f, x5, h1, h2, h3⟩ := cell_loop (.b (ns.map PyData.int)) (.v (.int k)) (.v (.int c)) 6 0 ((c * 48271 + 7919 * k * k + 104729 * k + 11) % 2147483647) 0 .un rfl (by omega) (by omega)
    exact ⟨f, ⟨h1, h2⟩, _, x5, h3⟩
  have i6 : i62 6 := ⟨by decide, by decide⟩
  by_cases h : k < ns.length
  · obtain ⟨z, hz⟩ := at_ints hk.1 h
    obtain ⟨n, hn, x3, x5, hf⟩ := key z
    refine ⟨n, ?_, hn⟩
    simp [m__law_cell_at, b__law_cell_at, hz, h, mulD_ok (m1 z), mulD_ok m2, mulD_ok m3, mulD_ok m4, modD_pos, if_pos i6, rg6, hf]
  · obtain ⟨n, hn, x3, x5, hf⟩ := key 0
    refine ⟨n, ?_, hn⟩
    simp [m__law_cell_at, b__law_cell_at, h, mulD_ok (m1 0), mulD_ok m2, mulD_ok m3, mulD_ok m4, modD_pos, if_pos i6, rg6]
    simp at hf
    simp [hf]
end Lw
namespace Lw
open PySem L2 Q
/-! ### k10: a drawn number -/
theorem number_ok (c : Int) (h : 0 ≤ c ∧ c < 2 ^ 190) : ∃ n, m__law_number [.v (.int c)] = .ok (.v (.int n)) ∧ n.natAbs < 2 ^ 190 := by
  have d7 : divOk 7 := by decide
  have d14 : divOk 14 := by decide
  have p5 : powOk 10 57 := by decide
  have p57 : powD (.int 10) (.int 57) = some (.v (.int 1000000000000000000000000000000000000000000000000000000000)) := by
    show (if powOk 10 57 then some (Vl.v (.int (10 ^ 57))) else none) = _
    rw [if_pos p5]
    rfl
  by_cases q0 : c % 7 = 0
  · have m1 : mulOk (c.fdiv 7 % 2) 2 := mulOk_r (by decide)
    have m2 : ∀ y : Int, mulOk (1 - c.fdiv 7 % 2 * 2) y := fun y => mulOk_l (by omega)
    refine ⟨(1 - c.fdiv 7 % 2 * 2) * (c.fdiv 14 % 1000000000000000000000000000000000000000000000000000000000), ?_, ?_⟩
    · simp [m__law_number, b__law_number, modD_pos, q0, divD_ok d7, divD_ok d14, mulD_ok m1, p57, mulD_ok (m2 _)]
    · have hb : 0 ≤ c.fdiv 14 % 1000000000000000000000000000000000000000000000000000000000 ∧ c.fdiv 14 % 1000000000000000000000000000000000000000000000000000000000 < 1000000000000000000000000000000000000000000000000000000000 := by omega
      generalize c.fdiv 14 % 1000000000000000000000000000000000000000000000000000000000 = y at *
      have : 1 - c.fdiv 7 % 2 * 2 = 1 ∨ 1 - c.fdiv 7 % 2 * 2 = -1 := by omega
      rcases this with e | e <;> rw [e] <;> omega
  by_cases q1 : c % 7 < 3
  · refine ⟨c.fdiv 7 % 3 - 1, ?_, by omega⟩
    simp [m__law_number, b__law_number, modD_pos, q0, q1, divD_ok d7]
  · refine ⟨c.fdiv 7 % 19 - 9, ?_, by omega⟩
    simp [m__law_number, b__law_number, modD_pos, q0, q1, divD_ok d7]
end Lw
namespace Lw
open PySem L2 Q
/-! ### drawing a ring -/
def cpB (n : Int) : Bool := (upI 2 30).any (hitB n)
theorem cp_prime {n : Int} (h2 : 2 ≤ n) (h3 : n ≤ 997) (h : cpB n = false) : Pri n := by
  rw [← pri_iff]
  unfold cpB at h
  simp [primeB, h2, h3, h]
theorem wc_prime (c n : Int) : wc2__law_prime [.v (.int c), .v (.int n), .un] = .ok (cpB n) [.v (.int c), .v (.int n), .un] := by
  have i2 : i62 2 ∧ i62 32 := ⟨⟨by decide, by decide⟩, ⟨by decide, by decide⟩⟩
  have f := lc_filter (i := 2) (c := lt1__law_prime) (q := hitB n) (e := [.v (.int c), .v (.int n), .un]) (by simp) rfl (upI 2 30) [] fun d hd => by
    have := mem_upI.mp hd
    by_cases h : d < n <;> by_cases h2 : n % d = 0 <;> simp [lt1__law_prime, hitB, h, h2, modD_pos (show 0 < d by omega)]
  have l : (upI 2 30).length ≤ LIM := by rw [len_upI]; decide
  have e : neD (.list (((upI 2 30).filter (hitB n)).map PyData.int)) (.list []) = some (.v (.bool (cpB n))) := by
    have := neD_pu (b := decide ((upI 2 30).filter (hitB n) = [])) (pu_list (n := 0) (pul_ints ((upI 2 30).filter (hitB n)))) (pu_list (n := 0) pul_nil) (by simp)
    rw [this]
    congr 3
    unfold cpB
    rw [Bool.eq_iff_iff]
    simp [List.filter_eq_nil_iff, List.any_eq_true]
  generalize (upI 2 30).filter (hitB n) = fs at *
  simp [wc2__law_prime, if_pos i2, rgL_up, rg30, l, le0__law_prime, f, e]
/-- from n on there is a prime, up to 997: this many steps away at most -/
def nxtN : Nat → Nat → Option Nat
  | 0, _ => none
  | k + 1, n => if cpB (n : Int) then nxtN k (n + 1) else some n
theorem loop_prime (c : Int) : ∀ (k n m : Nat), nxtN k n = some m → whileS wc2__law_prime wb3__law_prime [.v (.int c), .v (.int n), .un] = .nx [.v (.int c), .v (.int m), .un] ∧ cpB (m : Int) = false ∧ n ≤ m
  | 0, n, m, h => by simp [nxtN] at h
  | k + 1, n, m, h => by
    unfold nxtN at h
    by_cases q : cpB (n : Int) = true
    · rw [if_pos q] at h
      obtain ⟨h1, h2, h3⟩ := loop_prime c k (n + 1) m h
      refine ⟨?_, h2, by omega⟩
      rw [while_turn]
      have ec : ((n + 1 : Nat) : Int) = (n : Int) + 1 := by omega
      rw [ec] at h1
      have hb : wb3__law_prime [.v (.int c), .v (.int n), .un] = .nx [.v (.int c), .v (.int ((n : Int) + 1)), .un] := by simp [wb3__law_prime]
      simp [wc_prime, q, hb, h1]
    · rw [if_neg q] at h
      cases h
      refine ⟨?_, by simpa using q, Nat.le_refl _⟩
      rw [while_turn]
      simp [wc_prime, q]
theorem nxt_all : ∀ n < 996, (match nxtN 40 (n + 2) with | some m => decide (m ≤ 997) | none => false) = true := by decide +kernel
theorem law_prime_ok (c : Int) (h : 0 ≤ c) : ∃ p, m__law_prime [.v (.int c)] = .ok (.v (.int p)) ∧ Pri p := by
  have d2 : divOk 2 := by decide
  have e2 : c.fdiv 2 = c / 2 := Int.fdiv_eq_ediv_of_nonneg c (by decide)
  by_cases q : c % 2 = 0
  · have tab : ∃ n, ([2, 3, 5, 7, 11, 13] : List Int)[(c / 2 % 6).toNat]? = some n := ⟨_, List.getElem?_eq_getElem (by simp; omega)⟩
    obtain ⟨p, hp⟩ := tab
    have ip : ixD (.list ([2, 3, 5, 7, 11, 13].map PyData.int)) (.int (c / 2 % 6)) = some (.v (.int p)) := ixD_l (by omega) (by rw [List.getElem?_map, hp]; rfl)
    simp only [List.map_cons, List.map_nil] at ip
    refine ⟨p, by simp [m__law_prime, b__law_prime, modD_pos, q, divD_ok d2, e2, ip], ?_⟩
    have hm := List.mem_of_getElem? hp
    rw [← pri_iff]
    exact (by decide : ∀ x ∈ ([2, 3, 5, 7, 11, 13] : List Int), primeB x = true) p hm
  · have n2 := nxt_all (c / 2 % 996).toNat (by omega)
    cases hn : nxtN 40 ((c / 2 % 996).toNat + 2) with
    | none => rw [hn] at n2; cases n2
    | some m =>
      rw [hn] at n2
      obtain ⟨h1, h2, h3⟩ := loop_prime c 40 _ m hn
      have e : ((((c / 2 % 996).toNat + 2 : Nat)) : Int) = 2 + c / 2 % 996 := by omega
      rw [e] at h1
      refine ⟨m, by simp [m__law_prime, b__law_prime, modD_pos, q, divD_ok d2, e2, h1], ?_⟩
      exact cp_prime (by omega) (by have := of_decide_eq_true n2; omega) h2
theorem law_ring_ok (c : Int) (h : 0 ≤ c) : ∃ p, m__law_ring [.v (.int c)] = .ok (.v (.int p)) ∧ (p = 0 ∨ Pri p) := by
  have d3 : divOk 3 := by decide
  have e3 : c.fdiv 3 = c / 3 := Int.fdiv_eq_ediv_of_nonneg c (by decide)
  by_cases q : c % 3 = 0
  · exact ⟨0, by simp [m__law_ring, b__law_ring, modD_pos, q], .inl rfl⟩
  · obtain ⟨p, hp, pp⟩ := law_prime_ok (c / 3) (by omega)
    exact ⟨p, by simp [m__law_ring, b__law_ring, modD_pos, q, divD_ok d3, e3, hp], .inr pp⟩
end Lw
namespace Lw
open PySem L2 Q
/-! ### drawing terms -/
def ExOk (k : List Int) : Prop := ∀ x ∈ k, 0 ≤ x ∧ x ≤ 99
theorem ex_turn (c rest w i : Int) (m x6 : Sl) (k : List Int) (hc : 0 ≤ c) (hr : 0 ≤ rest) (hw : w = 4 ∨ w = 100) (hl : k.length < 1000) : ∃ x, (0 ≤ x ∧ x ≤ 99) ∧
    fb0__law_exponents [.v (.int c), m, .o (k.map PyData.int), .v (.int rest), .v (.int w), .v (.int i), x6] = .nx [.v (.int c), m, .o ((k ++ [x]).map PyData.int), .v (.int (rest / w)), .v (.int w), .v (.int i), .v (.int x)] := by
  have d1 : divOk 256 := by decide
  have d2 : divOk 2048 := by decide
  have e1 : c.fdiv 256 = c / 256 := Int.fdiv_eq_ediv_of_nonneg c (by decide)
  have e2 : c.fdiv 2048 = c / 2048 := Int.fdiv_eq_ediv_of_nonneg c (by decide)
  have la : (k.map PyData.int).length < LIM := by
    rw [List.length_map]
    exact Nat.lt_trans hl (by decide)
  have ap : ∀ x : Int, (k ++ [x]).map PyData.int = k.map PyData.int ++ [.int x] := fun x => by rw [List.map_append]; rfl
  rcases hw with hw | hw
  · subst hw
    have dw : divOk 4 := by decide
    have ew : rest.fdiv 4 = rest / 4 := Int.fdiv_eq_ediv_of_nonneg rest (by decide)
    by_cases h : c / 256 % 8 = i
    · refine ⟨c / 2048 % 100, by omega, ?_⟩
      rw [ap]
      generalize k.map PyData.int = ds at la
      simp [fb0__law_exponents, modD_pos, divD_ok d1, divD_ok d2, divD_ok dw, e1, e2, ew, h, la]
    · refine ⟨rest % 4, by omega, ?_⟩
      rw [ap]
      generalize k.map PyData.int = ds at la
      simp [fb0__law_exponents, modD_pos, divD_ok d1, divD_ok d2, divD_ok dw, e1, e2, ew, h, la]
  · subst hw
    have dw : divOk 100 := by decide
    have ew : rest.fdiv 100 = rest / 100 := Int.fdiv_eq_ediv_of_nonneg rest (by decide)
    refine ⟨rest % 100, by omega, ?_⟩
    rw [ap]
    generalize k.map PyData.int = ds at la
    simp [fb0__law_exponents, modD_pos, divD_ok dw, ew, la]
theorem ex_loop (c w : Int) (m : Sl) (hc : 0 ≤ c) (hw : w = 4 ∨ w = 100) : ∀ (n : Nat) (i : Int) (k : List Int) (rest : Int) (x5 x6 : Sl), 0 ≤ rest → ExOk k → k.length + n ≤ 1000 →
    ∃ k' rest' x5' x6', k'.length = k.length + n ∧ ExOk k' ∧ forL (bdN 5) fb0__law_exponents ((upI i n).map PyData.int) [.v (.int c), m, .o (k.map PyData.int), .v (.int rest), .v (.int w), x5, x6] = .nx [.v (.int c), m, .o (k'.map PyData.int), .v (.int rest'), .v (.int w), x5', x6']
  | 0, i, k, rest, x5, x6, _, hk, _ => ⟨k, rest, x5, x6, rfl, hk, rfl⟩
  | n + 1, i, k, rest, x5, x6, hr, hk, hl => by
    obtain ⟨x, hx, hb⟩ := ex_turn c rest w i m x6 k hc hr hw (by omega)
    have hr2 : 0 ≤ rest / w := by
      rcases hw with z | z <;> subst z <;> omega
    obtain ⟨k', r', y5, y6, h1, h2, h3⟩ := ex_loop c w m hc hw n (i + 1) (k ++ [x]) (rest / w) (.v (.int i)) (.v (.int x)) hr2 (fun y hy => by
      rcases List.mem_append.mp hy with z | z
      · exact hk y z
      · rw [List.mem_singleton.mp z]; exact hx) (by rw [List.length_append, List.length_singleton]; omega)
    refine ⟨k', r', y5, y6, by rw [h1, List.length_append, List.length_singleton]; omega, h2, ?_⟩
    rw [upI, List.map_cons, forL_cons]
    simp only [bdN_s, List.set, hb]
    exact h3
theorem exponents_ok (c m : Int) (hc : 0 ≤ c) (hm : 1 ≤ m ∧ m ≤ 4) : ∃ k : List Int, m__law_exponents [.v (.int c), .v (.int m)] = .ok (.v (keyD k)) ∧ (k.length : Int) = m ∧ ExOk k := by
  have d3 : divOk 3 := by decide
  have e3 : c.fdiv 3 = c / 3 := Int.fdiv_eq_ediv_of_nonneg c (by decide)
  have i6 : i62 m := by unfold i62; omega
  have key : ∀ rest w : Int, 0 ≤ rest → (w = 4 ∨ w = 100) → ∃ k rest' x5' x6', (k.length : Int) = m ∧ ExOk k ∧ forS (itR1 (varE 1)) (bdN 5) fb0__law_exponents [.v (.int c), .v (.int m), .o [], .v (.int rest), .v (.int w), .un, .un] = .nx [.v (.int c), .v (.int m), .o (k.map PyData.int), .v (.int rest'), .v (.int w), x5', x6'] := fun rest w hr hw => by
    obtain ⟨k, r', y5, y6, h1, h2, h3⟩ := ex_loop c w (.v (.int m)) hc hw m.toNat 0 [] rest .un .un hr (fun _ h => nomatch h) (by simp; omega)
    refine ⟨k, r', y5, y6, by simp at h1; omega, h2, ?_⟩
    have r : itR1 (varE 1) [.v (.int c), .v (.int m), .o [], .v (.int rest), .v (.int w), .un, .un] = .ok ((upI 0 m.toNat).map PyData.int) [.v (.int c), .v (.int m), .o [], .v (.int rest), .v (.int w), .un, .un] := by
      rw [itR1_s]
      simp only [bnd_s, varE_s, gt_1, toD_v]
      rw [if_pos i6, rgL_up]
    rw [forS_s, r]
    exact h3
  by_cases q : c % 3 = 0
  · obtain ⟨k, r', y5, y6, h1, h2, h3⟩ := key (c / 3) 100 (by omega) (.inr rfl)
    refine ⟨k, ?_, h1, h2⟩
    apply run_rt
    unfold b__law_exponents
    refine nxt (e1 := [.v (.int c), .v (.int m), .o [], .un, .un, .un, .un]) (by simp) ?_
    refine nxt (e1 := [.v (.int c), .v (.int m), .o [], .v (.int c), .un, .un, .un]) (by simp) ?_
    refine nxt (e1 := [.v (.int c), .v (.int m), .o [], .v (.int c), .v (.int 4), .un, .un]) (by simp) ?_
    refine nxt (e1 := [.v (.int c), .v (.int m), .o [], .v (.int (c / 3)), .v (.int 100), .un, .un]) (by simp [modD_pos, q, divD_ok d3, e3]) ?_
    refine nxt h3 (by simp [keyD])
  · obtain ⟨k, r', y5, y6, h1, h2, h3⟩ := key c 4 hc (.inl rfl)
    refine ⟨k, ?_, h1, h2⟩
    apply run_rt
    unfold b__law_exponents
    refine nxt (e1 := [.v (.int c), .v (.int m), .o [], .un, .un, .un, .un]) (by simp) ?_
    refine nxt (e1 := [.v (.int c), .v (.int m), .o [], .v (.int c), .un, .un, .un]) (by simp) ?_
    refine nxt (e1 := [.v (.int c), .v (.int m), .o [], .v (.int c), .v (.int 4), .un, .un]) (by simp) ?_
    refine nxt (e1 := [.v (.int c), .v (.int m), .o [], .v (.int c), .v (.int 4), .un, .un]) (by simp [modD_pos, q]) ?_
    refine nxt h3 (by simp [keyD])
end Lw
namespace Lw
open PySem L2 Q
/-! ### drawing pairs -/
structure TmOk (m : Int) (B : Nat) (p : Pz) : Prop where
  l : (p.1.length : Int) = m
  e : ExOk p.1
  n : p.2.natAbs < 2 ^ B
theorem TmOk.ne {m : Int} {B : Nat} {p : Pz} (h : TmOk m B p) (hm : 1 ≤ m) : p.1 ≠ [] := fun z => by
  have := h.l
  rw [z] at this
  simp at this
  omega
theorem pairs_turn (ns : List Int) (place m k : Int) (sz x6 : Sl) (ps : List Pz) (hp : 0 ≤ place ∧ place ≤ 1000) (hm : 1 ≤ m ∧ m ≤ 4) (hk : 0 ≤ k ∧ k ≤ 1000) (hl : ps.length ≤ 1000) :
    ∃ p, TmOk m 190 p ∧ ∃ x6', fb0__law_pairs [.b (ns.map PyData.int), .v (.int place), .v (.int m), sz, .o (ps.map tmZ), .v (.int k), x6] = .nx [.b (ns.map PyData.int), .v (.int place), .v (.int m), sz, .o ((ps ++ [p]).map tmZ), .v (.int k), x6'] := by
  obtain ⟨c, h1, c1⟩ := cell_ok ns (place + 2 * k) (by omega)
  obtain ⟨c2, h2, c3⟩ := cell_ok ns (place + 2 * k + 1) (by omega)
  obtain ⟨e, h3, e1, e2⟩ := exponents_ok c m c1.1 hm
  obtain ⟨n, h4, n1⟩ := number_ok c2 (by omega)
  have mm : mulOk 2 k := mulOk_l (by decide)
  have la : (ps.map tmZ).length < LIM := by
    rw [List.length_map]
    exact Nat.lt_of_le_of_lt hl (by decide)
  refine ⟨(e, n), ⟨e1, e2, n1⟩, .v (keyD e), ?_⟩
  have ap : (ps ++ [(e, n)]).map tmZ = ps.map tmZ ++ [.tuple [keyD e, .int n]] := by rw [List.map_append]; rfl
  rw [ap]
  generalize ps.map tmZ = ds at la
  simp [fb0__law_pairs, mulD_ok mm, h1, h2, h3, h4, la]
theorem pairs_loop (ns : List Int) (place m : Int) (sz : Sl) (hp : 0 ≤ place ∧ place ≤ 1000) (hm : 1 ≤ m ∧ m ≤ 4) : ∀ (n : Nat) (i : Int) (ps : List Pz) (x5 x6 : Sl), 0 ≤ i ∧ i + n ≤ 1000 → ps.length + n ≤ 1000 → (∀ p ∈ ps, TmOk m 190 p) →
    ∃ (ps' : List Pz) (x5' x6' : Sl), ps'.length = ps.length + n ∧ (∀ p ∈ ps', TmOk m 190 p) ∧ forL (bdN 5) fb0__law_pairs ((upI i n).map PyData.int) [.b (ns.map PyData.int), .v (.int place), .v (.int m), sz, .o (ps.map tmZ), x5, x6] = .nx [.b (ns.map PyData.int), .v (.int place), .v (.int m), sz, .o (ps'.map tmZ), x5', x6']
  | 0, i, ps, x5, x6, _, _, h => ⟨ps, x5, x6, rfl, h, rfl⟩
  | n + 1, i, ps, x5, x6, hi, hl, h => by
    obtain ⟨p, hp1, y, hb⟩ := pairs_turn ns place m i sz x6 ps hp hm (by omega) (by omega)
    obtain ⟨ps', y5, y6, h1, h2, h3⟩ := pairs_loop ns place m sz hp hm n (i + 1) (ps ++ [p]) (.v (.int i)) y (by omega) (by rw [List.length_append, List.length_singleton]; omega) (fun q hq => by
      rcases List.mem_append.mp hq with z | z
      · exact h q z
      · rw [List.mem_singleton.mp z]; exact hp1)
    refine ⟨ps', y5, y6, by rw [h1, List.length_append, List.length_singleton]; omega, h2, ?_⟩
    rw [upI, List.map_cons, forL_cons]
    simp only [bdN_s, List.set, hb]
    exact h3
theorem pairs_ok (ns : List Int) (place m s : Int) (hp : 0 ≤ place ∧ place ≤ 1000) (hm : 1 ≤ m ∧ m ≤ 4) (hs : 0 ≤ s ∧ s ≤ 900) : ∃ ps : List Pz, m__law_pairs [.b (ns.map PyData.int), .v (.int place), .v (.int m), .v (.int s)] = .ok (.f (ps.map tmZ)) ∧ (ps.length : Int) = s ∧ ∀ p ∈ ps, TmOk m 190 p := by
  obtain ⟨ps, y5, y6, h1, h2, h3⟩ := pairs_loop ns place m (.v (.int s)) hp hm s.toNat 0 [] .un .un (by omega) (by simp; omega) (fun _ h => nomatch h)
  have i6 : i62 s := by unfold i62; omega
  refine ⟨ps, ?_, by simp at h1; omega, h2⟩
  have r : itR1 (varE 3) [.b (ns.map PyData.int), .v (.int place), .v (.int m), .v (.int s), .o [], .un, .un] = .ok ((upI 0 s.toNat).map PyData.int) [.b (ns.map PyData.int), .v (.int place), .v (.int m), .v (.int s), .o [], .un, .un] := by
    rw [itR1_s]
    simp only [bnd_s, varE_s, gt_S, gt_0, toD_v]
    rw [if_pos i6, rgL_up]
  apply run_rt
  unfold b__law_pairs
  refine nxt (e1 := [.b (ns.map PyData.int), .v (.int place), .v (.int m), .v (.int s), .o [], .un, .un]) (by simp) ?_
  refine nxt (e1 := [.b (ns.map PyData.int), .v (.int place), .v (.int m), .v (.int s), .o (ps.map tmZ), y5, y6]) ?_ (by simp)
  rw [forS_s, r]
  exact h3
end Lw
namespace Lw
open PySem L2 Q
/-! ### gathered, the law's -/
theorem law_settled_ok {p n : Int} (h : 0 ≤ p) : m__law_settled [.v (.int p), .v (.int n)] = .ok (.v (.int (inR p n))) := by
  by_cases q : p = 0
  · simp [m__law_settled, b__law_settled, q, inR]
  · have : 0 < p := by omega
    simp [m__law_settled, b__law_settled, q, inR, modD_pos this]
theorem lg_loop1 (a b x4 x5 : Sl) : ∀ (ps kvs : List Pz) (x3 : Sl), kvs.length + ps.length ≤ 1000000 → ∃ x3', forL (bdN 3) fb0__law_gathered (ps.map tmZ) [a, b, .t (kvs.map tz), x3, x4, x5] = .nx [a, b, .t ((ps.foldl addZ kvs).map tz), x3', x4, x5]
  | [], kvs, x3, _ => ⟨x3, rfl⟩
  | p :: ps, kvs, x3, hl => by
    have l1 := len_putZ kvs p.1 ((getZ kvs p.1).getD 0 + p.2)
    rw [List.length_cons] at hl
    obtain ⟨x3', ih⟩ := lg_loop1 a b x4 x5 ps (addZ kvs p) (.v (tmZ p)) (by unfold addZ; omega)
    refine ⟨x3', ?_⟩
    have hb : fb0__law_gathered [a, b, .t (kvs.map tz), .v (tmZ p), x4, x5] = .nx [a, b, .t ((addZ kvs p).map tz), .v (tmZ p), x4, x5] := by
      have g := getK_ok (e := [a, b, .t (kvs.map tz), .v (tmZ p), x4, x5]) (i := 2) p.1 rfl
      have q := putT_ok (e := [a, b, .t (kvs.map tz), .v (tmZ p), x4, x5]) (i := 2) p.1 ((getZ kvs p.1).getD 0 + p.2) rfl (by omega)
      unfold addZ
      unfold tmZ at g q ⊢
      simp [fb0__law_gathered, g, q]
    rw [List.map_cons, forL_cons]
    simp only [bdN_s, List.set, hb]
    exact ih
theorem lg_loop2 {r : Int} (hr : 0 ≤ r) (b x3 : Sl) (kvs : List Pz) : ∀ (ks : List (List Int)) (acc : List D) (x5 : Sl), (∀ k ∈ ks, k ∈ kvs.map (·.1)) → acc.length + ks.length ≤ 1000000 →
    ∃ x5', forL (bdN 5) fb1__law_gathered (ks.map keyD) [.v (.int r), b, .t (kvs.map tz), x3, .o acc, x5] = .nx [.v (.int r), b, .t (kvs.map tz), x3, .o (acc ++ (ks.filterMap (pick r kvs)).map tmZ), x5']
  | [], acc, x5, _, _ => ⟨x5, by simp⟩
  | k :: ks, acc, x5, hm, hl => by
    rw [List.length_cons] at hl
    obtain ⟨v, hv⟩ := getZ_mem (hm k List.mem_cons_self)
    have it := itemK_ok (e := [.v (.int r), b, .t (kvs.map tz), x3, .o acc, .v (keyD k)]) (i := 2) (k := k) rfl hv
    have ir := law_settled_ok (p := r) (n := v) hr
    have la : acc.length < LIM := Nat.lt_of_le_of_lt (show acc.length ≤ 1000000 by omega) (by decide)
    rw [List.map_cons, forL_cons]
    by_cases z : inR r v = 0
    · obtain ⟨x5', ih⟩ := lg_loop2 hr b x3 kvs ks acc (.v (keyD k)) (fun q hq => hm q (List.mem_cons_of_mem _ hq)) (by omega)
      refine ⟨x5', ?_⟩
      have pk : pick r kvs k = none := by unfold pick; rw [hv]; simp [z]
      rw [z] at ir
      have hb : fb1__law_gathered [.v (.int r), b, .t (kvs.map tz), x3, .o acc, .v (keyD k)] = .nx [.v (.int r), b, .t (kvs.map tz), x3, .o acc, .v (keyD k)] := by
        simp [fb1__law_gathered, it, ir]
      rw [List.filterMap_cons_none pk]
      simp only [bdN_s, List.set, hb]
      exact ih
    · obtain ⟨x5', ih⟩ := lg_loop2 hr b x3 kvs ks (acc ++ [tmZ (k, inR r v)]) (.v (keyD k)) (fun q hq => hm q (List.mem_cons_of_mem _ hq)) (by rw [List.length_append, List.length_singleton]; omega)
      refine ⟨x5', ?_⟩
      have pk : pick r kvs k = some (k, inR r v) := by unfold pick; rw [hv]; simp [z]
      have hb : fb1__law_gathered [.v (.int r), b, .t (kvs.map tz), x3, .o acc, .v (keyD k)] = .nx [.v (.int r), b, .t (kvs.map tz), x3, .o (acc ++ [tmZ (k, inR r v)]), .v (keyD k)] := by
        simp [fb1__law_gathered, it, ir, z, la, tmZ]
      rw [List.filterMap_cons_some pk, List.map_cons]
      simp only [bdN_s, List.set, hb]
      rw [ih, List.append_assoc]
      rfl
theorem law_gathered_ok {r : Int} (hr : 0 ≤ r) {ps : List Pz} (hl : ps.length ≤ 1000000) (hn : ∀ p ∈ ps, p.1 ≠ []) : m__law_gathered [.v (.int r), .b (ps.map tmZ)] = .ok (.f ((gat r ps).map tmZ)) := by
  obtain ⟨x3, l1⟩ := lg_loop1 (.v (.int r)) (.b (ps.map tmZ)) .un .un ps [] .un (by simpa using hl)
  have hd := dct_ne ps [] hn (fun _ h => nomatch h)
  have ld := dct_len ps []
  rw [gat_eq]
  have e : ps.foldl addZ [] = dctZ ps := rfl
  rw [e] at l1 hd ld
  generalize dctZ ps = kvs at l1 hd ld
  have hm : ∀ k ∈ srtF (kvs.map (·.1)), k ∈ kvs.map (·.1) := fun k hk => (srtF_perm _).mem_iff.mp hk
  have lk : (srtF (kvs.map (·.1))).length ≤ 1000000 := by
    rw [(srtF_perm _).length_eq, List.length_map]
    simp at ld
    omega
  obtain ⟨y5, l2⟩ := lg_loop2 hr (.b (ps.map tmZ)) x3 kvs (srtF (kvs.map (·.1))) [] .un hm (by simpa using lk)
  have so := srt_ok (env := [.v (.int r), .b (ps.map tmZ), .t (kvs.map tz), x3, .o [], .un]) (i := 2) (kvs := kvs) rfl hd
  generalize (srtF (kvs.map (·.1))).filterMap (pick r kvs) = gs at l2
  generalize (srtF (kvs.map (·.1))).map keyD = kd at l2 so
  have nl : (List.map tz []) = ([] : List (List Int × D)) := rfl
  rw [nl] at l1
  apply run_rt
  unfold b__law_gathered
  refine nxt (e1 := [.v (.int r), .b (ps.map tmZ), .t [], .un, .un, .un]) (by simp) ?_
  refine nxt (e1 := [.v (.int r), .b (ps.map tmZ), .t (kvs.map tz), x3, .un, .un]) (by simp [l1]) ?_
  refine nxt (e1 := [.v (.int r), .b (ps.map tmZ), .t (kvs.map tz), x3, .o [], .un]) (by simp) ?_
  refine nxt (e1 := [.v (.int r), .b (ps.map tmZ), .t (kvs.map tz), x3, .o ([] ++ gs.map tmZ), y5]) ?_ (by simp)
  have iq : itQ (srtE 2) [.v (.int r), .b (ps.map tmZ), .t (kvs.map tz), x3, .o [], .un] = .ok kd [.v (.int r), .b (ps.map tmZ), .t (kvs.map tz), x3, .o [], .un] := by
    rw [itQ_s, so]
  rw [forS_s, iq]
  exact l2
end Lw
namespace Lw
open PySem L2 Q
theorem inR_b {r n : Int} (hr : r = 0 ∨ Pri r) {b : Nat} (h : n.natAbs < 2 ^ b) (hb : 10 ≤ b) : (inR r n).natAbs < 2 ^ b := by
  unfold inR
  rcases hr with z | z
  · rw [if_pos z]; exact h
  · have h1 := z.1
    have h2 := z.2.1
    rw [if_neg (by omega)]
    have e : (2 : Nat) ^ 10 ≤ 2 ^ b := Nat.pow_le_pow_right (by decide) hb
    have h3 : (2 : Nat) ^ 10 = 1024 := by decide
    have h4 := Int.emod_nonneg n (show r ≠ 0 by omega)
    have h5 := Int.emod_lt_of_pos n (show 0 < r by omega)
    omega
theorem mul_b {m n : Int} {a b : Nat} (h1 : m.natAbs < 2 ^ a) (h2 : n.natAbs < 2 ^ b) : (m * n).natAbs < 2 ^ (a + b) := by
  rw [Int.natAbs_mul, Nat.pow_add]  -- q
  exact Nat.mul_lt_mul'' h1 h2
/-- what a sum's terms are like, by what was gathered -/
theorem gat_tm {r m : Int} (hr : r = 0 ∨ Pri r) {B c : Nat} {ps : List Pz} (h : ∀ p ∈ ps, TmOk m B p) (hc : ps.length < 2 ^ c) (hb : 10 ≤ c + B) : ∀ p ∈ gat r ps, TmOk m (c + B) p := fun p hp => by
  obtain ⟨h1, h2⟩ := mem_gat.mp hp
  obtain ⟨q, hq, e⟩ := List.mem_map.mp (gat_key hp)
  have hq2 := h q hq
  refine ⟨by rw [← e]; exact hq2.l, by rw [← e]; exact hq2.e, ?_⟩
  rw [h1]
  refine inR_b hr ?_ hb
  have cb := coef_b (k := p.1) (B := 2 ^ B) fun q hq => (h q hq).n
  rw [Nat.pow_add]
  exact Nat.lt_of_le_of_lt cb (Nat.mul_lt_mul_of_pos_right hc (Nat.two_pow_pos B))
/-- a comprehension that draws terms -/
theorem tms_of {m : Int} {B : Nat} {ys : List D} (h : ∀ y ∈ ys, ∃ p, y = tmZ p ∧ TmOk m B p) : ∃ ps : List Pz, ys = ps.map tmZ ∧ ∀ p ∈ ps, TmOk m B p := of_map h
end Lw
namespace Lw
open PySem L2 Q SX
/-! ### texts by lists of signs -/
def sD (l : List Nat) : D := .str (S l)
/-- signs of eight bits -/
def As (l : List Nat) : Prop := ∀ c ∈ l, c < 256
theorem pu_str {n : Nat} {a : List Nat} (h : As a) : Pu n (sD a) := ⟨by
  have : PyData.strOk (S a) = true := by
    show (S a).cps.all (· < 0x110000) = true
    rw [Array.all_eq_true_iff_forall_mem]
    intro c hc
    have := h c (by simpa using hc)
    exact decide_eq_true (by omega)  -- q
  unfold sD
  simp only [PyData.canLay0]
  exact this, by unfold sD; simp [PyData.depth], by unfold sD; simp [nbD]⟩
theorem As.app {a b : List Nat} (h : As a) (h' : As b) : As (a ++ b) := fun c hc => (List.mem_append.mp hc).elim (h c) (h' c)
theorem As.cons {c : Nat} {a : List Nat} (h : c < 256) (h' : As a) : As (c :: a) := fun d hd => (List.mem_cons.mp hd).elim (fun e => by rw [e]; exact h) (h' d)
theorem as_nil : As [] := fun _ h => nomatch h
theorem As.sub {a b : List Nat} (h : As a) (hs : ∀ c ∈ b, c ∈ a) : As b := fun c hc => h c (hs c hc)
theorem as_by {a : List Nat} (h : a.all (fun c => decide (c < 256)) = true) : As a := fun c hc => of_decide_eq_true (List.all_eq_true.mp h c hc)
theorem addS {a b : List Nat} (h : a.length + b.length ≤ 12000000) : addD (sD a) (sD b) = some (.v (sD (a ++ b))) := by
  show (if (S a).length + (S b).length ≤ LIM then some (Vl.v (.str (S a ++ S b))) else none) = _
  rw [if_pos (by rw [S_len, S_len]; exact Nat.le_trans h (by decide)), S_cat]; rfl
theorem eqS {a b : List Nat} (ha : As a) (hb : As b) : eqD (sD a) (sD b) = some (.v (.bool (decide (a = b)))) := eqD_pu (n := 0) (m := 0) (pu_str ha) (pu_str hb) (by
  rw [decide_eq_true_eq]
  exact ⟨fun h => by rw [h], fun h => S_inj (by injection h)⟩)
theorem neS {a b : List Nat} (ha : As a) (hb : As b) : neD (sD a) (sD b) = some (.v (.bool (!decide (a = b)))) := neD_pu (n := 0) (m := 0) (pu_str ha) (pu_str hb) (by
  rw [decide_eq_true_eq]
  exact ⟨fun h => by rw [h], fun h => S_inj (by injection h)⟩)
theorem lenS {a : List Nat} (h : a.length ≤ 12000000) : lenD [sD a] = some (.v (.int a.length)) := by
  show (if (S a).length ≤ LIM then some (Vl.v (.int (S a).length)) else none) = _
  rw [S_len, if_pos (Nat.le_trans h (by decide))]
theorem ixS {a : List Nat} {k c : Nat} (hl : a.length ≤ 12000000) (h : a[k]? = some c) : ixD (sD a) (.int (k : Int)) = some (.v (sD [c])) := by
  show (if (S a).length ≤ LIM then (atI (S a).cps.toList (k : Int)).map fun c => Vl.v (.str ⟨#[c]⟩) else none) = _
  rw [S_len, if_pos (Nat.le_trans hl (by decide))]
  have : atI (S a).cps.toList (k : Int) = some c := by
    have e : (S a).cps.toList = a := rfl
    rw [e]
    unfold atI
    rw [ixN_in (List.getElem?_eq_some_iff.mp h).1]
    exact h
  rw [this]; rfl
theorem toS {a : List Nat} {k : Nat} (hl : a.length ≤ 12000000) : sliD (sD a) none (some (k : Int)) = some (.v (sD (a.take k))) := by
  show (if (S a).length ≤ LIM then some (Vl.v (.str (cutS (S a) none (some (k : Int))))) else none) = _
  rw [S_len, if_pos (Nat.le_trans hl (by decide)), C8.cutS_slice, slice_to (by omega), Int.toNat_natCast]; rfl
theorem fromS {a : List Nat} {k : Nat} (hl : a.length ≤ 12000000) : sliD (sD a) (some (k : Int)) none = some (.v (sD (a.drop k))) := by
  show (if (S a).length ≤ LIM then some (Vl.v (.str (cutS (S a) (some (k : Int)) none))) else none) = _
  rw [S_len, if_pos (Nat.le_trans hl (by decide)), C8.cutS_slice, slice_from (by omega), Int.toNat_natCast]; rfl
theorem inS {a : List Nat} {c : Nat} : inD (sD [c]) (sD a) = some (.v (.bool (decide (c ∈ a)))) := by
  show some (Vl.v (.bool (!(Builtin.Str.occurrences (S a) (S [c]) 0 (S a).length 1).isEmpty))) = _
  rw [in_one]
theorem ninS {a : List Nat} {c : Nat} : ninD (sD [c]) (sD a) = some (.v (.bool (!decide (c ∈ a)))) := by
  show some (Vl.v (.bool (!(!(Builtin.Str.occurrences (S a) (S [c]) 0 (S a).length 1).isEmpty)))) = _
  rw [in_one]
theorem ninS0 {a : List Nat} : ninD (sD []) (sD a) = some (.v (.bool false)) := by
  show some (Vl.v (.bool (!(!(Builtin.Str.occurrences (S a) (S []) 0 (S a).length 1).isEmpty)))) = _
  have : (!(Builtin.Str.occurrences (S a) (S []) 0 (S a).length 1).isEmpty) = true := (PySem.StrLaws.found_iff (S a) (S [])).mpr ⟨0, by rw [S_len]; exact Nat.zero_le _, by simp [Builtin.Str.subAt, Str.length]⟩
  rw [this]; rfl
theorem strN {n : Nat} (h : n < 2 ^ 1900) : strD [.int (n : Int)] = some (.v (sD (TL.numL n))) := by
  have : (n : Int).natAbs.log2 < 1920 := by
    rw [Int.natAbs_natCast]
    exact Nat.lt_trans (log2_lt h (by decide)) (by decide)
  rw [strD_i this]
  show some (Vl.v (.str (Str.ofString (toString ((n : Nat) : Int))))) = _
  rw [num_S]; rfl
theorem joinS {a : List Nat} {ys : List (List Nat)} {e : En} (h : (ys.map List.length).sum + ys.length * a.length ≤ 12000000) : joinB (S a) (.list (ys.map sD)) e = .ok (.v (sD (TL.joinL a ys))) e := by
  have em : ys.map sD = (ys.map S).map PyData.str := by rw [List.map_map]; rfl
  have el : (ys.map S).map Str.length = ys.map List.length := by
    rw [List.map_map]
    exact List.map_congr_left fun y _ => S_len y
  rw [em, joinB_s (by rw [el, List.length_map, S_len]; exact Nat.le_trans h (by decide)), join_S]; rfl
/-! letters, terms -/
def letL : List Nat := [120, 121, 122, 119]
def xL (k : Nat) : Nat := letL.getD k 0
def wordL (k : Nat) (e : Int) : List (List Nat) := if e = 1 then [[xL k]] else if e > 1 then [xL k :: 94 :: TL.numL e.toNat] else []
def lettersL (e : List Int) : List (List Nat) := (List.range e.length).flatMap fun k => wordL k (at0 e k)
def wordsL (e : List Int) (n : Nat) : List (List Nat) := if n ≠ 1 ∨ lettersL e = [] then TL.numL n :: lettersL e else lettersL e
def termL (e : List Int) (n : Nat) : List Nat := TL.joinL [42] (wordsL e n)
theorem xyzw_S : ("xyzw" : Str) = S letL := by rfl
theorem x_at {k : Nat} (h : k < 4) : ixD (.str "xyzw") (.int (k : Int)) = some (.v (sD [xL k])) := by
  rw [xyzw_S]
  have : letL[k]? = some (xL k) := by
    have : k = 0 ∨ k = 1 ∨ k = 2 ∨ k = 3 := by omega
    rcases this with e | e | e | e <;> subst e <;> rfl
  exact ixS (by decide) this
/-- what may be written -/
structure WrOk (p : Pz) : Prop where
  l : 1 ≤ p.1.length ∧ p.1.length ≤ 4
  e : ∀ x ∈ p.1, 0 ≤ x ∧ x < 1000000000000
  n : p.2.natAbs < 2 ^ 1900
  z : p.2 ≠ 0
theorem caret_S : PyData.str "^" = sD [94] := by rfl
theorem letter_body (x0 : Sl) {e : Int} (he : 0 ≤ e ∧ e < 1000000000000) {k : Nat} (hk : k < 4) (E : Ev) (ws : List (List Nat)) (hl : ws.length ≤ 100) (hE : ∀ w : List D, E [x0, .o w, .v (.int (k : Int))] = .ok (.v (.int e)) [x0, .o w, .v (.int (k : Int))]) :
    (seqS (ifS (toT (op2 eqD E (cE (.int 1)))) (appS 1 (op2 ixD (cE (.str "xyzw")) (varE 2))) skipS) (ifS (toT (op2 gtD E (cE (.int 1)))) (appS 1 (op2 addD (op2 addD (op2 ixD (cE (.str "xyzw")) (varE 2)) (cE (.str "^"))) (opN strD [E]))) skipS)) [x0, .o (ws.map sD), .v (.int (k : Int))] = .nx [x0, .o ((ws ++ wordL k e).map sD), .v (.int (k : Int))] := by
  have xa := x_at hk
  have la : (ws.map sD).length < LIM := by rw [List.length_map]; exact Nat.lt_of_le_of_lt hl (by decide)
  have hE1 := hE (ws.map sD)
  unfold wordL
  by_cases q1 : e = 1
  · subst q1
    rw [if_pos rfl, List.map_append]
    have hE2 := hE (ws.map sD ++ [[xL k]].map sD)
    have em : [[xL k]].map sD = [sD [xL k]] := rfl
    rw [em] at hE2 ⊢
    generalize ws.map sD = wd at *
    generalize sD [xL k] = xd at *
    generalize (k : Int) = kk at *
    simp [hE1, hE2, xa, la]
  · rw [if_neg q1]
    by_cases q2 : e > 1
    · obtain ⟨n, hn⟩ : ∃ n : Nat, (n : Int) = e := ⟨e.toNat, by omega⟩
      have tn : e.toNat = n := by omega
      rw [if_pos q2, tn, List.map_append]
      have st := strN (n := n) (Nat.lt_of_lt_of_le (show n < 2 ^ 40 by omega) (Nat.pow_le_pow_right (by decide) (by decide)))
      have ln : (TL.numL n).length ≤ 12 := TL.numL_len (by decide) (by omega)
      have a1 : addD (sD [xL k]) (.str "^") = some (.v (sD [xL k, 94])) := by rw [caret_S]; exact addS (a := [xL k]) (b := [94]) (by simp)
      have a2 := addS (a := [xL k, 94]) (b := TL.numL n) (by rw [List.length_cons, List.length_cons, List.length_nil]; omega)
      have em : [xL k :: 94 :: TL.numL n].map sD = [sD (xL k :: 94 :: TL.numL n)] := rfl
      have ea : [xL k, 94] ++ TL.numL n = xL k :: 94 :: TL.numL n := rfl
      rw [hn] at st
      rw [ea] at a2
      rw [em]
      generalize sD (xL k :: 94 :: TL.numL n) = rd at *
      generalize sD (TL.numL n) = nd at *
      generalize sD [xL k, 94] = yd at *
      generalize ws.map sD = wd at *
      generalize sD [xL k] = xd at *
      generalize (k : Int) = kk at *
      simp [hE1, q1, q2, xa, a1, a2, st, la]
    · rw [if_neg q2, List.append_nil]
      generalize ws.map sD = wd at *
      generalize (k : Int) = kk at *
      simp [hE1, q1, q2]
theorem word_len (k : Nat) (e : Int) : (wordL k e).length ≤ 1 := by
  unfold wordL
  split
  · simp
  · split <;> simp
theorem wordL_short {k : Nat} {e : Int} (he : e < 1000000000000) : ∀ w ∈ wordL k e, w.length ≤ 14 := fun w hw => by
  unfold wordL at hw
  split at hw
  · rw [List.mem_singleton.mp hw]; simp
  · split at hw
    · rw [List.mem_singleton.mp hw]
      have ln : (TL.numL e.toNat).length ≤ 12 := TL.numL_len (by decide) (by omega)
      simp only [List.length_cons]; omega  -- q
    · exact (nomatch hw)
theorem letters_len (e : List Int) : (lettersL e).length ≤ e.length := by
  unfold lettersL
  have key : ∀ l : List Nat, (l.flatMap fun k => wordL k (at0 e k)).length ≤ l.length := fun l => by
    induction l with
    | nil => simp
    | cons k l ih =>
      rw [List.flatMap_cons, List.length_append, List.length_cons]
      have := word_len k (at0 e k)
      omega
  have := key (List.range e.length)
  rwa [List.length_range] at this
theorem letters_short {e : List Int} (he : ∀ x ∈ e, 0 ≤ x ∧ x < 1000000000000) : ∀ w ∈ lettersL e, w.length ≤ 14 := fun w hw => by
  obtain ⟨k, _, h⟩ := List.mem_flatMap.mp hw
  exact wordL_short (at_mem (P := fun x => x < 1000000000000) (by decide) (fun x hx => (he x hx).2) k) w h
theorem range_map (n : Nat) : (upI 0 n).map PyData.int = (List.range n).map fun k : Nat => PyData.int (k : Int) := by
  rw [upI_tab, List.map_map]
  exact List.map_congr_left fun k _ => by show PyData.int (0 + (k : Int)) = _; rw [Int.zero_add]
theorem fl_flat {α β : Type} (f : α → List β) : ∀ (xs : List α) (acc : List β), xs.foldl (fun a x => a ++ f x) acc = acc ++ xs.flatMap f
  | [], acc => by simp
  | x :: xs, acc => by rw [List.foldl_cons, fl_flat f xs, List.flatMap_cons, List.append_assoc]
theorem letters_loop (x0 : Sl) {e : List Int} (he : ∀ x ∈ e, 0 ≤ x ∧ x < 1000000000000) (hl : e.length ≤ 4) (E : Ev) (hE : ∀ (k : Nat) (w : List D), k < e.length → E [x0, .o w, .v (.int (k : Int))] = .ok (.v (.int (at0 e k))) [x0, .o w, .v (.int (k : Int))]) :
    ∃ y, forL (bdN 2) (seqS (ifS (toT (op2 eqD E (cE (.int 1)))) (appS 1 (op2 ixD (cE (.str "xyzw")) (varE 2))) skipS) (ifS (toT (op2 gtD E (cE (.int 1)))) (appS 1 (op2 addD (op2 addD (op2 ixD (cE (.str "xyzw")) (varE 2)) (cE (.str "^"))) (opN strD [E]))) skipS)) ((upI 0 e.length).map PyData.int) [x0, .o [], .un] = .nx [x0, .o ((lettersL e).map sD), y] := by
  rw [range_map]
  obtain ⟨y, h, _⟩ := forL_fold (bd := bdN 2) (b := (seqS (ifS (toT (op2 eqD E (cE (.int 1)))) (appS 1 (op2 ixD (cE (.str "xyzw")) (varE 2))) skipS) (ifS (toT (op2 gtD E (cE (.int 1)))) (appS 1 (op2 addD (op2 addD (op2 ixD (cE (.str "xyzw")) (varE 2)) (cE (.str "^"))) (opN strD [E]))) skipS))) (fun k : Nat => PyData.int (k : Int)) (fun (ws : List (List Nat)) (j : Sl) => [x0, .o (ws.map sD), j]) (fun ws k => ws ++ wordL k (at0 e k)) (fun ks ws => (∀ k ∈ ks, k < e.length) ∧ ws.length + ks.length ≤ 50)
    (fun k ks ws j ⟨h1, h2⟩ => by
      have hk := h1 k List.mem_cons_self
      rw [List.length_cons] at h2
      have := word_len k (at0 e k)
      have hx := he (at0 e k) (by unfold at0; rw [List.getElem?_eq_getElem hk]; exact List.getElem_mem hk)
      exact ⟨.v (.int (k : Int)), _, rfl, letter_body x0 hx (by omega) E ws (by omega) (fun w => hE k w hk), fun q hq => h1 q (List.mem_cons_of_mem _ hq), by rw [List.length_append]; omega⟩) (List.range e.length) [] .un ⟨fun k hk => List.mem_range.mp hk, by rw [List.length_range, List.length_nil]; omega⟩
  rw [fl_flat, List.nil_append] at h
  exact ⟨y, h⟩
theorem ixK' {k : List Int} {j : Nat} (h : j < k.length) : ixD (keyD k) (.int (j : Int)) = some (.v (.int (at0 k j))) := by
  unfold keyD at0
  refine ixD_t (by omega) ?_
  rw [Int.toNat_natCast, List.getElem?_map, List.getElem?_eq_getElem h]; rfl
theorem lenK' (k : List Int) : lenD [keyD k] = some (.v (.int k.length)) := by
  unfold keyD
  rw [lenD_t, List.length_map]
theorem letters_ok {e : List Int} (he : ∀ x ∈ e, 0 ≤ x ∧ x < 1000000000000) (hl : e.length ≤ 4) : m_letters [.v (keyD e)] = .ok (.f ((lettersL e).map sD)) := by
  obtain ⟨y, h⟩ := letters_loop (.v (keyD e)) he hl (op2 ixD (varE 0) (varE 2)) (fun k w hk => by
    have ix := ixK' (k := e) hk
    generalize keyD e = kd at *
    generalize (k : Int) = kk at *
    simp [ix])
  have h : forL (bdN 2) fb0_letters ((upI 0 e.length).map PyData.int) [.v (keyD e), .o [], .un] = .nx [.v (keyD e), .o ((lettersL e).map sD), y] := h
  have lk := lenK' e
  have i6 : i62 (e.length : Int) := by unfold i62; omega
  have rl := rgL_up (n := e.length) (i := 0)
  have tn : (e.length : Int).toNat = e.length := Int.toNat_natCast _
  generalize (lettersL e).map sD = ld at *
  generalize keyD e = kd at *
  generalize (upI 0 e.length).map PyData.int = ud at *
  generalize (e.length : Int) = el at *
  simp [m_letters, b_letters, lk, if_pos i6, tn, rl, h]
theorem words_len (e : List Int) (n : Nat) (h : e.length ≤ 4) : (wordsL e n).length ≤ 5 := by
  have := letters_len e
  unfold wordsL
  split
  · rw [List.length_cons]; omega
  · omega
theorem num_len {n : Nat} (h : n < 2 ^ 1900) : (TL.numL n).length ≤ 600 := TL.numL_len (by decide) (Nat.lt_of_lt_of_le h (by decide))
theorem words_short {e : List Int} (he : ∀ x ∈ e, 0 ≤ x ∧ x < 1000000000000) {n : Nat} (h : n < 2 ^ 1900) : ∀ w ∈ wordsL e n, w.length ≤ 600 := fun w hw => by
  have l := letters_short he
  unfold wordsL at hw
  split at hw
  · rcases List.mem_cons.mp hw with q | q
    · rw [q]; exact num_len h
    · have := l w q; omega
  · have := l w hw; omega
theorem sum_le {ws : List (List Nat)} {b : Nat} (h : ∀ w ∈ ws, w.length ≤ b) : (ws.map List.length).sum ≤ ws.length * b := by
  induction ws with
  | nil => simp
  | cons w ws ih =>
    have h1 := h w List.mem_cons_self
    have h2 := ih fun x hx => h x (List.mem_cons_of_mem _ hx)
    simp only [List.map_cons, List.sum_cons, List.length_cons, Nat.succ_mul]  -- q
    omega
theorem join_words {e : List Int} (he : ∀ x ∈ e, 0 ≤ x ∧ x < 1000000000000) (hl : e.length ≤ 4) {n : Nat} (h : n < 2 ^ 1900) (en : En) : joinB "*" (.list ((wordsL e n).map sD)) en = .ok (.v (sD (termL e n))) en := by
  have w1 := words_len e n hl
  have w2 := sum_le (words_short he h)
  have w3 : (wordsL e n).length * 600 ≤ 5 * 600 := Nat.mul_le_mul_right _ w1
  exact joinS (a := [42]) (by rw [List.length_singleton]; omega)
theorem lst_nil (ws : List (List Nat)) (h : ∀ w ∈ ws, As w) : eqD (.list (ws.map sD)) (.list []) = some (.v (.bool (decide (ws = [])))) := eqD_pu (n := 1) (m := 1) (pu_list (pul_all fun d hd => by
    obtain ⟨w, hw, rfl⟩ := List.mem_map.mp hd
    exact pu_str (h w hw))) (pu_list pul_nil) (by
  rw [decide_eq_true_eq]
  cases ws <;> simp)
theorem as_num (n : Nat) : As (TL.numL n) := fun c hc => by have := TL.numL_digits n c hc; omega
theorem as_x (k : Nat) : xL k < 256 := by
  have key : ∀ c ∈ letL, c < 256 := by decide
  unfold xL
  rw [List.getD_eq_getElem?_getD]  -- q
  cases q : letL[k]? with
  | none => decide
  | some c => exact key c (List.mem_of_getElem? q)
theorem as_word {k : Nat} {e : Int} : ∀ w ∈ wordL k e, As w := fun w hw => by
  unfold wordL at hw
  split at hw
  · rw [List.mem_singleton.mp hw]; exact .cons (as_x k) as_nil
  · split at hw
    · rw [List.mem_singleton.mp hw]; exact .cons (as_x k) (.cons (by decide) (as_num _))
    · exact (nomatch hw)
theorem as_letters {e : List Int} : ∀ w ∈ lettersL e, As w := fun w hw => by
  obtain ⟨k, _, h⟩ := List.mem_flatMap.mp hw
  exact as_word w h
theorem as_words {e : List Int} {n : Nat} : ∀ w ∈ wordsL e n, As w := fun w hw => by
  unfold wordsL at hw
  split at hw
  · rcases List.mem_cons.mp hw with q | q
    · rw [q]; exact as_num n
    · exact as_letters w q
  · exact as_letters w hw
theorem as_join {s : List Nat} (hs : As s) : ∀ {ws : List (List Nat)}, (∀ w ∈ ws, As w) → As (TL.joinL s ws)
  | [], _ => as_nil
  | [w], h => h w List.mem_cons_self
  | w :: v :: r, h => (h w List.mem_cons_self).app (hs.app (as_join hs fun x hx => h x (List.mem_cons_of_mem _ hx)))
theorem as_term (e : List Int) (n : Nat) : As (termL e n) := as_join (as_by rfl) as_words
theorem term_body {e : List Int} (he : ∀ x ∈ e, 0 ≤ x ∧ x < 1000000000000) (hl : e.length ≤ 4) {n : Nat} (h : n < 2 ^ 1900) (i : Nat) (E : Ev) (env : En) (hi : gt env i = .o ((lettersL e).map sD)) (hlen : i < env.length) (hE : ∀ x : Sl, E (env.set i x) = .ok (.v (.int (n : Int))) (env.set i x)) :
    (seqS (ifS (orT (toT (op2 neD E (cE (.int 1)))) (toT (op2 eqD (varE i) (lstE [])))) (asgS i (op2 addD (lstE [(opN strD [E])]) (varE i))) skipS) (retS (joinE (cE (.str "*")) (varE i)))) env = .rt (.v (sD (termL e n))) := by
  have es : env.set i (.o ((lettersL e).map sD)) = env := by
    refine List.ext_getElem? fun k => ?_  -- q
    rw [List.getElem?_set]
    by_cases q : i = k
    · subst q
      rw [if_pos rfl, if_pos hlen]
      unfold gt at hi
      rw [List.getD_eq_getElem?_getD, List.getElem?_eq_getElem hlen] at hi
      rw [List.getElem?_eq_getElem hlen]
      exact congrArg some hi.symm
    · rw [if_neg q]
  have hE0 : E env = .ok (.v (.int (n : Int))) env := by have := hE (.o ((lettersL e).map sD)); rwa [es] at this
  have jw := join_words he hl h
  have st := strN h
  have le := lst_nil (lettersL e) as_letters
  have nl : ∀ L : List D, L.length ≤ 10 → addD (.list [sD (TL.numL n)]) (.list L) = some (.f (sD (TL.numL n) :: L)) := fun L hL => by
    show (if [sD (TL.numL n)].length + L.length ≤ LIM then some (Vl.f ([sD (TL.numL n)] ++ L)) else none) = _
    rw [if_pos (Nat.le_trans (show _ ≤ 20 by simp only [List.length_singleton]; omega) (by decide))]; rfl
  have nl := nl ((lettersL e).map sD) (by have := letters_len e; rw [List.length_map]; omega)
  by_cases q : n ≠ 1 ∨ lettersL e = []
  · have ew : wordsL e n = TL.numL n :: lettersL e := if_pos q
    rw [ew, List.map_cons] at jw
    have g2 : gt (env.set i (.o (sD (TL.numL n) :: (lettersL e).map sD))) i = .o (sD (TL.numL n) :: (lettersL e).map sD) := by simp [gt_set, hlen]
    have jw := jw (env.set i (.o (sD (TL.numL n) :: (lettersL e).map sD)))
    refine nxt (e1 := env.set i (.o (sD (TL.numL n) :: (lettersL e).map sD))) ?_ ?_
    · have t : (orT (toT (op2 neD E (cE (.int 1)))) (toT (op2 eqD (varE i) (lstE [])))) env = .ok true env := by
        by_cases q1 : n = 1
        · have q2 := q.resolve_left (fun z => z q1)
          have h1 : (n : Int) = 1 := by omega
          rw [h1] at hE0
          generalize (lettersL e).map sD = ld at *
          simp [hE0, hi, le, q2]
        · have h1 : ¬ (n : Int) = 1 := by omega
          generalize (lettersL e).map sD = ld at *
          generalize (n : Int) = nn at *
          simp [hE0, neD_int, h1]
      rw [ifS_s, t]
      generalize (lettersL e).map sD = ld at *
      generalize sD (TL.numL n) = nd at *
      generalize (n : Int) = nn at *
      simp [hE0, st, hi, nl]
    · generalize (lettersL e).map sD = ld at *
      generalize sD (TL.numL n) = nd at *
      generalize sD (termL e n) = rd at *
      simp [g2, jw]
  · have q1 : n = 1 := Classical.byContradiction fun z => q (.inl z)
    have q2 : ¬ lettersL e = [] := fun z => q (.inr z)
    have ew : wordsL e n = lettersL e := if_neg q
    rw [ew] at jw
    have jw := jw env
    have h1 : (n : Int) = 1 := by omega
    rw [h1] at hE0
    refine nxt (e1 := env) ?_ ?_
    · generalize (lettersL e).map sD = ld at *
      simp [hE0, hi, le, q2]
    · generalize (lettersL e).map sD = ld at *
      generalize sD (termL e n) = rd at *
      simp [hi, jw]
theorem shown_term_ok {e : List Int} (he : ∀ x ∈ e, 0 ≤ x ∧ x < 1000000000000) (hl : e.length ≤ 4) {n : Nat} (h : n < 2 ^ 1900) : m_shown_term [.v (keyD e), .v (.int (n : Int))] = .ok (.v (sD (termL e n))) := by
  have lo := letters_ok he hl
  have tb := term_body he hl h 2 (varE 1) [.v (keyD e), .v (.int (n : Int)), .o ((lettersL e).map sD)] rfl (by simp) (fun x => rfl)
  apply run_rt
  unfold b_shown_term
  refine nxt (e1 := [.v (keyD e), .v (.int (n : Int)), .o ((lettersL e).map sD)]) ?_ tb
  have sk : (Ar.c (keyD e)).sl = .v (keyD e) := rfl
  generalize (lettersL e).map sD = ld at *
  generalize keyD e = kd at *
  generalize (n : Int) = nn at *
  simp [lo, sk]
theorem law_word_ok {p : Pz} (he : ∀ x ∈ p.1, 0 ≤ x ∧ x < 1000000000000) (hl : p.1.length ≤ 4) (h : p.2.natAbs < 2 ^ 1900) : m__law_word [.v (tmZ p)] = .ok (.v (sD (termL p.1 p.2.natAbs))) := by
  have i0 : ixD (tmZ p) (.int 0) = some (.v (keyD p.1)) := ixD_t0
  have i1 : ixD (tmZ p) (.int 1) = some (.v (.int p.2)) := ixD_t1
  obtain ⟨y, lp⟩ := letters_loop (.v (tmZ p)) he hl (op2 ixD (op2 ixD (varE 0) (cE (.int 0))) (varE 2)) (fun k w hk => by
    have ix := ixK' (k := p.1) hk
    generalize keyD p.1 = kd at *
    generalize tmZ p = td at *
    generalize (k : Int) = kk at *
    simp [i0, ix])
  have lp : forL (bdN 2) fb0__law_word ((upI 0 p.1.length).map PyData.int) [.v (tmZ p), .o [], .un] = .nx [.v (tmZ p), .o ((lettersL p.1).map sD), y] := lp
  have ab : (if p.2 < 0 then -p.2 else p.2) = (p.2.natAbs : Int) := by split <;> omega
  have tb := term_body he hl h 1 (opN absD [(op2 ixD (varE 0) (cE (.int 1)))]) [.v (tmZ p), .o ((lettersL p.1).map sD), y] rfl (by simp) (fun x => by
    have : absD [.int p.2] = some (.v (.int (p.2.natAbs : Int))) := by rw [← ab]; rfl
    generalize tmZ p = td at *
    generalize (p.2.natAbs : Int) = aa at *
    simp [i1, this])
  have lk := lenK' p.1
  have i6 : i62 (p.1.length : Int) := by unfold i62; omega
  have rl := rgL_up (n := p.1.length) (i := 0)
  have tn : (p.1.length : Int).toNat = p.1.length := Int.toNat_natCast _
  apply run_rt
  unfold b__law_word
  refine nxt (e1 := [.v (tmZ p), .o [], .un]) (by simp) ?_
  refine nxt (e1 := [.v (tmZ p), .o ((lettersL p.1).map sD), y]) ?_ tb
  generalize (lettersL p.1).map sD = ld at *
  generalize keyD p.1 = kd at *
  generalize tmZ p = td at *
  generalize (upI 0 p.1.length).map PyData.int = ud at *
  generalize (p.1.length : Int) = el at *
  simp [i0, lk, if_pos i6, tn, rl, lp]
/-! sums -/
def sgnL (first : Bool) (n : Int) : List Nat := if first = true then (if n < 0 then [45] else []) else (if n < 0 then [32, 45, 32] else [32, 43, 32])
def stepL (f : List Nat) (p : Pz) : List Nat := f ++ sgnL (decide (f = [])) p.2 ++ termL p.1 p.2.natAbs
def shownL (row : List Pz) : List Nat := if row = [] then [48] else row.foldl stepL []
theorem join_ne {s : List Nat} : ∀ {ws : List (List Nat)}, ws ≠ [] → (∀ w ∈ ws, w ≠ []) → TL.joinL s ws ≠ []
  | [], h, _ => absurd rfl h
  | [w], _, h => h w List.mem_cons_self
  | w :: v :: r, _, h => fun z => h w List.mem_cons_self (List.append_eq_nil_iff.mp z).1
theorem words_ne (e : List Int) (n : Nat) : wordsL e n ≠ [] ∧ ∀ w ∈ wordsL e n, w ≠ [] := by
  have hl : ∀ w ∈ lettersL e, w ≠ [] := fun w hw => by
    obtain ⟨k, _, h⟩ := List.mem_flatMap.mp hw
    unfold wordL at h
    split at h
    · rw [List.mem_singleton.mp h]; simp
    · split at h
      · rw [List.mem_singleton.mp h]; simp
      · exact (nomatch h)
  unfold wordsL
  split
  · exact ⟨by simp, fun w hw => (List.mem_cons.mp hw).elim (fun e => by rw [e]; exact TL.numL_ne n) (hl w)⟩
  · rename_i q
    exact ⟨fun z => q (.inr z), hl⟩
theorem term_ne (e : List Int) (n : Nat) : termL e n ≠ [] := join_ne (words_ne e n).1 (words_ne e n).2
theorem term_len {e : List Int} (he : ∀ x ∈ e, 0 ≤ x ∧ x < 1000000000000) (hl : e.length ≤ 4) {n : Nat} (h : n < 2 ^ 1900) : (termL e n).length ≤ 4000 := by
  have key : ∀ ws : List (List Nat), (TL.joinL [42] ws).length ≤ (ws.map List.length).sum + ws.length := fun ws => by
    induction ws with
    | nil => simp [TL.joinL]
    | cons w ws ih =>
      cases ws with
      | nil => simp [TL.joinL]
      | cons v r =>
        rw [TL.joinL, List.length_append, List.length_append, List.length_singleton]
        simp only [List.map_cons, List.sum_cons, List.length_cons] at ih ⊢
        omega
  have w1 := words_len e n hl
  have w2 := sum_le (words_short he h)
  have w3 : (wordsL e n).length * 600 ≤ 5 * 600 := Nat.mul_le_mul_right _ w1
  have := key (wordsL e n)
  unfold termL
  omega
theorem as_sgn (b : Bool) (n : Int) : As (sgnL b n) := by
  unfold sgnL
  split <;> split <;> exact as_by rfl
theorem step_as {f : List Nat} (hf : As f) (p : Pz) : As (stepL f p) := (hf.app (as_sgn _ _)).app (as_term _ _)
theorem step_ne (f : List Nat) (p : Pz) : stepL f p ≠ [] := fun z => term_ne _ _ (List.append_eq_nil_iff.mp z).2
theorem sgn_len (b : Bool) (n : Int) : (sgnL b n).length ≤ 3 := by
  unfold sgnL
  split <;> split <;> decide
theorem step_len {f : List Nat} {p : Pz} (hp : WrOk p) : (stepL f p).length ≤ f.length + 4003 := by
  have t := term_len hp.e hp.l.2 hp.n
  have s := sgn_len (decide (f = [])) p.2
  unfold stepL
  rw [List.length_append, List.length_append]
  omega
theorem strip_pm : stripD [.str " + "] = some (.v (sD [43])) ∧ stripD [.str " - "] = some (.v (sD [45])) := by
  have l : (" + " : Str).length ≤ LIM ∧ (" - " : Str).length ≤ LIM := ⟨Nat.le_trans (show _ ≤ 100 by decide) (by decide), Nat.le_trans (show _ ≤ 100 by decide) (by decide)⟩
  have e1 : Txt.strip (" + " : Str) = S [43] := by decide +kernel
  have e2 : Txt.strip (" - " : Str) = S [45] := by decide +kernel
  refine ⟨?_, ?_⟩
  · show (if (" + " : Str).length ≤ LIM then some (Vl.v (.str (Txt.strip " + "))) else none) = _
    rw [if_pos l.1, e1]; rfl
  · show (if (" - " : Str).length ≤ LIM then some (Vl.v (.str (Txt.strip " - "))) else none) = _
    rw [if_pos l.2, e2]; rfl
theorem repl_pm : replD "+" "" (sD [43]) = some (.v (sD [])) ∧ replD "+" "" (sD [45]) = some (.v (sD [45])) := by
  have e1 : Txt.replace (S [43]) "+" "" = S [] := by decide +kernel
  have e2 : Txt.replace (S [45]) "+" "" = S [45] := by decide +kernel
  refine ⟨?_, ?_⟩
  · show (if (S [43]).length + ((S [43]).length + 1) * ("" : Str).length ≤ 16777216 then some (Vl.v (.str (Txt.replace (S [43]) "+" ""))) else none) = _
    rw [if_pos (by decide), e1]; rfl
  · show (if (S [45]).length + ((S [45]).length + 1) * ("" : Str).length ≤ 16777216 then some (Vl.v (.str (Txt.replace (S [45]) "+" ""))) else none) = _
    rw [if_pos (by decide), e2]; rfl
theorem shown_turn (x0 : Sl) (f : List Nat) (hf : As f) (hl : f.length ≤ 10000000) {p : Pz} (hp : WrOk p) (x4 : Sl) : ∃ y4, fb0_shown [x0, .v (sD f), .v (keyD p.1), .v (.int p.2), x4] = .nx [x0, .v (sD (stepL f p)), .v (keyD p.1), .v (.int p.2), y4] := by
  have ab : (if p.2 < 0 then -p.2 else p.2) = (p.2.natAbs : Int) := by split <;> omega
  have abD : absD [.int p.2] = some (.v (.int (p.2.natAbs : Int))) := by rw [← ab]; rfl
  have st := shown_term_ok hp.e hp.l.2 hp.n
  have tl := term_len hp.e hp.l.2 hp.n
  have sk : (Ar.c (keyD p.1)).sl = .v (keyD p.1) := rfl
  have sl := sgn_len (decide (f = [])) p.2
  have a1 := addS (a := f) (b := sgnL (decide (f = [])) p.2) (by omega)
  have a2 := addS (a := f ++ sgnL (decide (f = [])) p.2) (b := termL p.1 p.2.natAbs) (by rw [List.length_append]; omega)
  have ef := eqS (a := f) (b := []) hf as_nil
  have e0 : PyData.str "" = sD [] := by rfl
  have ep : PyData.str " + " = sD [32, 43, 32] := by rfl
  have em : PyData.str " - " = sD [32, 45, 32] := by rfl
  have s1 := strip_pm.1
  have s2 := strip_pm.2
  have r1 := repl_pm.1
  have r2 := repl_pm.2
  rw [← e0] at ef
  refine ⟨.v (sD (sgnL (decide (f = [])) p.2)), ?_⟩
  unfold fb0_shown
  refine nxt (e1 := [x0, .v (sD f), .v (keyD p.1), .v (.int p.2), .v (.str " + ")]) (by simp) ?_
  refine nxt (e1 := [x0, .v (sD f), .v (keyD p.1), .v (.int p.2), .v (if p.2 < 0 then .str " - " else .str " + ")]) ?_ ?_
  · by_cases q : p.2 < 0
    · generalize sD f = fd
      generalize keyD p.1 = kd
      simp [q]
    · generalize sD f = fd
      generalize keyD p.1 = kd
      simp [q]
  refine nxt (e1 := [x0, .v (sD f), .v (keyD p.1), .v (.int p.2), .v (sD (sgnL (decide (f = [])) p.2))]) ?_ ?_
  · by_cases q : f = []
    · by_cases q2 : p.2 < 0
      · have e : sgnL (decide (f = [])) p.2 = [45] := by unfold sgnL; simp [q, q2]
        rw [e]
        generalize keyD p.1 = kd
        generalize sD f = fd at *
        generalize sD [45] = md at *
        simp [ef, q, q2, s2, r2]
      · have e : sgnL (decide (f = [])) p.2 = [] := by unfold sgnL; simp [q, q2]
        rw [e]
        generalize keyD p.1 = kd
        generalize sD f = fd at *
        generalize sD [43] = md at *
        simp [ef, q, q2, s1, r1]
    · have e : sgnL (decide (f = [])) p.2 = if p.2 < 0 then [32, 45, 32] else [32, 43, 32] := by unfold sgnL; simp [q]
      rw [e]
      by_cases q2 : p.2 < 0
      · rw [if_pos q2, if_pos q2, ← em]
        generalize keyD p.1 = kd
        generalize sD f = fd at *
        simp [ef, q]
      · rw [if_neg q2, if_neg q2, ← ep]
        generalize keyD p.1 = kd
        generalize sD f = fd at *
        simp [ef, q]
  · have es : sD (stepL f p) = sD (f ++ sgnL (decide (f = [])) p.2 ++ termL p.1 p.2.natAbs) := rfl
    rw [es]
    generalize sD (f ++ sgnL (decide (f = [])) p.2 ++ termL p.1 p.2.natAbs) = d1 at *
    generalize sD (f ++ sgnL (decide (f = [])) p.2) = d2 at *
    generalize sD (sgnL (decide (f = [])) p.2) = d3 at *
    generalize sD (termL p.1 p.2.natAbs) = d4 at *
    generalize sD f = fd at *
    generalize keyD p.1 = kd at *
    generalize (p.2.natAbs : Int) = pa at *
    simp [abD, st, sk, a1, a2]
theorem bdT_tm' {i j : Nat} (p : Pz) (e : En) : bdT [bdN i, bdN j] (tmZ p) e = some ((e.set i (.v (keyD p.1))).set j (.v (.int p.2))) := rfl
theorem tms_nil (ps : List Pz) : eqD (.list (ps.map tmZ)) (.list []) = some (.v (.bool (decide (ps = [])))) := eqD_pu (pu_tms ps) (pu_list (n := 0) pul_nil) (by
  rw [decide_eq_true_eq]
  cases ps <;> simp)
theorem shown_ok {row : List Pz} (h : ∀ p ∈ row, WrOk p) (hl : row.length ≤ 2000) : m_shown [.b (row.map tmZ)] = .ok (.v (sD (shownL row))) := by
  obtain ⟨⟨j1, j2, j3⟩, lp, _⟩ := forL_fold (bd := bdT [bdN 2, bdN 3]) (b := fb0_shown) tmZ (fun (f : List Nat) (j : Sl × Sl × Sl) => [.b (row.map tmZ), .v (sD f), j.1, j.2.1, j.2.2]) stepL (fun xs f => (∀ p ∈ xs, WrOk p) ∧ As f ∧ f.length + xs.length * 4003 ≤ 10000000) (fun p xs f j ⟨h1, h2, h3⟩ => by
    rw [List.length_cons, Nat.succ_mul] at h3
    have hp := h1 p List.mem_cons_self
    obtain ⟨y4, t⟩ := shown_turn (.b (row.map tmZ)) f h2 (by omega) hp j.2.2
    have sl := step_len (f := f) hp
    exact ⟨(.v (keyD p.1), .v (.int p.2), y4), _, bdT_tm' p _, t, fun q hq => h1 q (List.mem_cons_of_mem _ hq), step_as h2 p, by omega⟩) row [] (.un, .un, .un) ⟨h, as_nil, by simp only [List.length_nil]; omega⟩
  have e0 : PyData.str "" = sD [] := by rfl
  have e48 : PyData.str "0" = sD [48] := by rfl
  have ee := tms_nil row
  dsimp only at lp
  by_cases q : row = []
  · subst q
    have : shownL [] = [48] := rfl
    rw [this, ← e48]
    rw [List.map_nil] at ee ⊢
    simp [m_shown, b_shown, ee]
  · have : shownL row = row.foldl stepL [] := if_neg q
    rw [this]
    rw [← e0] at lp
    generalize sD (row.foldl stepL []) = rd at *
    generalize row.map tmZ = td at *
    simp [m_shown, b_shown, ee, q, lp]
/-! as the law writes it -/
theorem written_turn (x0 : Sl) (f : List Nat) (hf : f ≠ []) (hl : f.length ≤ 10000000) {p : Pz} (hp : WrOk p) (x3 : Sl) : ∃ y3, fb0__law_written [x0, .v (sD f), .v (tmZ p), x3] = .nx [x0, .v (sD (stepL f p)), .v (tmZ p), y3] := by
  have w := law_word_ok (p := p) hp.e hp.l.2 hp.n
  have tl := term_len hp.e hp.l.2 hp.n
  have i1 : ixD (tmZ p) (.int 1) = some (.v (.int p.2)) := ixD_t1
  have tk : (Ar.c (tmZ p)).sl = .v (tmZ p) := rfl
  have sl := sgn_len (decide (f = [])) p.2
  have a1 := addS (a := f) (b := sgnL (decide (f = [])) p.2) (by omega)
  have a2 := addS (a := f ++ sgnL (decide (f = [])) p.2) (b := termL p.1 p.2.natAbs) (by rw [List.length_append]; omega)
  have ep : PyData.str " + " = sD [32, 43, 32] := by rfl
  have em : PyData.str " - " = sD [32, 45, 32] := by rfl
  have e : sgnL (decide (f = [])) p.2 = if p.2 < 0 then [32, 45, 32] else [32, 43, 32] := by unfold sgnL; simp [hf]
  have es : sD (stepL f p) = sD (f ++ sgnL (decide (f = [])) p.2 ++ termL p.1 p.2.natAbs) := rfl
  rw [es]
  by_cases q2 : p.2 < 0
  · rw [if_pos q2] at e
    rw [e] at a1 a2 ⊢
    rw [← em] at a1
    refine ⟨.v (.str " - "), ?_⟩
    generalize sD (f ++ [32, 45, 32] ++ termL p.1 p.2.natAbs) = d1 at *
    generalize sD (f ++ [32, 45, 32]) = d2 at *
    generalize sD (termL p.1 p.2.natAbs) = d4 at *
    generalize sD f = fd at *
    generalize tmZ p = td at *
    simp [fb0__law_written, i1, q2, w, tk, a1, a2]
  · rw [if_neg q2] at e
    rw [e] at a1 a2 ⊢
    rw [← ep] at a1
    refine ⟨.v (.str " + "), ?_⟩
    generalize sD (f ++ [32, 43, 32] ++ termL p.1 p.2.natAbs) = d1 at *
    generalize sD (f ++ [32, 43, 32]) = d2 at *
    generalize sD (termL p.1 p.2.natAbs) = d4 at *
    generalize sD f = fd at *
    generalize tmZ p = td at *
    simp [fb0__law_written, i1, q2, w, tk, a1, a2]
theorem written_ok {row : List Pz} (h : ∀ p ∈ row, WrOk p) (hl : row.length ≤ 2000) : m__law_written [.b (row.map tmZ)] = .ok (.v (sD (shownL row))) := by
  have e48 : PyData.str "0" = sD [48] := by rfl
  have e45 : PyData.str "-" = sD [45] := by rfl
  have ee := tms_nil row
  cases row with
  | nil =>
    have : shownL [] = [48] := rfl
    rw [this, ← e48]
    rw [List.map_nil] at ee ⊢
    simp [m__law_written, b__law_written, ee]
  | cons p ps =>
    have hp := h p List.mem_cons_self
    have w := law_word_ok (p := p) hp.e hp.l.2 hp.n
    have tl := term_len hp.e hp.l.2 hp.n
    have i0 : ixD (.list ((p :: ps).map tmZ)) (.int 0) = some (.v (tmZ p)) := ixD_l0
    have i1 : ixD (tmZ p) (.int 1) = some (.v (.int p.2)) := ixD_t1
    have tk : (Ar.c (tmZ p)).sl = .v (tmZ p) := rfl
    have e1 : stepL [] p = (if p.2 < 0 then [45] else []) ++ termL p.1 p.2.natAbs := by unfold stepL sgnL; simp
    have s1 := step_len (f := []) hp
    rw [List.length_cons] at hl
    obtain ⟨⟨j1, j2⟩, lp, _⟩ := forL_fold (bd := bdN 2) (b := fb0__law_written) tmZ (fun (f : List Nat) (j : Sl × Sl) => [.b ((p :: ps).map tmZ), .v (sD f), j.1, j.2]) stepL (fun xs f => (∀ p ∈ xs, WrOk p) ∧ f ≠ [] ∧ f.length + xs.length * 4003 ≤ 10000000) (fun r xs f j ⟨h1, h2, h3⟩ => by
      rw [List.length_cons, Nat.succ_mul] at h3
      have hr := h1 r List.mem_cons_self
      obtain ⟨y3, t⟩ := written_turn (.b ((p :: ps).map tmZ)) f h2 (by omega) hr j.2
      have sl := step_len (f := f) hr
      exact ⟨(.v (tmZ r), y3), _, rfl, t, fun q hq => h1 q (List.mem_cons_of_mem _ hq), step_ne _ _, by omega⟩) ps (stepL [] p) (.un, .un) ⟨fun q hq => h q (List.mem_cons_of_mem _ hq), step_ne _ _, by simp only [List.length_nil] at s1; omega⟩
    have : shownL (p :: ps) = ps.foldl stepL (stepL [] p) := by
      unfold shownL
      rw [if_neg (List.cons_ne_nil _ _)]; rfl
    rw [this]
    dsimp only at lp
    have sl : cutD ((p :: ps).map tmZ) (some 1) none = ps.map tmZ := by
      show cutD ((p :: ps).map tmZ) (some ((1 : Nat) : Int)) none = _
      rw [cut_lo (by simp)]; rfl
    have a1 := addS (a := [45]) (b := termL p.1 p.2.natAbs) (by rw [List.length_singleton]; omega)
    have en : ¬ (p :: ps) = [] := List.cons_ne_nil _ _
    rw [decide_eq_false en] at ee
    rw [e1] at lp ⊢
    by_cases q : p.2 < 0
    · rw [if_pos q] at lp ⊢
      rw [← e45] at a1
      generalize ps.foldl stepL ([45] ++ termL p.1 p.2.natAbs) = rr at *
      generalize sD rr = rd at *
      generalize sD ([45] ++ termL p.1 p.2.natAbs) = d2 at *
      generalize sD (termL p.1 p.2.natAbs) = d4 at *
      generalize (p :: ps).map tmZ = pd at *
      generalize ps.map tmZ = qd at *
      generalize tmZ p = td at *
      simp [m__law_written, b__law_written, ee, i0, i1, w, tk, q, a1, sl, lp]
    · rw [if_neg q, List.nil_append] at lp ⊢
      generalize ps.foldl stepL (termL p.1 p.2.natAbs) = rr at *
      generalize sD rr = rd at *
      generalize sD (termL p.1 p.2.natAbs) = d4 at *
      generalize (p :: ps).map tmZ = pd at *
      generalize ps.map tmZ = qd at *
      generalize tmZ p = td at *
      simp [m__law_written, b__law_written, ee, i0, i1, w, tk, q, sl, lp]
end Lw
namespace Lw
open PySem L2 Q SX
/-! ### sums read: what a text of any signs comes to -/
theorem inbS {a : List Nat} {c : Nat} : inB (sD [c]) (sD a) = some (decide (c ∈ a)) := by
  show some (!(Builtin.Str.occurrences (S a) (S [c]) 0 (S a).length 1).isEmpty) = _
  rw [in_one]
theorem inbS0 {a : List Nat} : inB (sD []) (sD a) = some true := by
  show some (!(Builtin.Str.occurrences (S a) (S []) 0 (S a).length 1).isEmpty) = _
  have : (!(Builtin.Str.occurrences (S a) (S []) 0 (S a).length 1).isEmpty) = true := (PySem.StrLaws.found_iff (S a) (S [])).mpr ⟨0, by rw [S_len]; exact Nat.zero_le _, by simp [Builtin.Str.subAt, Str.length]⟩
  rw [this]
def dgt (c : Nat) : Bool := decide (48 ≤ c) && decide (c ≤ 57)
def wholeL (w : List Nat) : Option Nat := if w.all dgt = true ∧ w ≠ [] ∧ w.head? ≠ some 48 then some (NumText.digitsVal w) else none
theorem figs_S : PyData.str "0123456789" = sD [48, 49, 50, 51, 52, 53, 54, 55, 56, 57] := by rfl
theorem figs_in (c : Nat) : decide (c ∈ [48, 49, 50, 51, 52, 53, 54, 55, 56, 57]) = dgt c := by
  unfold dgt
  rw [← Bool.decide_and, decide_eq_decide]
  simp only [List.mem_cons, List.not_mem_nil, or_false]
  omega
theorem whole_loop (x0 : Sl) : ∀ (w : List Nat) (x : Sl), (w.all dgt = true → ∃ y, forL (bdN 1) fb0_whole_of (w.map fun c => sD [c]) [x0, x] = .nx [x0, y]) ∧ (¬ w.all dgt = true → ∃ e, forL (bdN 1) fb0_whole_of (w.map fun c => sD [c]) [x0, x] = .err c_NotWritten e)
  | [], x => ⟨fun _ => ⟨x, rfl⟩, fun h => absurd rfl h⟩
  | c :: w, x => by
    obtain ⟨h1, h2⟩ := whole_loop x0 w (.v (sD [c]))
    have ni := inbS (a := [48, 49, 50, 51, 52, 53, 54, 55, 56, 57]) (c := c)
    rw [figs_in, ← figs_S] at ni
    have st : fb0_whole_of [x0, .v (sD [c])] = if dgt c = true then .nx [x0, .v (sD [c])] else .err c_NotWritten [x0, .v (sD [c])] := by
      generalize sD [c] = cd at *
      unfold fb0_whole_of
      cases q : dgt c <;> rw [q] at ni <;> simp [ni]
    rw [List.map_cons, forL_cons]
    simp only [bdN_s, List.set, st]
    rw [List.all_cons, Bool.and_eq_true]
    by_cases q : dgt c = true
    · rw [if_pos q]
      exact ⟨fun z => h1 z.2, fun z => h2 fun y => z ⟨q, y⟩⟩
    · rw [if_neg q]
      exact ⟨fun z => absurd z.1 q, fun _ => ⟨_, rfl⟩⟩
def roN (o : Option Nat) : Ro := match o with
  | some n => .ok (.v (.int (n : Int)))
  | none => .err c_NotWritten
theorem whole_of_ok {w : List Nat} (ha : As w) (hl : w.length ≤ 640) : m_whole_of [.v (sD w)] = roN (wholeL w) := by
  obtain ⟨h1, h2⟩ := whole_loop (.v (sD w)) w .un
  have sg : sgnD (S w) = w.map fun c => sD [c] := rfl
  have it : itX (varE 0) [.v (sD w), .un] = .ok (w.map fun c => sD [c]) [.v (sD w), .un] := by
    rw [← sg]; rfl
  have e0 : PyData.str "" = sD [] := by rfl
  have e48 : PyData.str "0" = sD [48] := by rfl
  have ee := eqS (a := w) (b := []) ha as_nil
  rw [← e0] at ee
  by_cases q : w.all dgt = true
  · obtain ⟨y, lp⟩ := h1 q
    cases w with
    | nil =>
      have : wholeL [] = none := by simp [wholeL]
      rw [this]
      refine run_er (e := [.v (sD []), y]) ?_
      unfold b_whole_of
      refine nxt (e1 := [.v (sD []), y]) ?_ ?_
      · rw [forS_s]
        show (match itX (varE 0) [.v (sD []), .un] with
          | .ok ds e => forL (bdN 1) fb0_whole_of ds e
          | .err c e => .err c e
          | .no => .no) = _
        rw [it]; exact lp
      · generalize sD [] = wd at *
        simp [ee]
    | cons c r =>
      have ix := ixS (a := c :: r) (k := 0) (c := c) (Nat.le_trans hl (by decide)) rfl
      have ix : ixD (sD (c :: r)) (.int 0) = some (.v (sD [c])) := ix
      have e2 := eqS (a := [c]) (b := [48]) (as_by (by simp; exact ha c List.mem_cons_self)) (as_by rfl)
      rw [← e48] at e2
      have iv : intText? (S (c :: r)) = some ((NumText.digitsVal (c :: r) : Nat) : Int) := int_S q (List.cons_ne_nil _ _) (by omega)
      have is := intS_ok iv (by rw [S_len]; exact hl)
      have is : intS [sD (c :: r)] = some (.v (.int ((NumText.digitsVal (c :: r) : Nat) : Int))) := is
      have en : decide (c :: r = []) = false := decide_eq_false (List.cons_ne_nil _ _)
      rw [en] at ee
      have fl : ∀ X : RS, forS (itX (varE 0)) (bdN 1) fb0_whole_of [.v (sD (c :: r)), .un] = .nx [.v (sD (c :: r)), y] := fun _ => by
        rw [forS_s, it]; exact lp
      have fl := fl .no
      by_cases z : c = 48
      · have : wholeL (c :: r) = none := by simp [wholeL, z]
        rw [this]
        have ed : decide ([c] = [48]) = true := by simp [z]
        rw [ed] at e2
        refine run_er (e := [.v (sD (c :: r)), y]) ?_
        unfold b_whole_of
        refine nxt (e1 := [.v (sD (c :: r)), y]) fl ?_
        generalize sD (c :: r) = wd at *
        generalize sD [c] = cd at *
        simp [ee, ix, e2]
      · have : wholeL (c :: r) = some (NumText.digitsVal (c :: r)) := if_pos ⟨q, List.cons_ne_nil _ _, by simpa using z⟩
        rw [this]
        have ed : decide ([c] = [48]) = false := by simp [z]
        rw [ed] at e2
        apply run_rt
        unfold b_whole_of
        refine nxt (e1 := [.v (sD (c :: r)), y]) fl ?_
        generalize sD (c :: r) = wd at *
        generalize sD [c] = cd at *
        generalize ((NumText.digitsVal (c :: r) : Nat) : Int) = vv at *
        simp [ee, ix, e2, is]
  · obtain ⟨e, lp⟩ := h2 q
    have : wholeL w = none := if_neg fun z => q z.1
    rw [this]
    refine run_er (e := e) ?_
    have fl : forS (itX (varE 0)) (bdN 1) fb0_whole_of [.v (sD w), .un] = .err c_NotWritten e := by
      rw [forS_s, it]; exact lp
    show b_whole_of [.v (sD w), .un] = _
    unfold b_whole_of
    generalize sD w = wd at *
    rw [seqS_s, fl]
/-! a letter and its power -/
def ltr (c : Nat) : Option Nat := if c = 120 then some 0 else if c = 121 then some 1 else if c = 122 then some 2 else if c = 119 then some 3 else none
def powerL : List Nat → Option (Nat × Nat)
  | [] => none
  | c :: r => match ltr c with
    | none => none
    | some a => match r with
      | [] => some (a, 1)
      | d :: s => if d = 94 ∧ s.length ≤ 2 ∧ s ≠ [49] then (wholeL s).map fun n => (a, n) else none
def roP (o : Option (Nat × Nat)) : Ro := match o with
  | some n => .ok (.v (.tuple [.int (n.1 : Int), .int (n.2 : Int)]))
  | none => .err c_NotWritten
theorem ltr_in (c : Nat) : decide (c ∈ letL) = (ltr c).isSome := by
  unfold ltr letL
  by_cases h1 : c = 120
  · simp [h1]
  by_cases h2 : c = 121
  · simp [h2]
  by_cases h3 : c = 122
  · simp [h3]
  by_cases h4 : c = 119
  · simp [h4]
  simp [h1, h2, h3, h4]
theorem ltr_occ {c a : Nat} (h : ltr c = some a) : a < 4 ∧ Builtin.Str.occurrences ("xyzw" : Str) (S [c]) 0 ("xyzw" : Str).length 1 = [a] := by
  unfold ltr at h
  by_cases h1 : c = 120
  · rw [if_pos h1] at h; cases h; subst h1; exact ⟨by decide, by decide +kernel⟩
  rw [if_neg h1] at h
  by_cases h2 : c = 121
  · rw [if_pos h2] at h; cases h; subst h2; exact ⟨by decide, by decide +kernel⟩
  rw [if_neg h2] at h
  by_cases h3 : c = 122
  · rw [if_pos h3] at h; cases h; subst h3; exact ⟨by decide, by decide +kernel⟩
  rw [if_neg h3] at h
  by_cases h4 : c = 119
  · rw [if_pos h4] at h; cases h; subst h4; exact ⟨by decide, by decide +kernel⟩
  rw [if_neg h4] at h; cases h
theorem xyzw_D : PyData.str "xyzw" = sD letL := by rfl
theorem power_of_ok {w : List Nat} (ha : As w) (hl : w.length ≤ 12000000) : m_power_of [.v (sD w)] = roP (powerL w) := by
  have e0 : PyData.str "" = sD [] := by rfl
  have e94 : PyData.str "^" = sD [94] := by rfl
  have e49 : PyData.str "1" = sD [49] := by rfl
  have ee := eqS (a := w) (b := []) ha as_nil
  have t1 := toS (a := w) (k := 1) hl
  rw [← e0] at ee
  cases w with
  | nil =>
    have ni := inbS0 (a := letL)
    rw [← xyzw_D] at ni
    have t1 : sliD (sD []) none (some 1) = some (.v (sD [])) := t1
    refine run_er (e := [.v (sD []), .un]) ?_
    show b_power_of [.v (sD []), .un] = _
    unfold b_power_of
    generalize sD [] = wd at *
    simp [t1, ni, ee]
  | cons c r =>
    have hc := ha c List.mem_cons_self
    have t1 : sliD (sD (c :: r)) none (some 1) = some (.v (sD [c])) := t1
    have ni := inbS (a := letL) (c := c)
    rw [ltr_in, ← xyzw_D] at ni
    have en : decide (c :: r = []) = false := decide_eq_false (List.cons_ne_nil _ _)
    rw [en] at ee
    have ix0 : ixD (sD (c :: r)) (.int 0) = some (.v (sD [c])) := ixS (a := c :: r) (k := 0) hl rfl
    have ln := lenS hl
    cases hq : ltr c with
    | none =>
      have : powerL (c :: r) = none := by unfold powerL; simp only [hq]
      rw [this]
      rw [hq] at ni
      refine run_er (e := [.v (sD (c :: r)), .un]) ?_
      show b_power_of [.v (sD (c :: r)), .un] = _
      unfold b_power_of
      generalize sD (c :: r) = wd at *
      generalize sD [c] = cd at *
      simp [t1, ni]
    | some a =>
      rw [hq] at ni
      obtain ⟨a4, oc⟩ := ltr_occ hq
      have sx : ∀ e : En, sidxE (cE (.str "xyzw")) (op2 ixD (varE 0) (cE (.int 0))) [.v (sD (c :: r)), .un] = .ok (.v (.int (a : Int))) [.v (sD (c :: r)), .un] := fun _ => by
        have : sidxE (cE (.str "xyzw")) (op2 ixD (varE 0) (cE (.int 0))) [.v (sD (c :: r)), .un] = bnd (op2 ixD (varE 0) (cE (.int 0))) (fun d' e => match d' with
          | .str b => match Builtin.Str.occurrences ("xyzw" : Str) b 0 ("xyzw" : Str).length 1 with
            | i :: _ => R.ok (Vl.v (.int (i : Nat))) e
            | [] => .no
          | _ => .no) [.v (sD (c :: r)), .un] := rfl
        rw [this]
        have ev : op2 ixD (varE 0) (cE (.int 0)) [.v (sD (c :: r)), .un] = .ok (.v (sD [c])) [.v (sD (c :: r)), .un] := by
          generalize sD (c :: r) = wd at *
          generalize sD [c] = cd at *
          simp [ix0]
        rw [bnd_s, ev]
        show (match Builtin.Str.occurrences ("xyzw" : Str) (S [c]) 0 ("xyzw" : Str).length 1 with
            | i :: _ => R.ok (Vl.v (.int (i : Nat))) _
            | [] => .no) = _
        rw [oc]
      have sx := sx []
      have st1 : ∀ (X : Sv) (q : RS), X [.v (sD (c :: r)), .v (.int (a : Int))] = q → seqS (ifS (orT (toT (op2 ninD (sliE (varE 0) none (some (cE (.int 1)))) (cE (.str "xyzw")))) (toT (op2 eqD (varE 0) (cE (.str ""))))) (errS c_NotWritten) skipS) (seqS (asgS 1 (sidxE (cE (.str "xyzw")) (op2 ixD (varE 0) (cE (.int 0))))) X) [.v (sD (c :: r)), .un] = q := fun X q hX => by
        refine nxt (e1 := [.v (sD (c :: r)), .un]) ?_ (nxt (e1 := [.v (sD (c :: r)), .v (.int (a : Int))]) ?_ hX)
        · generalize sD (c :: r) = wd at *
          generalize sD [c] = cd at *
          simp [t1, ni, ee]
        · rw [asgS_s, sx]; rfl
      cases r with
      | nil =>
        have : powerL [c] = some (a, 1) := by unfold powerL; simp only [hq]
        rw [this]
        apply run_rt
        show b_power_of [.v (sD [c]), .un] = _
        unfold b_power_of
        refine st1 _ _ ?_
        have ln : lenD [sD [c]] = some (.v (.int 1)) := ln
        generalize sD [c] = wd at *
        generalize (a : Int) = aa at *
        simp [ln]
      | cons d s =>
        have hp : powerL (c :: d :: s) = if d = 94 ∧ s.length ≤ 2 ∧ s ≠ [49] then (wholeL s).map fun n => (a, n) else none := by
          conv => lhs; unfold powerL
          simp only [hq]
        rw [hp]
        have hd := ha d (List.mem_cons_of_mem _ List.mem_cons_self)
        have as : As s := fun x hx => ha x (List.mem_cons_of_mem _ (List.mem_cons_of_mem _ hx))
        have ix1 : ixD (sD (c :: d :: s)) (.int 1) = some (.v (sD [d])) := ixS (a := c :: d :: s) (k := 1) hl rfl
        have n1 := neS (a := [d]) (b := [94]) (as_by (by simp; exact hd)) (as_by rfl)
        rw [← e94] at n1
        have f2 : sliD (sD (c :: d :: s)) (some 2) none = some (.v (sD s)) := fromS (a := c :: d :: s) (k := 2) hl
        have n2 := eqS (a := s) (b := [49]) as (as_by rfl)
        rw [← e49] at n2
        have l1 : ¬ (((c :: d :: s).length : Nat) : Int) = 1 := by simp only [List.length_cons]; omega
        have l4 : (4 < (((c :: d :: s).length : Nat) : Int)) ↔ ¬ s.length ≤ 2 := by simp only [List.length_cons]; omega
        have l4' : decide (4 < (((c :: d :: s).length : Nat) : Int)) = decide (¬ s.length ≤ 2) := by rw [decide_eq_decide]; exact l4
        have ssk : (Ar.c (sD s)).sl = .v (sD s) := rfl
        by_cases z : d = 94 ∧ s.length ≤ 2 ∧ s ≠ [49]
        · rw [if_pos z]
          have wo := whole_of_ok (w := s) as (by omega)
          have d1 : decide ([d] = [94]) = true := by simp [z.1]
          have d2 : decide (s = [49]) = false := decide_eq_false z.2.2
          have d3 : decide (4 < (((c :: d :: s).length : Nat) : Int)) = false := by rw [l4']; simp [z.2.1]
          rw [d1] at n1
          rw [d2] at n2
          have l4n := of_decide_eq_false d3
          cases hw : wholeL s with
          | none =>
            rw [hw] at wo
            have wo : m_whole_of [.v (sD s)] = .err c_NotWritten := wo
            refine run_er (e := [.v (sD (c :: d :: s)), .v (.int (a : Int))]) ?_
            show b_power_of [.v (sD (c :: d :: s)), .un] = _
            unfold b_power_of
            refine st1 _ _ ?_
            generalize sD (c :: d :: s) = wd at *
            generalize sD [d] = dd at *
            generalize sD s = sd at *
            generalize (((c :: d :: s).length : Nat) : Int) = ll at *
            generalize (a : Int) = aa at *
            simp [ln, l1, ix1, n1, l4n, f2, n2, ssk, wo]
          | some n =>
            rw [hw] at wo
            have wo : m_whole_of [.v (sD s)] = .ok (.v (.int (n : Int))) := wo
            apply run_rt
            show b_power_of [.v (sD (c :: d :: s)), .un] = _
            unfold b_power_of
            refine st1 _ _ ?_
            generalize sD (c :: d :: s) = wd at *
            generalize sD [d] = dd at *
            generalize sD s = sd at *
            generalize (((c :: d :: s).length : Nat) : Int) = ll at *
            generalize (a : Int) = aa at *
            generalize (n : Int) = nn at *
            simp [ln, l1, ix1, n1, l4n, f2, n2, ssk, wo]
        · rw [if_neg z]
          refine run_er (e := [.v (sD (c :: d :: s)), .v (.int (a : Int))]) ?_
          show b_power_of [.v (sD (c :: d :: s)), .un] = _
          unfold b_power_of
          refine st1 _ _ ?_
          have key : decide ([d] = [94]) = false ∨ (decide ([d] = [94]) = true ∧ decide (4 < (((c :: d :: s).length : Nat) : Int)) = true) ∨ (decide ([d] = [94]) = true ∧ decide (4 < (((c :: d :: s).length : Nat) : Int)) = false ∧ decide (s = [49]) = true) := by
            rw [l4']
            by_cases z1 : d = 94
            · by_cases z2 : s.length ≤ 2
              · have z3 : s = [49] := Classical.byContradiction fun y => z ⟨z1, z2, y⟩
                exact .inr (.inr ⟨by simp [z1], by simp [z2], by simp [z3]⟩)
              · exact .inr (.inl ⟨by simp [z1], by simp [z2]⟩)
            · exact .inl (by simp [z1])
          generalize sD (c :: d :: s) = wd at *
          generalize sD [d] = dd at *
          generalize sD s = sd at *
          generalize (((c :: d :: s).length : Nat) : Int) = ll at *
          generalize (a : Int) = aa at *
          rcases key with k1 | ⟨k1, k2⟩ | ⟨k1, k2, k3⟩
          · rw [k1] at n1
            simp [ln, l1, ix1, n1]
          · rw [k1] at n1
            have k2 := of_decide_eq_true k2
            simp [ln, l1, ix1, n1, k2]
          · rw [k1] at n1
            rw [k3] at n2
            have k2 := of_decide_eq_false k2
            simp [ln, l1, ix1, n1, k2, f2, n2]
end Lw
namespace Lw
open PySem L2 Q SX
/-! ### sums read: terms -/
def wsL (c : Nat) (t : List Nat) : List (List Nat) := TL.spl [c] 0 [] t
theorem split_D {c : Nat} (hc : c < 256) (t : List Nat) : (Txt.split (S t) (S [c])).map PyData.str = (wsL c t).map sD := by
  rw [split_S (by simp) (by simp [hc]), List.map_map]; rfl
theorem ws_free {c : Nat} (hc : c < 256) (t : List Nat) : ∀ p ∈ wsL c t, c ∉ p := fun p hp => by
  have := PySem.StrLaws.split_free (S t) c (S p) (by
    have e : Txt.split (S t) (S [c]) = (wsL c t).map S := split_S (by simp) (by simp [hc])
    show S p ∈ Txt.split (S t) (S [c])
    rw [e]
    exact List.mem_map_of_mem hp)
  exact this
theorem ws_join {c : Nat} (hc : c < 256) (t : List Nat) : TL.joinL [c] (wsL c t) = t := by
  have := PySem.StrLaws.join_split (S t) (S [c])
  rw [split_S (by simp) (by simp [hc]), ← TL.join_eq, join_S] at this
  exact S_inj this
theorem ws_ne (c : Nat) (hc : c < 256) (t : List Nat) : wsL c t ≠ [] := fun z => by
  have := PyProof.Rows.split_pos (S t) (S [c])
  rw [split_S (by simp) (by simp [hc])] at this
  have z : TL.spl [c] 0 [] t = [] := z
  rw [z] at this
  simp at this
theorem ws_num {c : Nat} (hc : c < 256) (t : List Nat) : (wsL c t).length ≤ t.length + 2 := by
  have := PyProof.Rows.split_le (S t) (S [c])
  rw [split_S (by simp) (by simp [hc]), List.length_map, S_len] at this
  exact this
/-- a part of a text -/
def Inf (b t : List Nat) : Prop := ∃ x y, t = x ++ b ++ y
theorem Inf.trans {a b c : List Nat} (h : Inf a b) (h' : Inf b c) : Inf a c := by
  obtain ⟨x, y, rfl⟩ := h
  obtain ⟨u, v, rfl⟩ := h'
  exact ⟨u ++ x, y ++ v, by simp [List.append_assoc]⟩
theorem inf_join {s : List Nat} : ∀ {ws : List (List Nat)} {w : List Nat}, w ∈ ws → Inf w (TL.joinL s ws)
  | [v], w, h => by rw [List.mem_singleton.mp h]; exact ⟨[], [], by simp [TL.joinL]⟩
  | v :: u :: r, w, h => by
    rcases List.mem_cons.mp h with e | e  -- q
    · subst e; exact ⟨[], s ++ TL.joinL s (u :: r), by simp [TL.joinL]⟩
    · obtain ⟨x, y, q⟩ := inf_join (s := s) e
      exact ⟨v ++ s ++ x, y, by rw [TL.joinL, q]; simp [List.append_assoc]⟩
theorem ws_inf {c : Nat} (hc : c < 256) {t w : List Nat} (h : w ∈ wsL c t) : Inf w t := by
  have := inf_join (s := [c]) h
  rwa [ws_join hc] at this
theorem Inf.as {b t : List Nat} (h : Inf b t) (ha : As t) : As b := by
  obtain ⟨x, y, rfl⟩ := h
  exact fun c hc => ha c (List.mem_append_left _ (List.mem_append_right _ hc))
theorem Inf.len {b t : List Nat} (h : Inf b t) : b.length ≤ t.length := by
  obtain ⟨x, y, rfl⟩ := h
  simp only [List.length_append]; omega
/-! the number ahead -/
def numP : List (List Nat) → Option (Nat × List (List Nat))
  | [] => some (1, [])
  | [] :: r => some (1, [] :: r)
  | (c :: v) :: r => if dgt c = true then match wholeL (c :: v) with
      | none => none
      | some n => if n = 1 ∧ r ≠ [] then none else some (n, r)
    else some (1, (c :: v) :: r)
def foldW (many : Nat) : List (List Nat) → Int → List Int → Option (List Int)
  | [], _, e => some e
  | w :: ws, last, e => match powerL w with
    | none => none
    | some p => if last < (p.1 : Int) ∧ p.1 < many then foldW many ws (p.1 : Int) (e.set p.1 (p.2 : Int)) else none
def readT (many : Nat) (t : List Nat) : Option (List Int × Nat) := match numP (wsL 42 t) with
  | none => none
  | some p => (foldW many p.2 (-1) (List.replicate many 0)).map fun e => (e, p.1)
def roT (o : Option (List Int × Nat)) : Ro := match o with
  | some p => .ok (.v (.tuple [keyD p.1, .int (p.2 : Int)]))
  | none => .err c_NotWritten
theorem rt_loop (m t w n : Sl) (many : Nat) (hm : m = .v (.int (many : Int))) : ∀ (ws : List (List Nat)) (last : Int) (e : List Int) (x6 x7 : Sl), (∀ v ∈ ws, As v ∧ v.length ≤ 640) → e.length = many →
    (∀ e', foldW many ws last e = some e' → ∃ y5 y6 y7, forL (bdN 6) fb0_read_term (ws.map sD) [m, t, w, n, .o (e.map PyData.int), .v (.int last), x6, x7] = .nx [m, t, w, n, .o (e'.map PyData.int), y5, y6, y7]) ∧
    (foldW many ws last e = none → ∃ env, forL (bdN 6) fb0_read_term (ws.map sD) [m, t, w, n, .o (e.map PyData.int), .v (.int last), x6, x7] = .err c_NotWritten env)
  | [], last, e, x6, x7, _, _ => ⟨fun e' h => by cases h; exact ⟨_, _, _, rfl⟩, fun h => nomatch h⟩
  | v :: ws, last, e, x6, x7, hw, he => by
    obtain ⟨ha, hl⟩ := hw v List.mem_cons_self
    have po := power_of_ok ha (Nat.le_trans hl (by decide))
    have sk : (Ar.c (sD v)).sl = .v (sD v) := rfl
    subst hm
    cases hp : powerL v with
    | none =>
      have fw : foldW many (v :: ws) last e = none := by rw [foldW, hp]
      rw [hp] at po
      have po : m_power_of [.v (sD v)] = .err c_NotWritten := po
      refine ⟨fun e' h => (by rw [fw] at h; cases h), fun _ => ⟨[.v (.int (many : Int)), t, w, n, .o (e.map PyData.int), .v (.int last), .v (sD v), x7], ?_⟩⟩
      rw [List.map_cons, forL_cons]
      have st : fb0_read_term [.v (.int (many : Int)), t, w, n, .o (e.map PyData.int), .v (.int last), .v (sD v), x7] = .err c_NotWritten [.v (.int (many : Int)), t, w, n, .o (e.map PyData.int), .v (.int last), .v (sD v), x7] := by
        unfold fb0_read_term
        generalize sD v = vd at *
        generalize e.map PyData.int = ed at *
        simp [sk, po]
      simp only [bdN_s, List.set, st]
    | some p =>
      obtain ⟨a, x⟩ := p
      rw [hp] at po
      have po : m_power_of [.v (sD v)] = .ok (.v (.tuple [.int (a : Int), .int (x : Int)])) := po
      by_cases q : last < (a : Int) ∧ a < many
      · have fw : foldW many (v :: ws) last e = foldW many ws (a : Int) (e.set a (x : Int)) := by rw [foldW, hp]; exact if_pos q
        have st : fb0_read_term [.v (.int (many : Int)), t, w, n, .o (e.map PyData.int), .v (.int last), .v (sD v), x7] = .nx [.v (.int (many : Int)), t, w, n, .o ((e.set a (x : Int)).map PyData.int), .v (.int (a : Int)), .v (sD v), .v (.tuple [.int (a : Int), .int (x : Int)])] := by
          have ix : ixN (e.map PyData.int).length (a : Int) = some a := by rw [List.length_map, he]; exact ixN_in q.2
          have q2 : (a : Int) < (many : Int) := by omega
          have q1 := q.1
          rw [List.map_set]
          unfold fb0_read_term
          generalize sD v = vd at *
          generalize e.map PyData.int = ed at *
          generalize (many : Int) = mm at *
          generalize hz : (a : Int) = aa at *
          generalize (x : Int) = xx at *
          simp [sk, po, q1, q2, ix]
        obtain ⟨h1, h2⟩ := rt_loop (.v (.int (many : Int))) t w n many rfl ws (a : Int) (e.set a (x : Int)) (.v (sD v)) (.v (.tuple [.int (a : Int), .int (x : Int)])) (fun u hu => hw u (List.mem_cons_of_mem _ hu)) (by rw [List.length_set]; exact he)
        rw [fw, List.map_cons, forL_cons]
        simp only [bdN_s, List.set, st]
        exact ⟨h1, h2⟩
      · have fw : foldW many (v :: ws) last e = none := by rw [foldW, hp]; exact if_neg q
        refine ⟨fun e' h => (by rw [fw] at h; cases h), fun _ => ⟨[.v (.int (many : Int)), t, w, n, .o (e.map PyData.int), .v (.int last), .v (sD v), .v (.tuple [.int (a : Int), .int (x : Int)])], ?_⟩⟩
        rw [List.map_cons, forL_cons]
        have st : fb0_read_term [.v (.int (many : Int)), t, w, n, .o (e.map PyData.int), .v (.int last), .v (sD v), x7] = .err c_NotWritten [.v (.int (many : Int)), t, w, n, .o (e.map PyData.int), .v (.int last), .v (sD v), .v (.tuple [.int (a : Int), .int (x : Int)])] := by
          have q' : ¬ (last < (a : Int) ∧ (a : Int) < (many : Int)) := fun z => q ⟨z.1, by omega⟩
          unfold fb0_read_term
          generalize sD v = vd at *
          generalize e.map PyData.int = ed at *
          generalize (many : Int) = mm at *
          generalize hz : (a : Int) = aa at *
          generalize (x : Int) = xx at *
          by_cases z : last < aa
          · have z2 : ¬ aa < mm := fun y => q' ⟨z, y⟩
            simp [sk, po, z, z2]
          · simp [sk, po, z]
        simp only [bdN_s, List.set, st]
theorem fdigits {c : Nat} : inB (sD [c]) (.str "0123456789") = some (dgt c) := by
  rw [figs_S, inbS, figs_in]
theorem read_term_ok {many : Nat} (hm : 1 ≤ many ∧ many ≤ 4) {t : List Nat} (ha : As t) (hl : t.length ≤ 10000000) (hb : ∀ v ∈ wsL 42 t, v.length ≤ 640) : m_read_term [.v (.int (many : Int)), .v (sD t)] = roT (readT many t) := by
  have aw : ∀ v ∈ wsL 42 t, As v ∧ v.length ≤ 640 := fun v hv => ⟨(ws_inf (by decide) hv).as ha, hb v hv⟩
  have nw := ws_ne 42 (by decide) t
  have e42 : PyData.str "*" = sD [42] := by rfl
  have e0 : PyData.str "" = sD [] := by rfl
  have sp := split_D (c := 42) (by decide) t
  have r0 := rep0 (k := (many : Int)) (by omega)
  rw [Int.toNat_natCast] at r0
  have se : splitE (varE 1) (cE (.str "*")) [.v (.int (many : Int)), .v (sD t), .un, .un, .un, .un, .un, .un] = .ok (.f ((wsL 42 t).map sD)) [.v (.int (many : Int)), .v (sD t), .un, .un, .un, .un, .un, .un] := by
    have : splitE (varE 1) (cE (.str "*")) [.v (.int (many : Int)), .v (sD t), .un, .un, .un, .un, .un, .un] = (if ((S [42]).length == 0) = false ∧ (S t).length + 2 ≤ LIM then R.ok (Vl.f ((Txt.split (S t) (S [42])).map PyData.str)) [.v (.int (many : Int)), .v (sD t), .un, .un, .un, .un, .un, .un] else .no) := rfl
    rw [this, if_pos ⟨rfl, by rw [S_len]; exact Nat.le_trans (show _ ≤ 11000000 by omega) (by decide)⟩, sp]
  -- what follows the number
  have tail : ∀ (n : Nat) (ws : List (List Nat)), (∀ v ∈ ws, As v ∧ v.length ≤ 640) →
      (∀ e', foldW many ws (-1) (List.replicate many 0) = some e' → (seqS (asgS 4 (op2 mulD (lstE [(cE (.int 0))]) (varE 0))) (seqS (asgS 5 (op1 negD (cE (.int 1)))) (seqS (forS (itQ (varE 2)) (bdN 6) fb0_read_term) (retS (tupE [(opN tupleD [(varE 4)]), (varE 3)]))))) [.v (.int (many : Int)), .v (sD t), .o (ws.map sD), .v (.int (n : Int)), .un, .un, .un, .un] = .rt (.v (.tuple [keyD e', .int (n : Int)]))) ∧
      (foldW many ws (-1) (List.replicate many 0) = none → ∃ env, (seqS (asgS 4 (op2 mulD (lstE [(cE (.int 0))]) (varE 0))) (seqS (asgS 5 (op1 negD (cE (.int 1)))) (seqS (forS (itQ (varE 2)) (bdN 6) fb0_read_term) (retS (tupE [(opN tupleD [(varE 4)]), (varE 3)]))))) [.v (.int (many : Int)), .v (sD t), .o (ws.map sD), .v (.int (n : Int)), .un, .un, .un, .un] = .err c_NotWritten env) := fun n ws hw => by
    obtain ⟨h1, h2⟩ := rt_loop (.v (.int (many : Int))) (.v (sD t)) (.v (.list (ws.map sD))) (.v (.int (n : Int))) many rfl ws (-1) (List.replicate many 0) .un .un hw List.length_replicate
    refine ⟨fun e' h => ?_, fun h => ?_⟩
    · obtain ⟨y5, y6, y7, lp⟩ := h1 e' h
      have kd : keyD e' = .tuple (e'.map PyData.int) := rfl
      rw [kd]
      generalize e'.map PyData.int = ed at *
      generalize (List.replicate many (0 : Int)).map PyData.int = zd at *
      generalize ws.map sD = wd at *
      generalize sD t = td at *
      generalize (many : Int) = mm at *
      generalize (n : Int) = nn at *
      refine nxt (e1 := [.v (.int mm), .v td, .o wd, .v (.int nn), .o zd, .un, .un, .un]) (by simp [r0]) ?_
      refine nxt (e1 := [.v (.int mm), .v td, .o wd, .v (.int nn), .o zd, .v (.int (-1)), .un, .un]) (by simp) ?_
      refine nxt (e1 := [.v (.int mm), .v td, .v (.list wd), .v (.int nn), .o ed, y5, y6, y7]) (by simp [lp]) ?_
      simp
    · obtain ⟨env, lp⟩ := h2 h
      refine ⟨env, ?_⟩
      generalize (List.replicate many (0 : Int)).map PyData.int = zd at *
      generalize ws.map sD = wd at *
      generalize sD t = td at *
      generalize (many : Int) = mm at *
      generalize (n : Int) = nn at *
      refine nxt (e1 := [.v (.int mm), .v td, .o wd, .v (.int nn), .o zd, .un, .un, .un]) (by simp [r0]) ?_
      refine nxt (e1 := [.v (.int mm), .v td, .o wd, .v (.int nn), .o zd, .v (.int (-1)), .un, .un]) (by simp) ?_
      simp [lp]
  -- the end, once the number is known
  have fin : ∀ (n : Nat) (ws : List (List Nat)) (X : Sv), (∀ v ∈ ws, As v ∧ v.length ≤ 640) → X [.v (.int (many : Int)), .v (sD t), .o ((wsL 42 t).map sD), .v (.int 1), .un, .un, .un, .un] = .nx [.v (.int (many : Int)), .v (sD t), .o (ws.map sD), .v (.int (n : Int)), .un, .un, .un, .un] →
      runDef 8 (seqS (asgS 2 (splitE (varE 1) (cE (.str "*")))) (seqS (asgS 3 (cE (.int 1))) (seqS X (seqS (asgS 4 (op2 mulD (lstE [(cE (.int 0))]) (varE 0))) (seqS (asgS 5 (op1 negD (cE (.int 1)))) (seqS (forS (itQ (varE 2)) (bdN 6) fb0_read_term) (retS (tupE [(opN tupleD [(varE 4)]), (varE 3)])))))))) [.v (.int (many : Int)), .v (sD t)] = roT ((foldW many ws (-1) (List.replicate many 0)).map fun e => (e, n)) := fun n ws X hw hX => by
    obtain ⟨h1, h2⟩ := tail n ws hw
    have two : ∀ {q : RS} {Y : Sv}, Y [.v (.int (many : Int)), .v (sD t), .o (ws.map sD), .v (.int (n : Int)), .un, .un, .un, .un] = q → (seqS (asgS 2 (splitE (varE 1) (cE (.str "*")))) (seqS (asgS 3 (cE (.int 1))) (seqS X Y))) [.v (.int (many : Int)), .v (sD t), .un, .un, .un, .un, .un, .un] = q := fun {q Y} hY => by
      refine nxt (e1 := [.v (.int (many : Int)), .v (sD t), .o ((wsL 42 t).map sD), .un, .un, .un, .un, .un]) (by rw [asgS_s, se]; rfl) ?_
      refine nxt (e1 := [.v (.int (many : Int)), .v (sD t), .o ((wsL 42 t).map sD), .v (.int 1), .un, .un, .un, .un]) (by simp) ?_
      exact nxt hX hY
    cases hf : foldW many ws (-1) (List.replicate many 0) with
    | none =>
      obtain ⟨env, h3⟩ := h2 hf
      exact run_er (e := env) (two h3)
    | some e' => exact run_rt (two (h1 e' hf))
  unfold m_read_term b_read_term
  cases hq : wsL 42 t with
  | nil => exact absurd hq nw
  | cons w r =>
    have i0 : ixD (.list ((w :: r).map sD)) (.int 0) = some (.v (sD w)) := ixD_l0
    obtain ⟨wa, wl⟩ := aw w (by rw [hq]; exact List.mem_cons_self)
    have ar : ∀ v ∈ r, As v ∧ v.length ≤ 640 := fun v hv => aw v (by rw [hq]; exact List.mem_cons_of_mem _ hv)
    have aa : ∀ v ∈ w :: r, As v ∧ v.length ≤ 640 := fun v hv => aw v (by rw [hq]; exact hv)
    have ne0 := neS (a := w) (b := []) wa as_nil
    rw [← e0] at ne0
    have rt : readT many t = match numP (w :: r) with
      | none => none
      | some p => (foldW many p.2 (-1) (List.replicate many 0)).map fun e => (e, p.1) := by unfold readT; rw [hq]
    rw [hq] at fin
    rw [rt]
    cases w with
    | nil =>
      have : numP ([] :: r) = some (1, [] :: r) := rfl
      rw [this]
      refine fin 1 ([] :: r) _ aa ?_
      generalize ([] :: r).map sD = wd at *
      generalize sD t = td at *
      generalize sD [] = vd at *
      generalize (many : Int) = mm at *
      simp [i0, ne0]
    | cons c v =>
      have hn : decide (c :: v = []) = false := decide_eq_false (List.cons_ne_nil _ _)
      rw [hn] at ne0
      have ic : ixD (sD (c :: v)) (.int 0) = some (.v (sD [c])) := ixS (a := c :: v) (k := 0) (by omega) rfl
      have fd := fdigits (c := c)
      by_cases q : dgt c = true
      · rw [q] at fd
        have wo := whole_of_ok wa wl
        have sk : (Ar.c (sD (c :: v))).sl = .v (sD (c :: v)) := rfl
        have cu : cutD (((c :: v) :: r).map sD) (some 1) none = r.map sD := by
          show cutD (((c :: v) :: r).map sD) (some ((1 : Nat) : Int)) none = _
          rw [cut_lo (by simp)]; rfl
        have nr : neD (.list (r.map sD)) (.list []) = some (.v (.bool (!decide (r = [])))) := neD_pu (n := 1) (m := 1) (pu_list (pul_all fun d hd => by
            obtain ⟨w, hw, rfl⟩ := List.mem_map.mp hd
            exact pu_str (ar w hw).1)) (pu_list pul_nil) (by
          rw [decide_eq_true_eq]
          cases r <;> simp)
        cases hw : wholeL (c :: v) with
        | none =>
          have : numP ((c :: v) :: r) = none := by
            show (if dgt c = true then _ else _) = _
            rw [if_pos q, hw]
          rw [this]
          rw [hw] at wo
          have wo : m_whole_of [.v (sD (c :: v))] = .err c_NotWritten := wo
          refine run_er (e := [.v (.int (many : Int)), .v (sD t), .o (((c :: v) :: r).map sD), .v (.int 1), .un, .un, .un, .un]) ?_
          show _ = RS.err c_NotWritten _
          refine nxt (e1 := [.v (.int (many : Int)), .v (sD t), .o (((c :: v) :: r).map sD), .un, .un, .un, .un, .un]) (by
            show asgS 2 (splitE (varE 1) (cE (.str "*"))) [.v (.int (many : Int)), .v (sD t), .un, .un, .un, .un, .un, .un] = _
            rw [asgS_s, se, hq]; rfl) ?_
          refine nxt (e1 := [.v (.int (many : Int)), .v (sD t), .o (((c :: v) :: r).map sD), .v (.int 1), .un, .un, .un, .un]) (by simp) ?_
          generalize ((c :: v) :: r).map sD = wd at *
          generalize sD (c :: v) = vd at *
          generalize sD [c] = cd at *
          generalize sD t = td at *
          generalize (many : Int) = mm at *
          simp [i0, ne0, ic, fd, sk, wo]
        | some n =>
          rw [hw] at wo
          have wo : m_whole_of [.v (sD (c :: v))] = .ok (.v (.int (n : Int))) := wo
          by_cases z : n = 1 ∧ r ≠ []
          · have : numP ((c :: v) :: r) = none := by
              show (if dgt c = true then _ else _) = _
              rw [if_pos q, hw]
              exact if_pos z
            rw [this]
            have n1 : (n : Int) = 1 := by omega
            have z2 := z.2
            rw [decide_eq_false z2] at nr
            rw [n1] at wo
            refine run_er (e := [.v (.int (many : Int)), .v (sD t), .o (r.map sD), .v (.int 1), .un, .un, .un, .un]) ?_
            show _ = RS.err c_NotWritten _
            refine nxt (e1 := [.v (.int (many : Int)), .v (sD t), .o (((c :: v) :: r).map sD), .un, .un, .un, .un, .un]) (by
              show asgS 2 (splitE (varE 1) (cE (.str "*"))) [.v (.int (many : Int)), .v (sD t), .un, .un, .un, .un, .un, .un] = _
              rw [asgS_s, se, hq]; rfl) ?_
            refine nxt (e1 := [.v (.int (many : Int)), .v (sD t), .o (((c :: v) :: r).map sD), .v (.int 1), .un, .un, .un, .un]) (by simp) ?_
            generalize ((c :: v) :: r).map sD = wd at *
            generalize sD (c :: v) = vd at *
            generalize sD [c] = cd at *
            generalize sD t = td at *
            generalize r.map sD = rd at *
            generalize (many : Int) = mm at *
            simp [i0, ne0, ic, fd, sk, wo, cu, nr]
          · have : numP ((c :: v) :: r) = some (n, r) := by
              show (if dgt c = true then _ else _) = _
              rw [if_pos q, hw]
              exact if_neg z
            rw [this]
            refine fin n r _ ar ?_
            by_cases z1 : n = 1
            · have z2 : r = [] := Classical.byContradiction fun y => z ⟨z1, y⟩
              have n1 : (n : Int) = 1 := by omega
              rw [decide_eq_true z2] at nr
              rw [n1] at wo ⊢
              generalize ((c :: v) :: r).map sD = wd at *
              generalize sD (c :: v) = vd at *
              generalize sD [c] = cd at *
              generalize sD t = td at *
              generalize r.map sD = rd at *
              generalize (many : Int) = mm at *
              simp [i0, ne0, ic, fd, sk, wo, cu, nr]
            · have n1 : ¬ (n : Int) = 1 := by omega
              generalize ((c :: v) :: r).map sD = wd at *
              generalize sD (c :: v) = vd at *
              generalize sD [c] = cd at *
              generalize sD t = td at *
              generalize r.map sD = rd at *
              generalize (many : Int) = mm at *
              generalize (n : Int) = nn at *
              simp [i0, ne0, ic, fd, sk, wo, cu, n1]
      · have qf : dgt c = false := by cases h : dgt c <;> simp_all
        rw [qf] at fd
        have : numP ((c :: v) :: r) = some (1, (c :: v) :: r) := by
          show (if dgt c = true then _ else _) = _
          rw [if_neg q]
        rw [this]
        refine fin 1 ((c :: v) :: r) _ aa ?_
        generalize ((c :: v) :: r).map sD = wd at *
        generalize sD (c :: v) = vd at *
        generalize sD [c] = cd at *
        generalize sD t = td at *
        generalize (many : Int) = mm at *
        simp [i0, ne0, ic, fd]
end Lw
namespace Lw
open PySem L2 Q SX
/-! ### sums read: texts -/
def lastLt (e : List Int) (row : List Pz) : Bool := match row.getLast? with
  | none => true
  | some p => HT.lexLt e p.1
def loopR (ring : Int) (many : Nat) : Bool → List (List Nat) → Int → List Pz → Option (List Pz)
  | _, [], _, row => some row
  | true, w :: ws, _, row => if w = [43] then loopR ring many false ws 1 row else if w = [45] then loopR ring many false ws (-1) row else none
  | false, w :: ws, sg, row => match readT many w with
    | none => none
    | some p => if lastLt p.1 row = true ∧ (ring = 0 ∨ (0 < sg * (p.2 : Int) ∧ sg * (p.2 : Int) < ring)) then loopR ring many true ws sg (row ++ [(p.1, sg * (p.2 : Int))]) else none
def headR (t : List Nat) : Int × List (List Nat) := if t.take 1 = [45] then (-1, wsL 32 (t.drop 1)) else (1, wsL 32 t)
def readL (ring : Int) (many : Nat) (t : List Nat) : Option (List Pz) := if t = [48] then some [] else match loopR ring many false (headR t).2 (headR t).1 [] with
  | none => none
  | some row => if (headR t).2.length % 2 = 0 then none else some row
def roR (o : Option (List Pz)) : Ro := match o with
  | some row => .ok (.f (row.map tmZ))
  | none => .err c_NotWritten
theorem pm_in {w : List Nat} : inB (sD w) (.tuple [.str "+", .str "-"]) = some (decide (w = [43]) || decide (w = [45])) := by
  have e1 : PyData.eqv (.str "+") (sD w) = decide (w = [43]) := by
    show PyData.eqv (.str (S [43])) (.str (S w)) = _
    rw [PyData.eqv, S_beq_eq, decide_eq_decide]
    exact eq_comm
  have e2 : PyData.eqv (.str "-") (sD w) = decide (w = [45]) := by
    show PyData.eqv (.str (S [45])) (.str (S w)) = _
    rw [PyData.eqv, S_beq_eq, decide_eq_decide]
    exact eq_comm
  have : inB (sD w) (.tuple [.str "+", .str "-"]) = some ([PyData.str "+", PyData.str "-"].any fun z => PyData.eqv z (sD w)) := rfl
  rw [this, List.any_cons, List.any_cons, List.any_nil, e1, e2, Bool.or_false]
theorem last_ix {row : List Pz} {p : Pz} (h : row.getLast? = some p) : ixD (.list (row.map tmZ)) (.int (-1)) = some (.v (tmZ p)) := by
  have hl : 0 < row.length := by
    cases row with
    | nil => simp at h
    | cons a l => simp
  have e : atI (row.map tmZ) (-1) = some (tmZ p) := by
    unfold atI
    rw [List.length_map]
    have : ixN row.length (-1) = some (row.length - 1) := by
      unfold ixN
      rw [if_neg (by omega), if_pos (by omega)]
      congr 1
      omega
    rw [this]
    show (row.map tmZ)[row.length - 1]? = _
    rw [List.getElem?_map, ← List.getLast?_eq_getElem?, h]; rfl
  show (atI (row.map tmZ) (-1)).map Vl.v = _
  rw [e]; rfl
theorem geK {a b : List Int} : geX (keyD a) (keyD b) = some (.v (.bool (!HT.lexLt a b))) := geX_t
theorem rd_odd (ring many : Int) (t : Sl) (W : List (List Nat)) (aW : ∀ w ∈ W, As w) (rd : List D) (k : Nat) (hk : k % 2 = 1) {w : List Nat} (hw : W[k]? = some w) (sg : Int) (x7 : Sl) :
    fb0_read [.v (.int ring), .v (.int many), t, .v (.int sg), .o (W.map sD), .o rd, .v (.int (k : Int)), x7] = if w = [43] then .nx [.v (.int ring), .v (.int many), t, .v (.int 1), .o (W.map sD), .o rd, .v (.int (k : Int)), x7] else if w = [45] then .nx [.v (.int ring), .v (.int many), t, .v (.int (-1)), .o (W.map sD), .o rd, .v (.int (k : Int)), x7] else .err c_NotWritten [.v (.int ring), .v (.int many), t, .v (.int sg), .o (W.map sD), .o rd, .v (.int (k : Int)), x7] := by
  have ix : ixD (.list (W.map sD)) (.int (k : Int)) = some (.v (sD w)) := ixD_l (by omega) (by rw [Int.toNat_natCast, List.getElem?_map, hw]; rfl)
  have m2 : (k : Int) % 2 = 1 := by omega
  have pm := pm_in (w := w)
  have e45 : PyData.str "-" = sD [45] := by rfl
  have eq := eqS (a := w) (b := [45]) (aW w (List.mem_of_getElem? hw)) (as_by rfl)
  rw [← e45] at eq
  unfold fb0_read
  generalize W.map sD = wd at *
  generalize sD w = vd at *
  generalize (k : Int) = kk at *
  by_cases q1 : w = [43]
  · have q2 : ¬ w = [45] := by rw [q1]; decide
    rw [if_pos q1]
    rw [decide_eq_true q1] at pm
    rw [decide_eq_false q2] at eq
    simp [modD_pos, m2, ix, pm, eq]
  · rw [if_neg q1]
    rw [decide_eq_false q1] at pm
    by_cases q2 : w = [45]
    · rw [if_pos q2]
      rw [decide_eq_true q2] at pm eq
      simp [modD_pos, m2, ix, pm, eq]
    · rw [if_neg q2]
      rw [decide_eq_false q2] at pm
      simp [modD_pos, m2, ix, pm]
theorem rd_even (ring : Int) (many : Nat) (hm : 1 ≤ many ∧ many ≤ 4) (t : Sl) (W : List (List Nat)) (aW : ∀ w ∈ W, As w ∧ w.length ≤ 10000000 ∧ ∀ v ∈ wsL 42 w, v.length ≤ 640) (row : List Pz) (hl : row.length ≤ 10000000) (k : Nat) (hk : k % 2 = 0) {w : List Nat} (hw : W[k]? = some w) (sg : Int) (hs : sg = 1 ∨ sg = -1) (x7 : Sl) :
    (∀ p, readT many w = some p → lastLt p.1 row = true ∧ (ring = 0 ∨ (0 < sg * (p.2 : Int) ∧ sg * (p.2 : Int) < ring)) → ∃ y7, fb0_read [.v (.int ring), .v (.int (many : Int)), t, .v (.int sg), .o (W.map sD), .o (row.map tmZ), .v (.int (k : Int)), x7] = .nx [.v (.int ring), .v (.int (many : Int)), t, .v (.int sg), .o (W.map sD), .o ((row ++ [(p.1, sg * (p.2 : Int))]).map tmZ), .v (.int (k : Int)), y7]) ∧
    ((∀ p, readT many w = some p → ¬ (lastLt p.1 row = true ∧ (ring = 0 ∨ (0 < sg * (p.2 : Int) ∧ sg * (p.2 : Int) < ring)))) → ∃ env, fb0_read [.v (.int ring), .v (.int (many : Int)), t, .v (.int sg), .o (W.map sD), .o (row.map tmZ), .v (.int (k : Int)), x7] = .err c_NotWritten env) := by
  have ix : ixD (.list (W.map sD)) (.int (k : Int)) = some (.v (sD w)) := ixD_l (by omega) (by rw [Int.toNat_natCast, List.getElem?_map, hw]; rfl)
  have m2 : (k : Int) % 2 = 0 := by omega
  obtain ⟨wa, wl, wb⟩ := aW w (List.mem_of_getElem? hw)
  have rt := read_term_ok hm wa wl wb
  have sk : (Ar.s (sD w)).sl = .v (sD w) := rfl
  have la : (row.map tmZ).length < LIM := by rw [List.length_map]; exact Nat.lt_of_le_of_lt hl (by decide)
  have nr : neD (.list (row.map tmZ)) (.list []) = some (.v (.bool (!decide (row = [])))) := neD_pu (pu_tms row) (pu_list (n := 0) pul_nil) (by
    rw [decide_eq_true_eq]
    cases row <;> simp)
  cases hr : readT many w with
  | none =>
    rw [hr] at rt
    have rt : m_read_term [.v (.int (many : Int)), .v (sD w)] = .err c_NotWritten := rt
    refine ⟨fun p h => (nomatch h), fun _ => ⟨[.v (.int ring), .v (.int (many : Int)), t, .v (.int sg), .o (W.map sD), .o (row.map tmZ), .v (.int (k : Int)), x7], ?_⟩⟩
    unfold fb0_read
    generalize W.map sD = wd at *
    generalize sD w = vd at *
    generalize (k : Int) = kk at *
    generalize (many : Int) = mm at *
    generalize row.map tmZ = rd at *
    simp [modD_pos, m2, ix, rt]
  | some p =>
    rw [hr] at rt
    have rt : m_read_term [.v (.int (many : Int)), .v (sD w)] = .ok (.v (.tuple [keyD p.1, .int (p.2 : Int)])) := rt
    have mo : mulOk sg (p.2 : Int) := mulOk_l (by omega)
    have st : ∀ (X : Sv) (q : RS), X [.v (.int ring), .v (.int (many : Int)), t, .v (.int sg), .o (W.map sD), .o (row.map tmZ), .v (.int (k : Int)), .v (.tuple [keyD p.1, .int (p.2 : Int)])] = q → seqS (asgS 7 (callE m_read_term [(false, (varE 1)), (true, (op2 ixD (varE 4) (varE 6)))])) X [.v (.int ring), .v (.int (many : Int)), t, .v (.int sg), .o (W.map sD), .o (row.map tmZ), .v (.int (k : Int)), x7] = q := fun X q hX => by
      refine nxt (e1 := [.v (.int ring), .v (.int (many : Int)), t, .v (.int sg), .o (W.map sD), .o (row.map tmZ), .v (.int (k : Int)), .v (.tuple [keyD p.1, .int (p.2 : Int)])]) ?_ hX
      generalize W.map sD = wd at *
      generalize sD w = vd at *
      generalize (k : Int) = kk at *
      generalize (many : Int) = mm at *
      generalize row.map tmZ = rd at *
      generalize keyD p.1 = kd at *
      generalize (p.2 : Int) = nn at *
      simp [ix, rt]
    -- the test of the order
    have t1 : ∀ x : List D, (andT (toT (op2 neD (varE 5) (lstE []))) (toT (op2 geX (op2 ixD (varE 7) (cE (.int 0))) (op2 ixD (op2 ixD (varE 5) (op1 negD (cE (.int 1)))) (cE (.int 0)))))) [.v (.int ring), .v (.int (many : Int)), t, .v (.int sg), .o x, .o (row.map tmZ), .v (.int (k : Int)), .v (.tuple [keyD p.1, .int (p.2 : Int)])] = .ok (!lastLt p.1 row) [.v (.int ring), .v (.int (many : Int)), t, .v (.int sg), .o x, .o (row.map tmZ), .v (.int (k : Int)), .v (.tuple [keyD p.1, .int (p.2 : Int)])] := fun x => by
      cases hg : row.getLast? with
      | none =>
        have z : row = [] := List.getLast?_eq_none_iff.mp hg
        have : lastLt p.1 row = true := by unfold lastLt; rw [hg]
        rw [this]
        rw [decide_eq_true z] at nr
        generalize (k : Int) = kk at *
        generalize (many : Int) = mm at *
        generalize row.map tmZ = rd at *
        generalize keyD p.1 = kd at *
        generalize (p.2 : Int) = nn at *
        simp [nr]
      | some l =>
        have z : ¬ row = [] := fun z => by rw [z] at hg; simp at hg
        have : lastLt p.1 row = HT.lexLt p.1 l.1 := by unfold lastLt; rw [hg]
        rw [this]
        rw [decide_eq_false z] at nr
        have li := last_ix hg
        have l0 : ixD (tmZ l) (.int 0) = some (.v (keyD l.1)) := ixD_t0
        have ge := geK (a := p.1) (b := l.1)
        generalize (k : Int) = kk at *
        generalize (many : Int) = mm at *
        generalize row.map tmZ = rd at *
        generalize keyD p.1 = kd at *
        generalize keyD l.1 = ld at *
        generalize tmZ l = tl at *
        generalize (p.2 : Int) = nn at *
        simp [nr, li, l0, ge]
    have t2 : ∀ x : List D, (andT (toT (op2 neD (varE 0) (cE (.int 0)))) (notT (toT (chainE ltD ltD (cE (.int 0)) (op2 mulD (varE 3) (op2 ixD (varE 7) (cE (.int 1)))) (varE 0))))) [.v (.int ring), .v (.int (many : Int)), t, .v (.int sg), .o x, .o (row.map tmZ), .v (.int (k : Int)), .v (.tuple [keyD p.1, .int (p.2 : Int)])] = .ok (!decide (ring = 0 ∨ (0 < sg * (p.2 : Int) ∧ sg * (p.2 : Int) < ring))) [.v (.int ring), .v (.int (many : Int)), t, .v (.int sg), .o x, .o (row.map tmZ), .v (.int (k : Int)), .v (.tuple [keyD p.1, .int (p.2 : Int)])] := fun x => by
      generalize (k : Int) = kk at *
      generalize (many : Int) = mm at *
      generalize row.map tmZ = rd at *
      generalize keyD p.1 = kd at *
      generalize (p.2 : Int) = nn at *
      by_cases q : ring = 0
      · simp [q, neD_int]
      · by_cases q1 : 0 < sg * nn
        · by_cases q2 : sg * nn < ring
          · simp [q, neD_int, mulD_ok mo, q1, q2]
          · simp [q, neD_int, mulD_ok mo, q1, q2]
        · simp [q, neD_int, mulD_ok mo, q1]
    have sgn : mulD (.int sg) (.int (p.2 : Int)) = some (.v (.int (sg * (p.2 : Int)))) := mulD_ok mo
    refine ⟨fun p' h hc => ?_, fun h => ?_⟩
    · cases h
      obtain ⟨c1, c2⟩ := hc
      refine ⟨.v (.tuple [keyD p.1, .int (p.2 : Int)]), ?_⟩
      have t1 := t1 (W.map sD)
      have t2 := t2 (W.map sD)
      rw [c1] at t1
      rw [decide_eq_true c2] at t2
      have ea : (row ++ [(p.1, sg * (p.2 : Int))]).map tmZ = row.map tmZ ++ [.tuple [keyD p.1, .int (sg * (p.2 : Int))]] := by rw [List.map_append]; rfl
      rw [ea]
      unfold fb0_read
      have c0 : (toT (op2 eqD (op2 modD (varE 6) (cE (.int 2))) (cE (.int 1)))) [.v (.int ring), .v (.int (many : Int)), t, .v (.int sg), .o (W.map sD), .o (row.map tmZ), .v (.int (k : Int)), x7] = .ok false [.v (.int ring), .v (.int (many : Int)), t, .v (.int sg), .o (W.map sD), .o (row.map tmZ), .v (.int (k : Int)), x7] := by
        generalize W.map sD = wd at *
        generalize (k : Int) = kk at *
        generalize row.map tmZ = rd at *
        simp [modD_pos, m2]
      rw [ifS_s, c0]
      refine st _ _ ?_
      refine nxt (e1 := [.v (.int ring), .v (.int (many : Int)), t, .v (.int sg), .o (W.map sD), .o (row.map tmZ), .v (.int (k : Int)), .v (.tuple [keyD p.1, .int (p.2 : Int)])]) (by rw [ifS_s, t1]; rfl) ?_
      refine nxt (e1 := [.v (.int ring), .v (.int (many : Int)), t, .v (.int sg), .o (W.map sD), .o (row.map tmZ), .v (.int (k : Int)), .v (.tuple [keyD p.1, .int (p.2 : Int)])]) (by rw [ifS_s, t2]; rfl) ?_
      clear t1 t2 st c0
      generalize W.map sD = wd at *
      generalize (k : Int) = kk at *
      generalize (many : Int) = mm at *
      generalize row.map tmZ = rd at *
      generalize keyD p.1 = kd at *
      generalize (p.2 : Int) = nn at *
      simp [sgn, la]
    · have hn := h p rfl
      refine ⟨[.v (.int ring), .v (.int (many : Int)), t, .v (.int sg), .o (W.map sD), .o (row.map tmZ), .v (.int (k : Int)), .v (.tuple [keyD p.1, .int (p.2 : Int)])], ?_⟩
      have t1 := t1 (W.map sD)
      have t2 := t2 (W.map sD)
      unfold fb0_read
      have c0 : (toT (op2 eqD (op2 modD (varE 6) (cE (.int 2))) (cE (.int 1)))) [.v (.int ring), .v (.int (many : Int)), t, .v (.int sg), .o (W.map sD), .o (row.map tmZ), .v (.int (k : Int)), x7] = .ok false [.v (.int ring), .v (.int (many : Int)), t, .v (.int sg), .o (W.map sD), .o (row.map tmZ), .v (.int (k : Int)), x7] := by
        generalize W.map sD = wd at *
        generalize (k : Int) = kk at *
        generalize row.map tmZ = rd at *
        simp [modD_pos, m2]
      rw [ifS_s, c0]
      refine st _ _ ?_
      by_cases c1 : lastLt p.1 row = true
      · rw [c1] at t1
        have c2 : ¬ (ring = 0 ∨ (0 < sg * (p.2 : Int) ∧ sg * (p.2 : Int) < ring)) := fun z => hn ⟨c1, z⟩
        rw [decide_eq_false c2] at t2
        refine nxt (e1 := [.v (.int ring), .v (.int (many : Int)), t, .v (.int sg), .o (W.map sD), .o (row.map tmZ), .v (.int (k : Int)), .v (.tuple [keyD p.1, .int (p.2 : Int)])]) (by rw [ifS_s, t1]; rfl) ?_
        rw [seqS_s, ifS_s, t2]; rfl
      · have c1 : lastLt p.1 row = false := by cases z : lastLt p.1 row <;> simp_all
        rw [c1] at t1
        rw [seqS_s, ifS_s, t1]; rfl
theorem rd_loop (ring : Int) (many : Nat) (hm : 1 ≤ many ∧ many ≤ 4) (t : Sl) (W : List (List Nat)) (aW : ∀ w ∈ W, As w ∧ w.length ≤ 10000000 ∧ ∀ v ∈ wsL 42 w, v.length ≤ 640) :
    ∀ (n k : Nat) (sg : Int) (row : List Pz) (x6 x7 : Sl), k + n = W.length → (sg = 1 ∨ sg = -1) → row.length + n ≤ 10000000 →
    (∀ row', loopR ring many (decide (k % 2 = 1)) (W.drop k) sg row = some row' → ∃ y3 y6 y7, forL (bdN 6) fb0_read ((upI (k : Int) n).map PyData.int) [.v (.int ring), .v (.int (many : Int)), t, .v (.int sg), .o (W.map sD), .o (row.map tmZ), x6, x7] = .nx [.v (.int ring), .v (.int (many : Int)), t, y3, .o (W.map sD), .o (row'.map tmZ), y6, y7]) ∧
    (loopR ring many (decide (k % 2 = 1)) (W.drop k) sg row = none → ∃ env, forL (bdN 6) fb0_read ((upI (k : Int) n).map PyData.int) [.v (.int ring), .v (.int (many : Int)), t, .v (.int sg), .o (W.map sD), .o (row.map tmZ), x6, x7] = .err c_NotWritten env)
  | 0, k, sg, row, x6, x7, hk, _, _ => by
    have e : W.drop k = [] := List.drop_eq_nil_of_le (by omega)
    rw [e]
    have : loopR ring many (decide (k % 2 = 1)) [] sg row = some row := by cases decide (k % 2 = 1) <;> rfl
    rw [this]
    exact ⟨fun row' h => by cases h; exact ⟨_, _, _, rfl⟩, fun h => nomatch h⟩
  | n + 1, k, sg, row, x6, x7, hk, hs, hl => by
    have hlt : k < W.length := by omega
    have hw : W[k]? = some W[k] := List.getElem?_eq_getElem hlt
    have ed : W.drop k = W[k] :: W.drop (k + 1) := List.drop_eq_getElem_cons hlt
    have eu : upI (k : Int) (n + 1) = (k : Int) :: upI ((k + 1 : Nat) : Int) n := by
      show (k : Int) :: upI ((k : Int) + 1) n = _
      rw [show ((k + 1 : Nat) : Int) = (k : Int) + 1 by omega]
    rw [ed, eu, List.map_cons, forL_cons]
    simp only [bdN_s, List.set]
    by_cases q : k % 2 = 1
    · have pq : (k + 1) % 2 = 0 := by omega
      rw [rd_odd ring (many : Int) t W (fun w h => (aW w h).1) (row.map tmZ) k q hw sg x7, decide_eq_true q]
      have un : loopR ring many true (W[k] :: W.drop (k + 1)) sg row = if W[k] = [43] then loopR ring many false (W.drop (k + 1)) 1 row else if W[k] = [45] then loopR ring many false (W.drop (k + 1)) (-1) row else none := rfl
      rw [un]
      have pf : decide ((k + 1) % 2 = 1) = false := decide_eq_false (by omega)
      by_cases q1 : W[k] = [43]
      · rw [if_pos q1, if_pos q1]
        have := rd_loop ring many hm t W aW n (k + 1) 1 row (.v (.int (k : Int))) x7 (by omega) (.inl rfl) (by omega)
        rw [pf] at this
        exact this
      · rw [if_neg q1, if_neg q1]
        by_cases q2 : W[k] = [45]
        · rw [if_pos q2, if_pos q2]
          have := rd_loop ring many hm t W aW n (k + 1) (-1) row (.v (.int (k : Int))) x7 (by omega) (.inr rfl) (by omega)
          rw [pf] at this
          exact this
        · rw [if_neg q2, if_neg q2]
          exact ⟨fun row' h => (nomatch h), fun _ => ⟨_, rfl⟩⟩
    · have q0 : k % 2 = 0 := by omega
      rw [decide_eq_false q]
      obtain ⟨h1, h2⟩ := rd_even ring many hm t W aW row (by omega) k q0 hw sg hs x7
      have un : loopR ring many false (W[k] :: W.drop (k + 1)) sg row = match readT many W[k] with
        | none => none
        | some p => if lastLt p.1 row = true ∧ (ring = 0 ∨ (0 < sg * (p.2 : Int) ∧ sg * (p.2 : Int) < ring)) then loopR ring many true (W.drop (k + 1)) sg (row ++ [(p.1, sg * (p.2 : Int))]) else none := rfl
      rw [un]
      have pf : decide ((k + 1) % 2 = 1) = true := decide_eq_true (by omega)
      cases hr : readT many W[k] with
      | none =>
        obtain ⟨env, e⟩ := h2 fun p h => by rw [hr] at h; cases h
        rw [e]
        exact ⟨fun row' h => (nomatch h), fun _ => ⟨_, rfl⟩⟩
      | some p =>
        by_cases c : lastLt p.1 row = true ∧ (ring = 0 ∨ (0 < sg * (p.2 : Int) ∧ sg * (p.2 : Int) < ring))
        · obtain ⟨y7, e⟩ := h1 p hr c
          simp only [if_pos c]
          rw [e]
          have := rd_loop ring many hm t W aW n (k + 1) sg (row ++ [(p.1, sg * (p.2 : Int))]) (.v (.int (k : Int))) y7 (by omega) hs (by rw [List.length_append, List.length_singleton]; omega)
          rw [pf] at this
          exact this
        · obtain ⟨env, e⟩ := h2 fun p' h => by rw [hr] at h; cases h; exact c
          simp only [if_neg c]
          rw [e]
          exact ⟨fun row' h => (nomatch h), fun _ => ⟨_, rfl⟩⟩
/-- no part without blanks and stars is long -/
def Blk (t : List Nat) : Prop := ∀ b, Inf b t → 32 ∉ b → 42 ∉ b → b.length ≤ 640
theorem Blk.words {t : List Nat} (h : Blk t) (ha : As t) (hl : t.length ≤ 10000000) : ∀ w ∈ wsL 32 t, As w ∧ w.length ≤ 10000000 ∧ ∀ v ∈ wsL 42 w, v.length ≤ 640 := fun w hw => by
  have i := ws_inf (by decide) hw
  refine ⟨i.as ha, Nat.le_trans i.len hl, fun v hv => ?_⟩
  have j := ws_inf (by decide) hv
  refine h v (j.trans i) (fun z => ?_) (ws_free (by decide) w v hv)
  obtain ⟨x, y, e⟩ := j
  exact ws_free (by decide) t w hw (by rw [e]; exact List.mem_append_left _ (List.mem_append_right _ z))
theorem Inf.drop {t : List Nat} (k : Nat) : Inf (t.drop k) t := ⟨t.take k, [], by simp⟩
theorem Blk.inf {b t : List Nat} (h : Blk t) (i : Inf b t) : Blk b := fun c hc => h c (hc.trans i)
theorem nu_ok {m : Int} (h : 1 ≤ m ∧ m ≤ 4) : m_need_unknowns [.v (.int m)] = .ok (.v .none) := by
  have w : m_is_whole [.v (.int m)] = .ok (.v (.bool true)) := by simp [m_is_whole, b_is_whole, isiD, tyN]
  simp [m_need_unknowns, b_need_unknowns, w, h.1, h.2]
theorem read_ok {ring : Int} (hr : ring = 0 ∨ Pri ring) {many : Nat} (hm : 1 ≤ many ∧ many ≤ 4) {t : List Nat} (ha : As t) (hl : t.length ≤ 9000000) (hb : Blk t) : m_read [.v (.int ring), .v (.int (many : Int)), .v (sD t)] = roR (readL ring many t) := by
  have nk := need_ok (ring_of hr)
  have nu := nu_ok (m := (many : Int)) (by omega)
  have e48 : PyData.str "0" = sD [48] := by rfl
  have e45 : PyData.str "-" = sD [45] := by rfl
  have e32 : PyData.str " " = sD [32] := by rfl
  have eq0 := eqS (a := t) (b := [48]) ha (as_by rfl)
  have hk1 := toS (a := t) (k := 1) (by omega)
  have hd1 := fromS (a := t) (k := 1) (by omega)
  have eq1 := eqS (a := t.take 1) (b := [45]) (fun c hc => ha c (List.mem_of_mem_take hc)) (as_by rfl)
  rw [← e48] at eq0
  rw [← e45] at eq1
  have sk : (Ar.c (.int (many : Int))).sl = .v (.int (many : Int)) := rfl
  have two : ∀ (X : Sv) (q : RS), X [.v (.int ring), .v (.int (many : Int)), .v (sD t), .un, .un, .un, .un, .un] = q → seqS (dropS (callE m_need_ring [(false, (varE 0))])) (seqS (dropS (callE m_need_unknowns [(false, (varE 1))])) X) [.v (.int ring), .v (.int (many : Int)), .v (sD t), .un, .un, .un, .un, .un] = q := fun X q hX => by
    generalize sD t = td at *
    generalize (many : Int) = mm at *
    refine nxt (e1 := [.v (.int ring), .v (.int mm), .v td, .un, .un, .un, .un, .un]) (by simp [nk]) ?_
    refine nxt (e1 := [.v (.int ring), .v (.int mm), .v td, .un, .un, .un, .un, .un]) (by simp [nu]) hX
  by_cases q0 : t = [48]
  · have : readL ring many t = some [] := if_pos q0
    rw [this]
    rw [decide_eq_true q0] at eq0
    apply run_rt
    show b_read [.v (.int ring), .v (.int (many : Int)), .v (sD t), .un, .un, .un, .un, .un] = _
    unfold b_read
    refine two _ _ ?_
    generalize sD t = td at *
    generalize (many : Int) = mm at *
    simp [eq0]
  · rw [decide_eq_false q0] at eq0
    -- the words
    have hW : ∀ w ∈ (headR t).2, As w ∧ w.length ≤ 10000000 ∧ ∀ v ∈ wsL 42 w, v.length ≤ 640 := by
      unfold headR
      split
      · exact (hb.inf (Inf.drop 1)).words ((Inf.drop 1).as ha) (Nat.le_trans (Inf.drop 1).len (by omega))
      · exact hb.words ha (by omega)
    have nW : (headR t).2.length ≤ 9000002 := by
      unfold headR
      split
      · have := ws_num (c := 32) (by decide) (t.drop 1)
        have := (Inf.drop (t := t) 1).len
        show (wsL 32 (t.drop 1)).length ≤ _
        omega
      · have := ws_num (c := 32) (by decide) t
        show (wsL 32 t).length ≤ _
        omega
    have hs : (headR t).1 = 1 ∨ (headR t).1 = -1 := by unfold headR; split <;> simp
    have sp : ∀ (f : Ev) (u : List Nat) (e : En), u.length ≤ 9000000 → f e = .ok (.v (sD u)) e → splitE f (cE (.str " ")) e = .ok (.f ((wsL 32 u).map sD)) e := fun f u e hu hf => by
      have : splitE f (cE (.str " ")) e = bnd f (fun d => splitK d (cE (.str " "))) e := rfl
      rw [this, bnd_s, hf]
      show (if ((S [32]).length == 0) = false ∧ (S u).length + 2 ≤ LIM then R.ok (Vl.f ((Txt.split (S u) (S [32])).map PyData.str)) e else .no) = _
      rw [if_pos ⟨rfl, by rw [S_len]; exact Nat.le_trans (show _ ≤ 10000000 by omega) (by decide)⟩, split_D (by decide)]
    have three : ∀ (X : Sv) (q : RS), X [.v (.int ring), .v (.int (many : Int)), .v (sD t), .v (.int (headR t).1), .o ((headR t).2.map sD), .un, .un, .un] = q → (seqS (dropS (callE m_need_ring [(false, (varE 0))])) (seqS (dropS (callE m_need_unknowns [(false, (varE 1))])) (seqS (ifS (toT (op2 eqD (varE 2) (cE (.str "0")))) (retS (lstE [])) skipS) (seqS (asgS 3 (cE (.int 1))) (seqS (asgS 4 (splitE (varE 2) (cE (.str " ")))) (seqS (ifS (toT (op2 eqD (sliE (varE 2) none (some (cE (.int 1)))) (cE (.str "-")))) (seqS (asgS 3 (op1 negD (cE (.int 1)))) (asgS 4 (splitE (sliE (varE 2) (some (cE (.int 1))) none) (cE (.str " "))))) skipS) X)))))) [.v (.int ring), .v (.int (many : Int)), .v (sD t), .un, .un, .un, .un, .un] = q := fun X q hX => by
      refine two _ _ ?_
      have s1 := sp (varE 2) t [.v (.int ring), .v (.int (many : Int)), .v (sD t), .v (.int 1), .un, .un, .un, .un] hl rfl
      refine nxt (e1 := [.v (.int ring), .v (.int (many : Int)), .v (sD t), .un, .un, .un, .un, .un]) ?_ ?_
      · generalize sD t = td at *
        generalize (many : Int) = mm at *
        simp [eq0]
      refine nxt (e1 := [.v (.int ring), .v (.int (many : Int)), .v (sD t), .v (.int 1), .un, .un, .un, .un]) (by simp) ?_
      refine nxt (e1 := [.v (.int ring), .v (.int (many : Int)), .v (sD t), .v (.int 1), .o ((wsL 32 t).map sD), .un, .un, .un]) (by rw [asgS_s, s1]; rfl) ?_
      refine nxt ?_ hX
      by_cases q1 : t.take 1 = [45]
      · have eh : headR t = (-1, wsL 32 (t.drop 1)) := if_pos q1
        rw [eh]
        rw [decide_eq_true q1] at eq1
        have hd1 : sliD (sD t) (some 1) none = some (.v (sD (t.drop 1))) := hd1
        have hk1 : sliD (sD t) none (some 1) = some (.v (sD (t.take 1))) := hk1
        have s2 := sp (sliE (varE 2) (some (cE (.int 1))) none) (t.drop 1) [.v (.int ring), .v (.int (many : Int)), .v (sD t), .v (.int (-1)), .o ((wsL 32 t).map sD), .un, .un, .un] (Nat.le_trans (Inf.drop 1).len hl) (by
          generalize (wsL 32 t).map sD = wd at *
          generalize sD (t.drop 1) = ud at *
          generalize sD (t.take 1) = xd at *
          generalize sD t = td at *
          generalize (many : Int) = mm at *
          simp [hd1])
        have c0 : (toT (op2 eqD (sliE (varE 2) none (some (cE (.int 1)))) (cE (.str "-")))) [.v (.int ring), .v (.int (many : Int)), .v (sD t), .v (.int 1), .o ((wsL 32 t).map sD), .un, .un, .un] = .ok true [.v (.int ring), .v (.int (many : Int)), .v (sD t), .v (.int 1), .o ((wsL 32 t).map sD), .un, .un, .un] := by
          generalize (wsL 32 t).map sD = wd at *
          generalize sD (t.take 1) = xd at *
          generalize sD t = td at *
          generalize (many : Int) = mm at *
          simp [hk1, eq1]
        rw [ifS_s, c0]
        refine nxt (e1 := [.v (.int ring), .v (.int (many : Int)), .v (sD t), .v (.int (-1)), .o ((wsL 32 t).map sD), .un, .un, .un]) (by simp) ?_
        rw [asgS_s, s2]; rfl
      · have eh : headR t = (1, wsL 32 t) := if_neg q1
        rw [eh]
        rw [decide_eq_false q1] at eq1
        have hk1 : sliD (sD t) none (some 1) = some (.v (sD (t.take 1))) := hk1
        generalize (wsL 32 t).map sD = wd at *
        generalize sD (t.take 1) = xd at *
        generalize sD t = td at *
        generalize (many : Int) = mm at *
        simp [hk1, eq1]
    have un : readL ring many t = match loopR ring many false (headR t).2 (headR t).1 [] with
      | none => none
      | some row => if (headR t).2.length % 2 = 0 then none else some row := if_neg q0
    rw [un]
    generalize hsg : (headR t).1 = sg at *
    generalize hWd : (headR t).2 = W at *
    obtain ⟨h1, h2⟩ := rd_loop ring many hm (.v (sD t)) W hW W.length 0 sg [] .un .un (by omega) hs (by simp only [List.length_nil]; omega)
    have d0 : decide (0 % 2 = 1) = false := by decide
    rw [d0, List.drop_zero] at h1 h2
    have ln : lenD [.list (W.map sD)] = some (.v (.int (W.length : Int))) := by rw [lenD_l, List.length_map]
    have i6 : i62 (W.length : Int) := by unfold i62; omega
    have rl := rgL_up (n := W.length) (i := 0)
    have tn : (W.length : Int).toNat = W.length := Int.toNat_natCast _
    cases hlp : loopR ring many false W sg [] with
    | none =>
      obtain ⟨env, lp⟩ := h2 hlp
      refine run_er (e := env) ?_
      show b_read [.v (.int ring), .v (.int (many : Int)), .v (sD t), .un, .un, .un, .un, .un] = _
      unfold b_read
      refine three _ _ ?_
      have lp : forL (bdN 6) fb0_read ((upI 0 W.length).map PyData.int) [.v (.int ring), .v (.int (many : Int)), .v (sD t), .v (.int sg), .o (W.map sD), .o [], .un, .un] = .err c_NotWritten env := lp
      generalize (upI 0 W.length).map PyData.int = ud at *
      generalize W.map sD = wd at *
      generalize sD t = td at *
      generalize (many : Int) = mm at *
      generalize (W.length : Int) = wl at *
      refine nxt (e1 := [.v (.int ring), .v (.int mm), .v td, .v (.int sg), .o wd, .o [], .un, .un]) (by simp) ?_
      simp [ln, if_pos i6, tn, rl, lp]
    | some row =>
      obtain ⟨y3, y6, y7, lp⟩ := h1 row hlp
      have lp : forL (bdN 6) fb0_read ((upI 0 W.length).map PyData.int) [.v (.int ring), .v (.int (many : Int)), .v (sD t), .v (.int sg), .o (W.map sD), .o [], .un, .un] = .nx [.v (.int ring), .v (.int (many : Int)), .v (sD t), y3, .o (W.map sD), .o (row.map tmZ), y6, y7] := lp
      by_cases q2 : W.length % 2 = 0
      · simp only [if_pos q2]
        have m2 : (W.length : Int) % 2 = 0 := by omega
        refine run_er (e := [.v (.int ring), .v (.int (many : Int)), .v (sD t), y3, .o (W.map sD), .o (row.map tmZ), y6, y7]) ?_
        show b_read [.v (.int ring), .v (.int (many : Int)), .v (sD t), .un, .un, .un, .un, .un] = _
        unfold b_read
        refine three _ _ ?_
        generalize (upI 0 W.length).map PyData.int = ud at *
        generalize W.map sD = wd at *
        generalize sD t = td at *
        generalize (many : Int) = mm at *
        generalize (W.length : Int) = wl at *
        generalize row.map tmZ = rd at *
        refine nxt (e1 := [.v (.int ring), .v (.int mm), .v td, .v (.int sg), .o wd, .o [], .un, .un]) (by simp) ?_
        refine nxt (e1 := [.v (.int ring), .v (.int mm), .v td, y3, .o wd, .o rd, y6, y7]) (by simp [ln, if_pos i6, tn, rl, lp]) ?_
        simp [ln, modD_pos, m2]
      · simp only [if_neg q2]
        have m2 : ¬ (W.length : Int) % 2 = 0 := by omega
        apply run_rt
        show b_read [.v (.int ring), .v (.int (many : Int)), .v (sD t), .un, .un, .un, .un, .un] = _
        unfold b_read
        refine three _ _ ?_
        generalize (upI 0 W.length).map PyData.int = ud at *
        generalize W.map sD = wd at *
        generalize sD t = td at *
        generalize (many : Int) = mm at *
        generalize (W.length : Int) = wl at *
        generalize row.map tmZ = rd at *
        refine nxt (e1 := [.v (.int ring), .v (.int mm), .v td, .v (.int sg), .o wd, .o [], .un, .un]) (by simp) ?_
        refine nxt (e1 := [.v (.int ring), .v (.int mm), .v td, y3, .o wd, .o rd, y6, y7]) (by simp [ln, if_pos i6, tn, rl, lp]) ?_
        simp [ln, modD_pos, m2]
end Lw
namespace Lw
open PySem L2 Q SX
/-! ### what was written is read -/
theorem num_head {n : Nat} (h : 1 ≤ n) : ∃ c v, TL.numL n = c :: v ∧ 49 ≤ c ∧ c ≤ 57 := by
  induction n using Nat.strongRecOn with  -- q
  | _ n ih =>
    by_cases q : n < 10
    · exact ⟨48 + n, [], TL.numL_lt q, by omega, by omega⟩
    · obtain ⟨c, v, e, h1, h2⟩ := ih (n / 10) (by omega) (by omega)
      exact ⟨c, v ++ [48 + n % 10], by rw [TL.numL_step (by omega), e]; rfl, h1, h2⟩
theorem num_dgt (n : Nat) : (TL.numL n).all dgt = true := List.all_eq_true.mpr fun c hc => by
  have := TL.numL_digits n c hc
  unfold dgt
  simp; omega
theorem whole_num {n : Nat} (h : 1 ≤ n) : wholeL (TL.numL n) = some n := by
  obtain ⟨c, v, e, h1, h2⟩ := num_head h
  unfold wholeL
  rw [if_pos ⟨num_dgt n, TL.numL_ne n, by rw [e]; simp; omega⟩, TL.numL_val]
theorem num_two {n : Nat} : (TL.numL n).length ≤ 2 ↔ n ≤ 99 := by
  constructor
  · intro h
    refine Classical.byContradiction fun z => ?_
    rw [TL.numL_step (by omega), TL.numL_step (n := n / 10) (by omega), List.length_append, List.length_append] at h
    have := List.length_pos_iff.mpr (TL.numL_ne (n / 10 / 10))
    simp only [List.length_singleton] at h
    omega
  · intro h
    exact TL.numL_len (by decide) (by omega)
theorem ltr_x {k : Nat} (h : k < 4) : ltr (xL k) = some k := by
  have : k = 0 ∨ k = 1 ∨ k = 2 ∨ k = 3 := by omega
  rcases this with e | e | e | e <;> subst e <;> rfl
theorem x_of {k : Nat} (h : k < 4) : 119 ≤ xL k ∧ xL k ≤ 122 := by
  have : k = 0 ∨ k = 1 ∨ k = 2 ∨ k = 3 := by omega
  rcases this with e | e | e | e <;> subst e <;> decide
/-- signs of terms -/
def Tsg (c : Nat) : Prop := c = 94 ∨ (48 ≤ c ∧ c ≤ 57) ∨ (119 ≤ c ∧ c ≤ 122)
theorem tsg_num (n : Nat) : ∀ c ∈ TL.numL n, Tsg c := fun c hc => by
  have := TL.numL_digits n c hc
  exact .inr (.inl (by omega))
theorem tsg_word {k : Nat} (hk : k < 4) {e : Int} : ∀ w ∈ wordL k e, ∀ c ∈ w, Tsg c := fun w hw c hc => by
  have := x_of hk
  unfold wordL at hw
  split at hw
  · rw [List.mem_singleton.mp hw] at hc
    rw [List.mem_singleton.mp hc]; exact .inr (.inr this)
  · split at hw
    · rw [List.mem_singleton.mp hw] at hc
      rcases List.mem_cons.mp hc with q | q
      · rw [q]; exact .inr (.inr this)
      · rcases List.mem_cons.mp q with q | q  -- q
        · exact .inl q
        · exact tsg_num _ c q
    · exact (nomatch hw)
theorem tsg_letters {e : List Int} (hl : e.length ≤ 4) : ∀ w ∈ lettersL e, ∀ c ∈ w, Tsg c := fun w hw => by
  obtain ⟨k, h1, h⟩ := List.mem_flatMap.mp hw
  have := List.mem_range.mp h1
  exact tsg_word (by omega) w h
theorem tsg_words {e : List Int} (hl : e.length ≤ 4) {n : Nat} : ∀ w ∈ wordsL e n, ∀ c ∈ w, Tsg c := fun w hw => by
  unfold wordsL at hw
  split at hw
  · rcases List.mem_cons.mp hw with q | q
    · rw [q]; exact tsg_num n
    · exact tsg_letters hl w q
  · exact tsg_letters hl w hw
theorem words_ws {e : List Int} (hl : e.length ≤ 4) (n : Nat) : wsL 42 (termL e n) = wordsL e n := TL.spl_join (words_ne e n).1 fun p hp hc => by
  have := tsg_words hl p hp 42 hc
  unfold Tsg at this
  omega
theorem numP_words {e : List Int} (hl : e.length ≤ 4) {n : Nat} (h : 1 ≤ n) : numP (wordsL e n) = some (n, lettersL e) := by
  unfold wordsL
  by_cases q : n ≠ 1 ∨ lettersL e = []
  · rw [if_pos q]
    obtain ⟨c, v, ec, h1, h2⟩ := num_head h
    have wn := whole_num h
    rw [ec] at wn ⊢
    have d : dgt c = true := by unfold dgt; simp; omega
    show (if dgt c = true then _ else _) = _
    rw [if_pos d, wn]
    have : ¬ (n = 1 ∧ lettersL e ≠ []) := fun z => q.elim (fun y => y z.1) z.2
    show (if n = 1 ∧ lettersL e ≠ [] then none else some (n, lettersL e)) = _
    rw [if_neg this]
  · rw [if_neg q]
    have q1 : n = 1 := Classical.byContradiction fun z => q (.inl z)
    have q2 : lettersL e ≠ [] := fun z => q (.inr z)
    obtain ⟨w, r, ew⟩ := List.exists_cons_of_ne_nil q2
    have hw : w ∈ lettersL e := by rw [ew]; exact List.mem_cons_self
    obtain ⟨k, k1, k2⟩ := List.mem_flatMap.mp hw
    have k3 := List.mem_range.mp k1
    have : ∃ s, w = xL k :: s := by
      unfold wordL at k2
      split at k2
      · exact ⟨[], List.mem_singleton.mp k2⟩
      · split at k2
        · exact ⟨_, List.mem_singleton.mp k2⟩
        · exact (nomatch k2)
    obtain ⟨s, es⟩ := this
    have x := x_of (k := k) (by omega)
    have d : ¬ dgt (xL k) = true := by unfold dgt; simp; omega
    rw [ew, es, q1]
    show (if dgt (xL k) = true then _ else _) = _
    rw [if_neg d]
theorem ite_iff {α : Type} {p q : Prop} [Decidable p] [Decidable q] (h : p ↔ q) {a b : α} : (if p then a else b) = if q then a else b := by
  by_cases z : p
  · rw [if_pos z, if_pos (h.mp z)]
  · rw [if_neg z, if_neg fun y => z (h.mpr y)]
def zer (n : Nat) : List Int := List.replicate n 0
theorem fold_letters {e : List Int} (hl : e.length ≤ 4) (he : ∀ x ∈ e, 0 ≤ x ∧ x < 1000000000000) : ∀ (m k : Nat) (last : Int), k + m = e.length → last < (k : Int) →
    foldW e.length ((List.range' k m).flatMap fun k => wordL k (at0 e k)) last (e.take k ++ zer m) = if ∀ x ∈ e.drop k, x ≤ 99 then some e else none
  | 0, k, last, hk, _ => by
    have h1 : e.take k = e := List.take_of_length_le (by omega)
    have h2 : e.drop k = [] := List.drop_eq_nil_of_le (by omega)
    rw [h1, h2, if_pos (fun _ h => nomatch h)]
    show some (e ++ []) = _
    rw [List.append_nil]
  | m + 1, k, last, hk, hlast => by
    have hlt : k < e.length := by omega
    have ed : e.drop k = e[k] :: e.drop (k + 1) := List.drop_eq_getElem_cons hlt
    have et : e.take (k + 1) = e.take k ++ [e[k]] := by rw [List.take_add_one, List.getElem?_eq_getElem hlt]; rfl
    have ea : at0 e k = e[k] := by unfold at0; rw [List.getElem?_eq_getElem hlt]; rfl
    have hx := he e[k] (List.getElem_mem hlt)
    have hlk : (e.take k).length = k := by rw [List.length_take]; omega
    have zs : zer (m + 1) = 0 :: zer m := List.replicate_succ
    have setk : ∀ x : Int, (e.take k ++ zer (m + 1)).set k x = e.take k ++ x :: zer m := fun x => by
      rw [zs, List.set_append_right _ _ (by omega), hlk, Nat.sub_self]; rfl
    have rr : List.range' k (m + 1) = k :: List.range' (k + 1) m := List.range'_succ ..
    have app : ∀ x : Int, e[k] = x → e.take k ++ x :: zer m = e.take (k + 1) ++ zer m := fun x h => by rw [et, h]; simp
    have ih := fun last h => fold_letters hl he m (k + 1) last (by omega) h
    rw [rr, List.flatMap_cons, ea]
    by_cases q1 : e[k] = 1
    · have w : wordL k e[k] = [[xL k]] := if_pos q1
      rw [w]
      have pw : powerL [xL k] = some (k, 1) := by
        have lx := ltr_x (k := k) (by omega)
        simp only [powerL, lx]
      have st : foldW e.length ([[xL k]] ++ (List.range' (k + 1) m).flatMap fun k => wordL k (at0 e k)) last (e.take k ++ zer (m + 1)) = foldW e.length ((List.range' (k + 1) m).flatMap fun k => wordL k (at0 e k)) (k : Int) ((e.take k ++ zer (m + 1)).set k ((1 : Nat) : Int)) := by
        show foldW e.length ([xL k] :: _) last _ = _
        rw [foldW, pw]
        exact if_pos ⟨hlast, hlt⟩
      rw [st, setk, show ((1 : Nat) : Int) = 1 from rfl, app _ q1, ih _ (by omega), ed]
      have : (∀ x ∈ e[k] :: e.drop (k + 1), x ≤ 99) ↔ ∀ x ∈ e.drop (k + 1), x ≤ 99 := by
        rw [List.forall_mem_cons]
        exact ⟨fun h => h.2, fun h => ⟨by omega, h⟩⟩
      rw [ite_iff this]
    · by_cases q2 : e[k] > 1
      · have w : wordL k e[k] = [xL k :: 94 :: TL.numL e[k].toNat] := by unfold wordL; rw [if_neg q1, if_pos q2]
        rw [w]
        have pw : powerL (xL k :: 94 :: TL.numL e[k].toNat) = if e[k] ≤ 99 then some (k, e[k].toNat) else none := by
          have : powerL (xL k :: 94 :: TL.numL e[k].toNat) = if 94 = 94 ∧ (TL.numL e[k].toNat).length ≤ 2 ∧ TL.numL e[k].toNat ≠ [49] then (wholeL (TL.numL e[k].toNat)).map fun n => (k, n) else none := by
            have lx := ltr_x (k := k) (by omega)
            simp only [powerL, lx]
          rw [this]
          by_cases q3 : e[k] ≤ 99
          · have n49 : TL.numL e[k].toNat ≠ [49] := fun z => by
              have := congrArg NumText.digitsVal z
              rw [TL.numL_val] at this
              have : e[k].toNat = 1 := this
              omega
            rw [if_pos q3, if_pos ⟨rfl, num_two.mpr (by omega), n49⟩, whole_num (by omega)]
            rfl
          · rw [if_neg q3, if_neg fun z => q3 (by have := num_two.mp z.2.1; omega)]
        by_cases q3 : e[k] ≤ 99
        · rw [if_pos q3] at pw
          have st : foldW e.length ([xL k :: 94 :: TL.numL e[k].toNat] ++ (List.range' (k + 1) m).flatMap fun k => wordL k (at0 e k)) last (e.take k ++ zer (m + 1)) = foldW e.length ((List.range' (k + 1) m).flatMap fun k => wordL k (at0 e k)) (k : Int) ((e.take k ++ zer (m + 1)).set k ((e[k].toNat : Nat) : Int)) := by
            show foldW e.length ((xL k :: 94 :: TL.numL e[k].toNat) :: _) last _ = _
            rw [foldW, pw]
            exact if_pos ⟨hlast, hlt⟩
          rw [st, setk, app _ (by omega), ih _ (by omega), ed]
          have : (∀ x ∈ e[k] :: e.drop (k + 1), x ≤ 99) ↔ ∀ x ∈ e.drop (k + 1), x ≤ 99 := by
            rw [List.forall_mem_cons]
            exact ⟨fun h => h.2, fun h => ⟨by omega, h⟩⟩
          rw [ite_iff this]
        · rw [if_neg q3] at pw
          have st : foldW e.length ([xL k :: 94 :: TL.numL e[k].toNat] ++ (List.range' (k + 1) m).flatMap fun k => wordL k (at0 e k)) last (e.take k ++ zer (m + 1)) = none := by
            show foldW e.length ((xL k :: 94 :: TL.numL e[k].toNat) :: _) last _ = _
            rw [foldW, pw]
          rw [st, ed, if_neg fun h => q3 (h _ List.mem_cons_self)]
      · have q4 : e[k] = 0 := by omega
        have w : wordL k e[k] = [] := by unfold wordL; rw [if_neg q1, if_neg q2]
        rw [w, List.nil_append, zs, app _ q4, ih _ (by omega), ed]
        have : (∀ x ∈ e[k] :: e.drop (k + 1), x ≤ 99) ↔ ∀ x ∈ e.drop (k + 1), x ≤ 99 := by
          rw [List.forall_mem_cons]
          exact ⟨fun h => h.2, fun h => ⟨by omega, h⟩⟩
        rw [ite_iff this]
theorem readT_term {e : List Int} (hl : e.length ≤ 4) (he : ∀ x ∈ e, 0 ≤ x ∧ x < 1000000000000) {n : Nat} (h : 1 ≤ n) : readT e.length (termL e n) = if ∀ x ∈ e, x ≤ 99 then some (e, n) else none := by
  have f := fold_letters hl he e.length 0 (-1) (by omega) (by decide)
  rw [List.drop_zero, List.take_zero, List.nil_append, ← List.range_eq_range'] at f
  unfold readT
  rw [words_ws hl, numP_words hl h]
  show (foldW e.length (lettersL e) (-1) (zer e.length)).map (fun e => (e, n)) = _
  unfold lettersL
  rw [f]
  split <;> rfl
/-! the words of a sum's text -/
def sgW (n : Int) : List Nat := if n < 0 then [45] else [43]
def restW (ps : List Pz) : List (List Nat) := ps.flatMap fun p => [sgW p.2, termL p.1 p.2.natAbs]
theorem join_rest (w : List Nat) : ∀ ps : List Pz, TL.joinL [32] (w :: restW ps) = w ++ ps.flatMap fun p => sgnL false p.2 ++ termL p.1 p.2.natAbs
  | [] => by simp [restW, TL.joinL]
  | p :: ps => by
    have ih := join_rest (termL p.1 p.2.natAbs) ps
    have e : restW (p :: ps) = sgW p.2 :: termL p.1 p.2.natAbs :: restW ps := rfl
    have e2 : sgnL false p.2 = [32] ++ (sgW p.2 ++ [32]) := by
      unfold sgnL sgW
      rw [if_neg (by decide)]
      split <;> rfl
    rw [e]
    show w ++ ([32] ++ TL.joinL [32] (sgW p.2 :: termL p.1 p.2.natAbs :: restW ps)) = _
    have : TL.joinL [32] (sgW p.2 :: termL p.1 p.2.natAbs :: restW ps) = sgW p.2 ++ ([32] ++ TL.joinL [32] (termL p.1 p.2.natAbs :: restW ps)) := rfl
    rw [this, ih, List.flatMap_cons, e2]
    simp [List.append_assoc]
theorem fold_rest : ∀ (ps : List Pz) (f : List Nat), f ≠ [] → ps.foldl stepL f = f ++ ps.flatMap fun p => sgnL false p.2 ++ termL p.1 p.2.natAbs
  | [], f, _ => by simp
  | p :: ps, f, h => by
    rw [List.foldl_cons, fold_rest ps _ (step_ne f p), List.flatMap_cons]
    unfold stepL
    rw [decide_eq_false h]
    simp [List.append_assoc]
theorem shown_cons (p : Pz) (ps : List Pz) : shownL (p :: ps) = sgnL true p.2 ++ TL.joinL [32] (termL p.1 p.2.natAbs :: restW ps) := by
  have : shownL (p :: ps) = ps.foldl stepL (stepL [] p) := by
    unfold shownL
    rw [if_neg (List.cons_ne_nil _ _)]; rfl
  rw [this, fold_rest ps _ (step_ne [] p), join_rest]
  have e : stepL [] p = sgnL true p.2 ++ termL p.1 p.2.natAbs := by unfold stepL; simp
  rw [e, List.append_assoc]
theorem term_head {e : List Int} (hl : e.length ≤ 4) {n : Nat} (h : 1 ≤ n) : ∃ c v, termL e n = c :: v ∧ ((49 ≤ c ∧ c ≤ 57) ∨ (119 ≤ c ∧ c ≤ 122)) := by
  have key : ∀ {w : List Nat} {ws : List (List Nat)} {c : Nat} {v : List Nat}, w = c :: v → ∃ u, TL.joinL [42] (w :: ws) = c :: u := fun {w ws c v} e => by
    subst e
    cases ws with
    | nil => exact ⟨v, rfl⟩
    | cons x r => exact ⟨v ++ ([42] ++ TL.joinL [42] (x :: r)), rfl⟩
  unfold termL wordsL
  split
  · obtain ⟨c, v, ec, h1, h2⟩ := num_head h
    obtain ⟨u, e⟩ := key (ws := lettersL e) ec
    exact ⟨c, u, e, .inl ⟨h1, h2⟩⟩
  · rename_i q
    have q2 : lettersL e ≠ [] := fun z => q (.inr z)
    obtain ⟨w, r, ew⟩ := List.exists_cons_of_ne_nil q2
    have hw : w ∈ lettersL e := by rw [ew]; exact List.mem_cons_self
    obtain ⟨k, k1, k2⟩ := List.mem_flatMap.mp hw
    have k3 := List.mem_range.mp k1
    have : ∃ s, w = xL k :: s := by
      unfold wordL at k2
      split at k2
      · exact ⟨[], List.mem_singleton.mp k2⟩
      · split at k2
        · exact ⟨_, List.mem_singleton.mp k2⟩
        · exact (nomatch k2)
    obtain ⟨s, es⟩ := this
    obtain ⟨u, e⟩ := key (ws := r) es
    rw [ew]
    exact ⟨xL k, u, e, .inr (x_of (by omega))⟩
theorem joinL_head {w : List Nat} {s : List Nat} {ws : List (List Nat)} {c : Nat} {v : List Nat} (e : w = c :: v) : ∃ u, TL.joinL s (w :: ws) = c :: u := by
  subst e
  cases ws with
  | nil => exact ⟨v, rfl⟩
  | cons x r => exact ⟨v ++ (s ++ TL.joinL s (x :: r)), rfl⟩
theorem tsg_term {e : List Int} (hl : e.length ≤ 4) (n : Nat) : ∀ c ∈ termL e n, Tsg c ∨ c = 42 := by
  have key : ∀ ws : List (List Nat), (∀ w ∈ ws, ∀ c ∈ w, Tsg c) → ∀ c ∈ TL.joinL [42] ws, Tsg c ∨ c = 42 := fun ws => by
    induction ws with
    | nil => intro _ c hc; exact (nomatch hc)
    | cons w ws ih =>
      intro h c hc
      cases ws with
      | nil => exact .inl (h w List.mem_cons_self c hc)
      | cons v r =>
        have hc : c ∈ w ++ ([42] ++ TL.joinL [42] (v :: r)) := hc
        rcases List.mem_append.mp hc with q | q
        · exact .inl (h w List.mem_cons_self c q)
        · rcases List.mem_append.mp q with q | q  -- q
          · exact .inr (List.mem_singleton.mp q)
          · exact ih (fun x hx => h x (List.mem_cons_of_mem _ hx)) c q
  exact key _ (tsg_words hl)
theorem head_shown {p : Pz} {ps : List Pz} (hl : ∀ q ∈ p :: ps, q.1.length ≤ 4) (hz : p.2 ≠ 0) : headR (shownL (p :: ps)) = (if p.2 < 0 then -1 else 1, termL p.1 p.2.natAbs :: restW ps) ∧ shownL (p :: ps) ≠ [48] := by
  obtain ⟨c, v, ec, hc⟩ := term_head (hl p List.mem_cons_self) (n := p.2.natAbs) (by omega)
  obtain ⟨u, eu⟩ := joinL_head (s := [32]) (ws := restW ps) ec
  have ws : wsL 32 (TL.joinL [32] (termL p.1 p.2.natAbs :: restW ps)) = termL p.1 p.2.natAbs :: restW ps := TL.spl_join (List.cons_ne_nil _ _) fun w hw hq => by
    have tq : ∀ q ∈ p :: ps, 32 ∉ termL q.1 q.2.natAbs := fun q hq h => by
      have := tsg_term (hl q hq) q.2.natAbs 32 h
      unfold Tsg at this
      omega
    rcases List.mem_cons.mp hw with e | e
    · rw [e] at hq; exact tq p List.mem_cons_self hq
    · obtain ⟨q, h1, h2⟩ := List.mem_flatMap.mp e
      rcases List.mem_cons.mp h2 with z | z
      · rw [z] at hq
        unfold sgW at hq
        split at hq <;> (rw [List.mem_singleton] at hq; omega)
      · rw [List.mem_singleton.mp z] at hq
        exact tq q (List.mem_cons_of_mem _ h1) hq
  rw [shown_cons]
  by_cases q : p.2 < 0
  · have s : sgnL true p.2 = [45] := by unfold sgnL; rw [if_pos rfl, if_pos q]
    rw [s, if_pos q]
    refine ⟨?_, by simp⟩
    unfold headR
    rw [if_pos (by simp)]
    show (-1, wsL 32 (TL.joinL [32] (termL p.1 p.2.natAbs :: restW ps))) = _
    rw [ws]
  · have s : sgnL true p.2 = [] := by unfold sgnL; rw [if_pos rfl, if_neg q]
    rw [s, if_neg q, List.nil_append]
    refine ⟨?_, fun z => by rw [eu] at z; simp at z; omega⟩
    unfold headR
    rw [if_neg (by rw [eu]; simp; omega), ws]
/-- a term that may be read -/
structure RdOk (ring : Int) (many : Nat) (p : Pz) : Prop where
  l : p.1.length = many
  e : ∀ x ∈ p.1, 0 ≤ x ∧ x < 1000000000000
  z : p.2 ≠ 0
  r : ring = 0 ∨ (0 < p.2 ∧ p.2 < ring)
def low (ps : List Pz) : Prop := ∀ p ∈ ps, ∀ x ∈ p.1, x ≤ 99
theorem sg_abs {n : Int} (sg : Int) (h : sg = if n < 0 then -1 else 1) : sg * (n.natAbs : Int) = n := by
  by_cases q : n < 0
  · rw [if_pos q] at h; rw [h]; omega
  · rw [if_neg q] at h; rw [h]; omega
open Classical in
theorem loop_rest {ring : Int} {many : Nat} (hm : many ≤ 4) : ∀ (ps : List Pz) (p : Pz) (acc : List Pz), (∀ q ∈ p :: ps, RdOk ring many q) → ((acc ++ p :: ps).Pairwise fun p q => HT.lexLt q.1 p.1 = true) →
    loopR ring many false (termL p.1 p.2.natAbs :: restW ps) (if p.2 < 0 then -1 else 1) acc = if low (p :: ps) then some (acc ++ p :: ps) else none
  | ps, p, acc, h, hf => by
    have hp := h p List.mem_cons_self
    have rt := readT_term (e := p.1) (by rw [hp.l]; exact hm) hp.e (n := p.2.natAbs) (by have := hp.z; omega)
    rw [hp.l] at rt
    have sa := sg_abs (n := p.2) _ rfl
    have un : loopR ring many false (termL p.1 p.2.natAbs :: restW ps) (if p.2 < 0 then -1 else 1) acc = match readT many (termL p.1 p.2.natAbs) with
      | none => none
      | some x => if lastLt x.1 acc = true ∧ (ring = 0 ∨ (0 < (if p.2 < 0 then -1 else 1) * (x.2 : Int) ∧ (if p.2 < 0 then -1 else 1) * (x.2 : Int) < ring)) then loopR ring many true (restW ps) (if p.2 < 0 then -1 else 1) (acc ++ [(x.1, (if p.2 < 0 then -1 else 1) * (x.2 : Int))]) else none := rfl
    rw [un]
    by_cases q : ∀ x ∈ p.1, x ≤ 99
    · rw [if_pos q] at rt
      rw [rt]
      show (if lastLt p.1 acc = true ∧ (ring = 0 ∨ (0 < (if p.2 < 0 then -1 else 1) * (p.2.natAbs : Int) ∧ (if p.2 < 0 then -1 else 1) * (p.2.natAbs : Int) < ring)) then loopR ring many true (restW ps) (if p.2 < 0 then -1 else 1) (acc ++ [(p.1, (if p.2 < 0 then -1 else 1) * (p.2.natAbs : Int))]) else none) = _
      rw [sa]
      have ll : lastLt p.1 acc = true := by
        unfold lastLt
        cases hg : acc.getLast? with
        | none => rfl
        | some l =>
          have hl : l ∈ acc := List.mem_of_getLast? hg
          exact (List.pairwise_append.mp hf).2.2 l hl p List.mem_cons_self
      rw [if_pos ⟨ll, hp.r⟩]
      have pe : (p.1, p.2) = p := rfl
      rw [pe]
      cases ps with
      | nil =>
        have lo : low [p] := fun x hx => by rw [List.mem_singleton.mp hx]; exact q
        rw [if_pos lo]
        show some (acc ++ [p]) = _
        rfl
      | cons r ps =>
        have ih := loop_rest hm ps r (acc ++ [p]) (fun x hx => h x (List.mem_cons_of_mem _ hx)) (by rw [List.append_assoc]; exact hf)
        have rw1 : restW (r :: ps) = sgW r.2 :: termL r.1 r.2.natAbs :: restW ps := rfl
        have un2 : loopR ring many true (sgW r.2 :: termL r.1 r.2.natAbs :: restW ps) (if p.2 < 0 then -1 else 1) (acc ++ [p]) = if sgW r.2 = [43] then loopR ring many false (termL r.1 r.2.natAbs :: restW ps) 1 (acc ++ [p]) else if sgW r.2 = [45] then loopR ring many false (termL r.1 r.2.natAbs :: restW ps) (-1) (acc ++ [p]) else none := rfl
        have go : loopR ring many true (restW (r :: ps)) (if p.2 < 0 then -1 else 1) (acc ++ [p]) = loopR ring many false (termL r.1 r.2.natAbs :: restW ps) (if r.2 < 0 then -1 else 1) (acc ++ [p]) := by
          rw [rw1, un2]
          unfold sgW
          by_cases z : r.2 < 0
          · rw [if_pos z, if_pos z, if_neg (by decide), if_pos rfl]
          · rw [if_neg z, if_neg z, if_pos rfl]
        rw [go, ih]
        have : low (r :: ps) ↔ low (p :: r :: ps) := ⟨fun y x hx => (List.mem_cons.mp hx).elim (fun e => by rw [e]; exact q) (y x), fun y x hx => y x (List.mem_cons_of_mem _ hx)⟩
        rw [ite_iff this, List.append_assoc]; rfl
    · rw [if_neg q] at rt
      rw [rt]
      show none = _
      rw [if_neg (fun y : low (p :: ps) => q (y p List.mem_cons_self))]
theorem rest_len : ∀ ps : List Pz, (restW ps).length = 2 * ps.length
  | [] => rfl
  | r :: ps => by
    have e : restW (r :: ps) = sgW r.2 :: termL r.1 r.2.natAbs :: restW ps := rfl
    rw [e, List.length_cons, List.length_cons, List.length_cons, rest_len ps]
    omega
open Classical in
theorem read_shown {ring : Int} {many : Nat} (hm : many ≤ 4) {row : List Pz} (h : ∀ p ∈ row, RdOk ring many p) (hf : row.Pairwise fun p q => HT.lexLt q.1 p.1 = true) : readL ring many (shownL row) = if low row then some row else none := by
  cases row with
  | nil =>
    rw [if_pos (show low [] from fun _ h => (nomatch h))]; rfl
  | cons p ps =>
    obtain ⟨h1, h2⟩ := head_shown (p := p) (ps := ps) (fun q hq => by rw [(h q hq).l]; exact hm) (h p List.mem_cons_self).z
    have lp := loop_rest hm ps p [] h hf
    have un : readL ring many (shownL (p :: ps)) = match loopR ring many false (headR (shownL (p :: ps))).2 (headR (shownL (p :: ps))).1 [] with
      | none => none
      | some row => if (headR (shownL (p :: ps))).2.length % 2 = 0 then none else some row := if_neg h2
    rw [un, h1]
    show (match loopR ring many false (termL p.1 p.2.natAbs :: restW ps) (if p.2 < 0 then -1 else 1) [] with
      | none => none
      | some row => if (termL p.1 p.2.natAbs :: restW ps).length % 2 = 0 then none else some row) = _
    rw [lp]
    have ln : (termL p.1 p.2.natAbs :: restW ps).length % 2 = 1 := by
      rw [List.length_cons, rest_len]
      omega
    by_cases q : low (p :: ps)
    · rw [if_pos q]
      simp only [ln]
      rw [if_pos q]; rfl
    · rw [if_neg q, if_neg q]
end Lw
namespace Lw
open PySem L2 Q SX
/-! ### parts of written texts are short -/
def BlkN (m : Nat) (t : List Nat) : Prop := ∀ b, Inf b t → 32 ∉ b → 42 ∉ b → b.length ≤ m
theorem BlkN.blk {m : Nat} {t : List Nat} (h : BlkN m t) (hm : m ≤ 640) : Blk t := fun b i h1 h2 => Nat.le_trans (h b i h1 h2) hm
theorem inf_cut {s : Nat} {w r b : List Nat} (hs : s ∉ b) (h : Inf b (w ++ s :: r)) : Inf b w ∨ Inf b r := by
  obtain ⟨x, y, e⟩ := h
  rw [List.append_assoc] at e
  rcases List.append_eq_append_iff.mp e with ⟨a, e1, e2⟩ | ⟨c, e1, e2⟩
  · cases a with
    | nil =>
      rw [List.append_nil] at e1
      rw [List.nil_append] at e2
      cases b with
      | nil => exact .inl ⟨w, [], by simp⟩
      | cons z b =>
        rw [List.cons_append] at e2
        injection e2 with e3 e4
        exact absurd (by rw [e3]; exact List.mem_cons_self) hs
    | cons z a =>
      rw [List.cons_append] at e2
      injection e2 with e3 e4
      exact .inr ⟨a, y, by rw [e4, List.append_assoc]⟩
  · rcases List.append_eq_append_iff.mp e2 with ⟨d, e3, e4⟩ | ⟨d, e3, e4⟩
    · rw [e3] at e1
      exact .inl ⟨x, d, by rw [e1, List.append_assoc]⟩
    · cases d with
      | nil =>
        rw [List.append_nil] at e3
        exact .inl ⟨x, [], by rw [e1, e3, List.append_nil]⟩
      | cons z d =>
        rw [List.cons_append] at e4
        injection e4 with e5 e6
        exact absurd (by rw [e3, e5]; exact List.mem_append_right _ List.mem_cons_self) hs
theorem inf_joinL {s : Nat} {b : List Nat} (hs : s ∉ b) : ∀ {ws : List (List Nat)}, Inf b (TL.joinL [s] ws) → b = [] ∨ ∃ w ∈ ws, Inf b w
  | [], ⟨x, y, e⟩ => .inl (by
    have e : [] = x ++ b ++ y := e
    have := congrArg List.length e
    simp only [List.length_append, List.length_nil] at this
    exact List.length_eq_zero_iff.mp (by omega))
  | [w], h => .inr ⟨w, List.mem_cons_self, h⟩
  | w :: v :: r, h => by
    have h : Inf b (w ++ s :: TL.joinL [s] (v :: r)) := h
    rcases inf_cut hs h with q | q
    · exact .inr ⟨w, List.mem_cons_self, q⟩
    · rcases inf_joinL hs q with z | ⟨u, h1, h2⟩
      · exact .inl z
      · exact .inr ⟨u, List.mem_cons_of_mem _ h1, h2⟩
theorem joinL_pre (s a w : List Nat) (ws : List (List Nat)) : a ++ TL.joinL s (w :: ws) = TL.joinL s ((a ++ w) :: ws) := by
  cases ws with
  | nil => rfl
  | cons v r =>
    show a ++ (w ++ (s ++ TL.joinL s (v :: r))) = (a ++ w) ++ (s ++ TL.joinL s (v :: r))
    rw [List.append_assoc]
theorem inf_len_pre {a b w : List Nat} (h : Inf b (a ++ w)) : b.length ≤ a.length + w.length := by
  have := h.len
  rwa [List.length_append] at this
theorem term_blk {e : List Int} {n m : Nat} (hw : ∀ w ∈ wordsL e n, w.length ≤ m) (a : List Nat) {b : List Nat} (h : Inf b (a ++ termL e n)) (hb : 42 ∉ b) : b.length ≤ a.length + m := by
  obtain ⟨w, r, ew⟩ := List.exists_cons_of_ne_nil (words_ne e n).1
  unfold termL at h
  rw [ew, joinL_pre] at h
  rcases inf_joinL hb h with z | ⟨u, h1, h2⟩
  · rw [z]; exact Nat.zero_le _
  · rcases List.mem_cons.mp h1 with q | q
    · rw [q] at h2
      have := inf_len_pre h2
      have := hw w (by rw [ew]; exact List.mem_cons_self)
      omega
    · have := h2.len
      have := hw u (by rw [ew]; exact List.mem_cons_of_mem _ q)
      omega
theorem shown_blk {m : Nat} (hm : 1 ≤ m) {row : List Pz} (h : ∀ p ∈ row, ∀ w ∈ wordsL p.1 p.2.natAbs, w.length ≤ m) : BlkN (m + 1) (shownL row) := fun b hi h1 h2 => by
  cases row with
  | nil =>
    have := hi.len
    have e : (shownL []).length = 1 := rfl
    omega
  | cons p ps =>
    rw [shown_cons, joinL_pre] at hi
    rcases inf_joinL h1 hi with z | ⟨u, q1, q2⟩
    · rw [z]; exact Nat.zero_le _
    · rcases List.mem_cons.mp q1 with q | q
      · rw [q] at q2
        have := term_blk (h p List.mem_cons_self) _ q2 h2
        have s : (sgnL true p.2).length ≤ 1 := by unfold sgnL; rw [if_pos rfl]; split <;> decide
        omega
      · obtain ⟨r, r1, r2⟩ := List.mem_flatMap.mp q
        rcases List.mem_cons.mp r2 with z | z
        · rw [z] at q2
          have := q2.len
          have : (sgW r.2).length = 1 := by unfold sgW; split <;> rfl
          omega
        · rw [List.mem_singleton.mp z] at q2
          have := term_blk (h r (List.mem_cons_of_mem _ r1)) [] (by rw [List.nil_append]; exact q2) h2
          rw [List.length_nil] at this
          omega
theorem shown_as {row : List Pz} : As (shownL row) := by
  unfold shownL
  split
  · exact as_by rfl
  · have key : ∀ (ps : List Pz) (f : List Nat), As f → As (ps.foldl stepL f) := fun ps => by
      induction ps with
      | nil => intro f h; exact h
      | cons p ps ih => intro f h; exact ih _ (step_as h p)
    exact key row [] as_nil
theorem shown_len {row : List Pz} (h : ∀ p ∈ row, WrOk p) : (shownL row).length ≤ 1 + row.length * 4003 := by
  unfold shownL
  split
  · rename_i z; rw [z]; decide
  · have key : ∀ (ps : List Pz) (f : List Nat), (∀ p ∈ ps, WrOk p) → (ps.foldl stepL f).length ≤ f.length + ps.length * 4003 := fun ps => by
      induction ps with
      | nil => intro f _; simp
      | cons p ps ih =>
        intro f h
        have := ih (stepL f p) fun q hq => h q (List.mem_cons_of_mem _ hq)
        have := step_len (f := f) (h p List.mem_cons_self)
        rw [List.foldl_cons, List.length_cons, Nat.succ_mul]
        omega
    have := key row [] h
    rw [List.length_nil] at this
    omega
theorem words_len_d {e : List Int} (he : ∀ x ∈ e, 0 ≤ x ∧ x < 1000000000000) {n d : Nat} (hd : 14 ≤ d) (h : n < 10 ^ d) : ∀ w ∈ wordsL e n, w.length ≤ d := fun w hw => by
  have l := letters_short he
  unfold wordsL at hw
  split at hw
  · rcases List.mem_cons.mp hw with q | q
    · rw [q]; exact TL.numL_len (by omega) h
    · have := l w q; omega
  · have := l w hw; omega
end Lw
namespace Lw
open PySem L2 Q
theorem lc_map {α : Type} {g h : α → D} {i : Nat} {f : Ev} {e : En} (he : e.set i .un = e) : ∀ (xs : List α) (acc : List D), (∀ x ∈ xs, ∃ v, f (e.set i (.v (g x))) = .ok v (e.set i (.v (g x))) ∧ ∀ e' : En, still e' v = some (h x, e')) → lcL (bdN i) tt f [i] (xs.map g) acc e = .ok (acc ++ xs.map h) e
  | [], acc, _ => by simp
  | x :: xs, acc, H => by
    obtain ⟨v, h1, h2⟩ := H x List.mem_cons_self
    have ih := lc_map he xs (acc ++ [h x]) fun y hy => H y (List.mem_cons_of_mem _ hy)
    rw [List.map_cons, lcL_cons]
    simp only [bdN_s, tt_s, argE_t, h1, h2]
    simp only [List.set_set, wipeE_1, wipeE_n, he, Ar.d_s]
    rw [ih]
    simp
end Lw
namespace Lw
open PySem L2 Q SX
/-! ### k10: rows, exponents beyond 99 -/
structure RowT (r m : Int) (row : List Pz) : Prop where
  t : ∀ p ∈ row, TmOk m 195 p
  f : row.Pairwise fun p q => HT.lexLt q.1 p.1 = true
  z : ∀ p ∈ row, p.2 ≠ 0
  g : r = 0 ∨ ∀ p ∈ row, 0 < p.2 ∧ p.2 < r
  l : row.length ≤ 31
theorem rowT_gat {r m : Int} (hr : r = 0 ∨ Pri r) {ps : List Pz} (h : ∀ p ∈ ps, TmOk m 190 p) (hl : ps.length ≤ 31) : RowT r m (gat r ps) := by
  have gl := gat_len r ps
  refine ⟨gat_tm hr (c := 5) h (by omega) (by omega), gat_fall r ps, fun p hp => (mem_gat.mp hp).2, ?_, by omega⟩
  rcases hr with e | e
  · exact .inl e
  · refine .inr fun p hp => ?_
    obtain ⟨h1, h2⟩ := mem_gat.mp hp
    have r2 := e.1
    have : inR r (coef ps p.1) = coef ps p.1 % r := if_neg (by omega)
    rw [this] at h1
    have := Int.emod_nonneg (coef ps p.1) (show r ≠ 0 by omega)
    have := Int.emod_lt_of_pos (coef ps p.1) (show 0 < r by omega)
    omega
theorem n195 {n : Int} (h : n.natAbs < 2 ^ 195) : n.natAbs < 2 ^ 1900 ∧ n.natAbs < 10 ^ 60 := ⟨Nat.lt_of_lt_of_le h (Nat.pow_le_pow_right (by decide) (by decide)), Nat.lt_of_lt_of_le h (by decide)⟩
theorem TmOk.wr {m : Int} (hm : 1 ≤ m ∧ m ≤ 4) {p : Pz} (h : TmOk m 195 p) (hz : p.2 ≠ 0) : WrOk p := ⟨by have := h.l; omega, fun x hx => by have := h.e x hx; omega, (n195 h.n).1, hz⟩
def farZ (s : Int) (row : List Pz) : List Pz := row.map fun p => (p.1.map fun x => x * s, p.2)
theorem far_wr {m s : Int} (hm : 1 ≤ m ∧ m ≤ 4) (hs : 1 ≤ s ∧ s ≤ 2000000) {row : List Pz} (h : ∀ p ∈ row, TmOk m 195 p) (hz : ∀ p ∈ row, p.2 ≠ 0) : ∀ p ∈ farZ s row, WrOk p := fun p hp => by
  obtain ⟨q, hq, rfl⟩ := List.mem_map.mp hp  -- q
  have w := (h q hq).wr hm (hz q hq)
  refine ⟨by show 1 ≤ (q.1.map _).length ∧ _; rw [List.length_map]; exact w.l, fun x hx => ?_, w.n, w.z⟩
  obtain ⟨y, hy, rfl⟩ := List.mem_map.mp hx  -- q
  have := (h q hq).e y hy
  have a1 : 0 ≤ y * s := Int.mul_nonneg this.1 (by omega)
  have a2 : y * s ≤ 99 * 2000000 := Int.mul_le_mul this.2 hs.2 (by omega) (by decide)
  omega
theorem lex_far {s : Int} (hs : 1 ≤ s) : ∀ a b : List Int, HT.lexLt (a.map fun x => x * s) (b.map fun x => x * s) = HT.lexLt a b
  | [], [] => rfl
  | [], _ :: _ => rfl
  | _ :: _, [] => rfl
  | x :: a, y :: b => by
    have e : (x * s = y * s) ↔ x = y := ⟨fun h => Int.eq_of_mul_eq_mul_right (by omega) h, fun h => by rw [h]⟩
    have l : (x * s < y * s) ↔ x < y := ⟨fun h => Int.lt_of_mul_lt_mul_right h (by omega), fun h => Int.mul_lt_mul_of_pos_right h (by omega)⟩
    rw [List.map_cons, List.map_cons, HT.lexLt_cons, HT.lexLt_cons, lex_far hs a b]
    by_cases q : x = y
    · rw [if_pos (e.mpr q), if_pos q]
    · rw [if_neg fun z => q (e.mp z), if_neg q, decide_eq_decide]; exact l
theorem far_fall {s : Int} (hs : 1 ≤ s) {row : List Pz} (h : row.Pairwise fun p q => HT.lexLt q.1 p.1 = true) : (farZ s row).Pairwise fun p q => HT.lexLt q.1 p.1 = true := by
  unfold farZ
  rw [List.pairwise_map]
  refine h.imp fun {a b} q => ?_
  show HT.lexLt (b.1.map fun x => x * s) (a.1.map fun x => x * s) = true
  rw [lex_far hs]; exact q
theorem max_gt (b : Int) : ∀ (l : List Int) (a : Int), (b < l.foldl max a) ↔ (b < a ∨ ∃ x ∈ l, b < x)
  | [], a => by simp
  | x :: l, a => by
    rw [List.foldl_cons, max_gt b l]
    simp only [List.mem_cons, exists_eq_or_imp]
    have : b < max a x ↔ b < a ∨ b < x := by omega
    rw [this, or_assoc]
/-- the read and shown texts of a row -/
theorem row_text {r : Int} (hr : r = 0 ∨ Pri r) {m : Int} (hm : 1 ≤ m ∧ m ≤ 4) {row : List Pz} (hw : ∀ p ∈ row, WrOk p) (hn : ∀ p ∈ row, p.2.natAbs < 10 ^ 60) (hl : row.length ≤ 1000) : m_read [.v (.int r), .v (.int m), .v (sD (shownL row))] = roR (readL r m.toNat (shownL row)) := by
  have b : Blk (shownL row) := (shown_blk (m := 60) (by decide) fun p hp => words_len_d (hw p hp).e (by decide) (hn p hp)).blk (by decide)
  have ln := shown_len hw
  have := read_ok hr (many := m.toNat) (by omega) shown_as (Nat.le_trans ln (by omega)) b
  rwa [show ((m.toNat : Nat) : Int) = m by omega] at this
theorem far_lc (x0 x1 x2 x5 x6 x7 : Sl) {s m : Int} (hm : 1 ≤ m ∧ m ≤ 4) (hs : 1 ≤ s ∧ s ≤ 2000000) {row : List Pz} (h : ∀ p ∈ row, TmOk m 195 p) : lcL (bdN 8) tt le1__law_far [8] (row.map tmZ) [] [x0, x1, x2, .v (.int s), .un, x5, x6, x7, .un, .un] = .ok ((farZ s row).map tmZ) [x0, x1, x2, .v (.int s), .un, x5, x6, x7, .un, .un] := by
  have := lc_map (α := Pz) (g := tmZ) (h := fun p => tmZ (p.1.map fun x => x * s, p.2)) (i := 8) (f := le1__law_far) (e := [x0, x1, x2, .v (.int s), .un, x5, x6, x7, .un, .un]) rfl row [] fun p hp => by
    have i0 : ixD (tmZ p) (.int 0) = some (.v (keyD p.1)) := ixD_t0
    have i1 : ixD (tmZ p) (.int 1) = some (.v (.int p.2)) := ixD_t1
    have kd : keyD p.1 = .tuple (p.1.map PyData.int) := rfl
    have inner := lc_map (α := Int) (g := PyData.int) (h := fun x => .int (x * s)) (i := 9) (f := le0__law_far) (e := [x0, x1, x2, .v (.int s), .un, x5, x6, x7, .v (tmZ p), .un]) rfl p.1 [] fun x hx => by
      have mo : mulOk x s := mulOk_r (by omega)
      refine ⟨.v (.int (x * s)), ?_, fun _ => rfl⟩
      generalize tmZ p = td
      simp [le0__law_far, mulD_ok mo]
    have em : (p.1.map fun x => PyData.int (x * s)) = (p.1.map fun x => x * s).map PyData.int := by rw [List.map_map]; rfl
    rw [em, List.nil_append] at inner
    have le : (p.1.map PyData.int).length ≤ LIM := by rw [List.length_map]; exact Nat.le_trans (show _ ≤ 10 by have := (h p hp).l; omega) (by decide)
    refine ⟨.v (tmZ (p.1.map fun x => x * s, p.2)), ?_, fun _ => rfl⟩
    have et : tmZ (p.1.map fun x => x * s, p.2) = .tuple [.tuple ((p.1.map fun x => x * s).map PyData.int), .int p.2] := rfl
    rw [et]
    rw [kd] at i0
    generalize (p.1.map fun x => x * s).map PyData.int = ed at *
    generalize p.1.map PyData.int = pd at *
    generalize tmZ p = td at *
    simp [le1__law_far, i0, i1, le, inner]
  have em : (row.map fun p => tmZ (p.1.map fun x => x * s, p.2)) = (farZ s row).map tmZ := by unfold farZ; rw [List.map_map]; rfl
  rw [List.nil_append, em] at this
  exact this
def farB (p : Pz) : Bool := decide (∃ x ∈ p.1, 99 < x)
theorem far_filter (x0 x1 x2 x3 x4 x5 x7 : Sl) : ∀ (ps : List Pz) (acc : List D), (∀ p ∈ ps, p.1 ≠ []) → lcL (bdN 8) lt3__law_far le2__law_far [8] (ps.map tmZ) acc [x0, x1, x2, x3, x4, x5, .un, x7, .un, .un] = .ok (acc ++ (ps.filter farB).map tmZ) [x0, x1, x2, x3, x4, x5, .un, x7, .un, .un]
  | [], acc, _ => by simp
  | p :: ps, acc, h => by
    have i0 : ixD (tmZ p) (.int 0) = some (.v (keyD p.1)) := ixD_t0
    obtain ⟨n, l, e⟩ := List.exists_cons_of_ne_nil (h p List.mem_cons_self)
    have mx : minTD max [keyD p.1] = some (.v (.int (l.foldl max n))) := by rw [e]; exact minTD_t
    have fb : farB p = decide (99 < l.foldl max n) := by
      unfold farB
      rw [decide_eq_decide, max_gt, e]
      simp
    have c : lt3__law_far [x0, x1, x2, x3, x4, x5, .un, x7, .v (tmZ p), .un] = .ok (farB p) [x0, x1, x2, x3, x4, x5, .un, x7, .v (tmZ p), .un] := by
      rw [fb]
      generalize keyD p.1 = kd at *
      generalize tmZ p = td at *
      generalize l.foldl max n = mm at *
      simp [lt3__law_far, i0, mx]
    have f2 : le2__law_far [x0, x1, x2, x3, x4, x5, .un, x7, .v (tmZ p), .un] = .ok (.v (tmZ p)) [x0, x1, x2, x3, x4, x5, .un, x7, .v (tmZ p), .un] := by
      generalize tmZ p = td at *
      simp [le2__law_far]
    have ih := fun acc => far_filter x0 x1 x2 x3 x4 x5 x7 ps acc fun q hq => h q (List.mem_cons_of_mem _ hq)
    rw [List.map_cons, lcL_cons]
    simp only [bdN_s, List.set, c]
    cases q : farB p with
    | true =>
      simp only [argE_t, f2, still_v, wipeE_1, wipeE_n, List.set, Ar.d_s]
      rw [ih, List.filter_cons_of_pos q]
      simp
    | false =>
      simp only [wipeE_1, wipeE_n, List.set]
      rw [ih, List.filter_cons_of_neg (by simp [q])]
theorem low_iff {ps : List Pz} : low ps ↔ ps.filter farB = [] := by
  unfold low
  rw [List.filter_eq_nil_iff]
  constructor
  · intro h p hp q
    obtain ⟨x, hx, hq⟩ := of_decide_eq_true q
    have := h p hp x hx
    omega
  · intro h p hp x hx
    refine Classical.byContradiction fun z => h p hp (decide_eq_true ⟨x, hx, by omega⟩)
theorem far_ok {r m s : Int} (hr : r = 0 ∨ Pri r) (hm : 1 ≤ m ∧ m ≤ 4) (hs : 1 ≤ s ∧ s ≤ 2000000) {row : List Pz} (h : RowT r m row) : m__law_far [.v (.int r), .v (.int m), .b (row.map tmZ), .v (.int s)] = .ok (.v (.bool true)) := by
  have w := far_wr hm hs h.t h.z
  have fl : (farZ s row).length ≤ 31 := by unfold farZ; rw [List.length_map]; exact h.l
  have sh := shown_ok w (by omega)
  have wr := written_ok w (by omega)
  have nf : ∀ p ∈ farZ s row, p.2.natAbs < 10 ^ 60 := fun p hp => by
    obtain ⟨q, hq, rfl⟩ := List.mem_map.mp hp  -- q
    exact (n195 (h.t q hq).n).2
  have rt := row_text hr hm w nf (by omega)
  have lm : ∀ p ∈ farZ s row, p.1.length = m.toNat := fun p hp => by
    obtain ⟨q, hq, rfl⟩ := List.mem_map.mp hp  -- q
    have := (h.t q hq).l
    show (q.1.map _).length = _
    rw [List.length_map]; omega
  have rd := read_shown (ring := r) (many := m.toNat) (by omega) (row := farZ s row) (fun p hp => ⟨lm p hp, (w p hp).e, (w p hp).z, by
    rcases h.g with g | g
    · exact .inl g
    · obtain ⟨q, hq, rfl⟩ := List.mem_map.mp hp
      exact .inr (g q hq)⟩) (far_fall hs.1 h.f)
  have sm := law_same_ok (ps := farZ s row) (fun p hp => by rw [lm p hp]; omega) (by omega)
  have ne := neS (a := shownL (farZ s row)) (b := shownL (farZ s row)) shown_as shown_as
  rw [decide_eq_true rfl] at ne
  have lr : (row.map tmZ).length ≤ LIM := by rw [List.length_map]; exact Nat.le_trans h.l (by decide)
  have lf : ((farZ s row).map tmZ).length ≤ LIM := by rw [List.length_map]; exact Nat.le_trans fl (by decide)
  have ef := tms_nil ((farZ s row).filter farB)
  have lc1 := far_lc (.v (.int r)) (.v (.int m)) (.b (row.map tmZ)) .un .un .un hm hs h.t
  have lc2 := fun x4 => far_filter (.v (.int r)) (.v (.int m)) (.b (row.map tmZ)) (.v (.int s)) x4 (.v (sD (shownL (farZ s row)))) .un (farZ s row) [] fun p hp z => by
    have := lm p hp
    rw [z, List.length_nil] at this
    omega
  rw [rd] at rt
  by_cases q : low (farZ s row)
  · rw [if_pos q] at rt
    have rt : m_read [.v (.int r), .v (.int m), .v (sD (shownL (farZ s row)))] = .ok (.f ((farZ s row).map tmZ)) := rt
    rw [decide_eq_true (low_iff.mp q)] at ef
    generalize ((farZ s row).filter farB).map tmZ = gd at *
    generalize (farZ s row).map tmZ = fd at *
    generalize row.map tmZ = rd' at *
    generalize sD (shownL (farZ s row)) = td at *
    apply run_rt
    unfold b__law_far
    refine nxt (e1 := [.v (.int r), .v (.int m), .b rd', .v (.int s), .o fd, .un, .un, .un, .un, .un]) (by simp [lr, lc1]) ?_
    refine nxt (e1 := [.v (.int r), .v (.int m), .b rd', .v (.int s), .o fd, .v td, .un, .un, .un, .un]) (by simp [sh]) ?_
    refine nxt (e1 := [.v (.int r), .v (.int m), .b rd', .v (.int s), .o fd, .v td, .un, .un, .un, .un]) (by simp [wr, ne]) ?_
    refine nxt (e1 := [.v (.int r), .v (.int m), .b rd', .v (.int s), .v (.list fd), .v td, .v (.bool true), .un, .un, .un]) (by simp [lf, lc2, ef]) ?_
    refine nxt (e1 := [.v (.int r), .v (.int m), .b rd', .v (.int s), .v (.list fd), .v td, .v (.bool true), .o fd, .un, .un]) (by simp [rt]) ?_
    simp [sm]
  · rw [if_neg q] at rt
    have rt : m_read [.v (.int r), .v (.int m), .v (sD (shownL (farZ s row)))] = .err c_NotWritten := rt
    rw [decide_eq_false (fun z => q (low_iff.mpr z))] at ef
    generalize ((farZ s row).filter farB).map tmZ = gd at *
    generalize (farZ s row).map tmZ = fd at *
    generalize row.map tmZ = rd' at *
    generalize sD (shownL (farZ s row)) = td at *
    apply run_rt
    unfold b__law_far
    refine nxt (e1 := [.v (.int r), .v (.int m), .b rd', .v (.int s), .o fd, .un, .un, .un, .un, .un]) (by simp [lr, lc1]) ?_
    refine nxt (e1 := [.v (.int r), .v (.int m), .b rd', .v (.int s), .o fd, .v td, .un, .un, .un, .un]) (by simp [sh]) ?_
    refine nxt (e1 := [.v (.int r), .v (.int m), .b rd', .v (.int s), .o fd, .v td, .un, .un, .un, .un]) (by simp [wr, ne]) ?_
    refine nxt (e1 := [.v (.int r), .v (.int m), .b rd', .v (.int s), .v (.list fd), .v td, .v (.bool false), .un, .un, .un]) (by simp [lf, lc2, ef]) ?_
    simp [rt]
end Lw
namespace Lw
open PySem L2 Q SX
/-! ### k10: the law -/
theorem mix_lc (ns : List Int) (x1 x2 x3 x5 : Sl) {m c : Int} (hm : 1 ≤ m ∧ m ≤ 4) (hc : 0 ≤ c ∧ c < 2 ^ 187) (n : Nat) (hn : n ≤ 31) :
    ∃ ps : List Pz, lcL (bdN 12) tt le0_law [12] ((upI 0 n).map PyData.int) [] [.b (ns.map PyData.int), x1, x2, x3, .v (.int m), x5, .un, .un, .un, .v (.int c), .un, .un, .un] = .ok (ps.map tmZ) [.b (ns.map PyData.int), x1, x2, x3, .v (.int m), x5, .un, .un, .un, .v (.int c), .un, .un, .un] ∧ ps.length = n ∧ ∀ p ∈ ps, TmOk m 190 p := by
  have d7 : divOk 7 := by decide
  have c7 : 0 ≤ c.fdiv 7 := Int.fdiv_nonneg hc.1 (by decide)
  obtain ⟨ys, h1, h2, h3⟩ := lc_ex (i := 12) (f := le0_law) (e := [.b (ns.map PyData.int), x1, x2, x3, .v (.int m), x5, .un, .un, .un, .v (.int c), .un, .un, .un]) (P := fun y => ∃ p, y = tmZ p ∧ TmOk m 190 p) rfl ((upI 0 n).map PyData.int) [] fun d hd => by
    obtain ⟨k, hk, rfl⟩ := List.mem_map.mp hd
    have hk := mem_upI.mp hk
    have m1 : mulOk 37 k := mulOk_l (by decide)
    have m2 : mulOk 5 k := mulOk_l (by decide)
    obtain ⟨e, h3, e1, e2⟩ := exponents_ok (c.fdiv 7 + 37 * k) m (by omega) hm
    obtain ⟨v, h4, n1⟩ := number_ok (c + 5 * k) (by omega)
    refine ⟨.tuple [keyD e, .int v], ?_, (e, v), rfl, ⟨e1, e2, n1⟩⟩
    generalize keyD e = kd at *
    generalize ns.map PyData.int = nd at *
    simp [le0_law, divD_ok d7, mulD_ok m1, mulD_ok m2, h3, h4]
  obtain ⟨ps, p1, p2⟩ := tms_of h3
  subst p1
  rw [List.nil_append] at h1
  rw [List.length_map, List.length_map, len_upI] at h2
  exact ⟨ps, h1, h2, p2⟩
noncomputable def ltail : Sv := (seqS (asgS 6 (opN listD [(varE 5)])) (seqS (asgS 7 (callE m_shown [(false, (varE 6))])) (seqS (ifS (orT (notT (toT (isiE "str" (varE 7)))) (orT (toT (op2 neD (varE 7) (callE m__law_written [(false, (varE 5))]))) (notT (toT (callE m__law_same [(false, (varE 6)), (false, (varE 5))]))))) (retS (cE (.bool false))) skipS) (seqS (ifS (toT (op2 eqD (op2 modD (varE 3) (cE (.int 8))) (cE (.int 2)))) (retS (callE m__law_far [(false, (varE 1)), (false, (varE 4)), (false, (varE 5)), (false, (op2 addD (cE (.int 97)) (op2 modD (op2 divD (varE 3) (cE (.int 8))) (op2 powD (cE (.int 10)) (cE (.int 6))))))])) skipS) (seqS (forS (itR1 (cE (.int 2))) (bdN 8) fb1_law) (retS (cE (.bool true))))))))
theorem tail_ok (x0 x2 x9 x10 : Sl) {r m c3 : Int} (hr : r = 0 ∨ Pri r) (hm : 1 ≤ m ∧ m ≤ 4) {row : List Pz} (h : RowT r m row) : ltail [x0, .v (.int r), x2, .v (.int c3), .v (.int m), .o (row.map tmZ), .un, .un, .un, x9, x10, .un, .un] = .rt (.v (.bool true)) := by
  have w : ∀ p ∈ row, WrOk p := fun p hp => (h.t p hp).wr hm (h.z p hp)
  have hl := h.l
  have sh := shown_ok w (by omega)
  have wr := written_ok w (by omega)
  have lm : ∀ p ∈ row, p.1.length = m.toNat := fun p hp => by have := (h.t p hp).l; omega
  have rt := row_text hr hm w (fun p hp => (n195 (h.t p hp).n).2) (by omega)
  have rd := read_shown (ring := r) (many := m.toNat) (by omega) (row := row) (fun p hp => ⟨lm p hp, (w p hp).e, h.z p hp, by
    rcases h.g with g | g
    · exact .inl g
    · exact .inr (g p hp)⟩) h.f
  rw [if_pos (show low row from fun p hp x hx => ((h.t p hp).e x hx).2)] at rd
  rw [rd] at rt
  have rt : m_read [.v (.int r), .v (.int m), .v (sD (shownL row))] = .ok (.f (row.map tmZ)) := rt
  have sm := law_same_ok (ps := row) (fun p hp => by rw [lm p hp]; omega) (by omega)
  have ne := neS (a := shownL row) (b := shownL row) shown_as shown_as
  rw [decide_eq_true rfl] at ne
  have lr : (row.map tmZ).length < LIM := by rw [List.length_map]; exact Nat.lt_of_le_of_lt hl (by decide)
  have is : isiD "str" (sD (shownL row)) = true := rfl
  have d8 : divOk 8 := by decide
  have p6 : powOk 10 6 := by decide
  have ep : powD (.int 10) (.int 6) = some (.v (.int 1000000)) := by
    show (if powOk 10 6 then some (Vl.v (.int (10 ^ 6))) else none) = _
    rw [if_pos p6]; rfl
  have fo := far_ok hr hm (s := 97 + c3.fdiv 8 % 1000000) (by omega) h
  unfold ltail
  have st : ∀ (X : Sv) (q : RS), X [x0, .v (.int r), x2, .v (.int c3), .v (.int m), .o (row.map tmZ), .o (row.map tmZ), .v (sD (shownL row)), .un, x9, x10, .un, .un] = q → (seqS (asgS 6 (opN listD [(varE 5)])) (seqS (asgS 7 (callE m_shown [(false, (varE 6))])) (seqS (ifS (orT (notT (toT (isiE "str" (varE 7)))) (orT (toT (op2 neD (varE 7) (callE m__law_written [(false, (varE 5))]))) (notT (toT (callE m__law_same [(false, (varE 6)), (false, (varE 5))]))))) (retS (cE (.bool false))) skipS) X))) [x0, .v (.int r), x2, .v (.int c3), .v (.int m), .o (row.map tmZ), .un, .un, .un, x9, x10, .un, .un] = q := fun X q hX => by
    generalize row.map tmZ = rd at *
    generalize sD (shownL row) = td at *
    refine nxt (e1 := [x0, .v (.int r), x2, .v (.int c3), .v (.int m), .o rd, .o rd, .un, .un, x9, x10, .un, .un]) (by simp [Nat.le_of_lt lr]) ?_
    refine nxt (e1 := [x0, .v (.int r), x2, .v (.int c3), .v (.int m), .o rd, .o rd, .v td, .un, x9, x10, .un, .un]) (by simp [sh]) ?_
    exact nxt (e1 := [x0, .v (.int r), x2, .v (.int c3), .v (.int m), .o rd, .o rd, .v td, .un, x9, x10, .un, .un]) (by simp [is, wr, ne, sm]) hX
  refine st _ _ ?_
  clear st
  generalize row.map tmZ = rd at *
  generalize sD (shownL row) = td at *
  by_cases q : c3 % 8 = 2
  · simp [modD_pos, q, divD_ok d8, ep, fo]
  · refine nxt (e1 := [x0, .v (.int r), x2, .v (.int c3), .v (.int m), .o rd, .o rd, .v td, .un, x9, x10, .un, .un]) (by simp [modD_pos, q]) ?_
    have sk : (Ar.s td).sl = .v td := rfl
    have tn : ∀ (x8 x11 : Sl), fb1_law [x0, .v (.int r), x2, .v (.int c3), .v (.int m), .o rd, .o rd, .v td, x8, x9, x10, x11, .un] = .nx [x0, .v (.int r), x2, .v (.int c3), .v (.int m), .o rd, .o rd, .v td, x8, x9, x10, .o (rd ++ [.int 7]), .un] := fun x8 x11 => by
      unfold fb1_law
      simp [rt, sk, sm, lr]
    have i2 : i62 2 := by unfold i62; decide
    have rg : rgL 0 1 (2 : Int).toNat = [.int 0, .int 1] := rfl
    refine nxt (e1 := [x0, .v (.int r), x2, .v (.int c3), .v (.int m), .o rd, .o rd, .v td, .v (.int 1), x9, x10, .o (rd ++ [.int 7]), .un]) ?_ (by simp)
    rw [forS_s]
    have it : itR1 (cE (.int 2)) [x0, .v (.int r), x2, .v (.int c3), .v (.int m), .o rd, .o rd, .v td, .un, x9, x10, .un, .un] = .ok [.int 0, .int 1] [x0, .v (.int r), x2, .v (.int c3), .v (.int m), .o rd, .o rd, .v td, .un, x9, x10, .un, .un] := by
      rw [itR1_s]
      simp only [bnd_s, cE_s, toD_v]
      rw [if_pos i2, rg]
    rw [it]
    show forL (bdN 8) fb1_law [.int 0, .int 1] _ = _
    rw [forL_cons]
    simp only [bdN_s, List.set, tn]
    rw [forL_cons]
    simp only [bdN_s, List.set, tn]
    rfl
theorem law_true (ns : List Int) (_hl : ns.length ≤ 63) (_hb : ∀ z ∈ ns, Builtin.Int.intBits z ≤ 1048576) : m_law [.b (ns.map PyData.int)] = .ok (.v (.bool true)) := by
  obtain ⟨c1, h1, q1⟩ := cell_ok ns 0 (by decide)
  obtain ⟨c2, h2, q2⟩ := cell_ok ns 1 (by decide)
  obtain ⟨c3, h3, q3⟩ := cell_ok ns 2 (by decide)
  obtain ⟨c4, h4, q4⟩ := cell_ok ns 3 (by decide)
  obtain ⟨r, hr, rp⟩ := law_ring_ok c1 q1.1
  obtain ⟨m, hme⟩ : ∃ m, m = 1 + c2 % 4 := ⟨_, rfl⟩
  have hm : 1 ≤ m ∧ m ≤ 4 := by omega
  have r0 : 0 ≤ r := ring_ge (ring_of rp)
  have d4 : divOk 4 := by decide
  have d8 : divOk 8 := by decide
  obtain ⟨ps, p1, p2, p3⟩ := pairs_ok ns 4 m (c2.fdiv 4 % 8) (by decide) hm (by omega)
  have g1 := law_gathered_ok r0 (ps := ps) (by omega) (fun p hp => (p3 p hp).ne hm.1)
  have R1 := rowT_gat rp p3 (by omega)
  apply run_rt
  show b_law [.b (ns.map PyData.int), .un, .un, .un, .un, .un, .un, .un, .un, .un, .un, .un, .un] = _
  unfold b_law
  have st : ∀ (X : Sv) (q : RS), X [.b (ns.map PyData.int), .v (.int r), .v (.int c2), .v (.int c3), .v (.int m), .o ((gat r ps).map tmZ), .un, .un, .un, .un, .un, .un, .un] = q → (seqS (asgS 1 (callE m__law_ring [(false, (callE m__law_cell_at [(false, (varE 0)), (false, (cE (.int 0)))]))])) (seqS (asgS 2 (callE m__law_cell_at [(false, (varE 0)), (false, (cE (.int 1)))])) (seqS (asgS 3 (callE m__law_cell_at [(false, (varE 0)), (false, (cE (.int 2)))])) (seqS (asgS 4 (op2 addD (cE (.int 1)) (op2 modD (varE 2) (cE (.int 4))))) (seqS (asgS 5 (callE m__law_gathered [(false, (varE 1)), (false, (callE m__law_pairs [(false, (varE 0)), (false, (cE (.int 4))), (false, (varE 4)), (false, (op2 modD (op2 divD (varE 2) (cE (.int 4))) (cE (.int 8))))]))])) X))))) [.b (ns.map PyData.int), .un, .un, .un, .un, .un, .un, .un, .un, .un, .un, .un, .un] = q := fun X q hX => by
    generalize ns.map PyData.int = nd at *
    generalize (gat r ps).map tmZ = gd at *
    generalize ps.map tmZ = pd at *
    refine nxt (e1 := [.b nd, .v (.int r), .un, .un, .un, .un, .un, .un, .un, .un, .un, .un, .un]) (by simp [h1, hr]) ?_
    refine nxt (e1 := [.b nd, .v (.int r), .v (.int c2), .un, .un, .un, .un, .un, .un, .un, .un, .un, .un]) (by simp [h2]) ?_
    refine nxt (e1 := [.b nd, .v (.int r), .v (.int c2), .v (.int c3), .un, .un, .un, .un, .un, .un, .un, .un, .un]) (by simp [h3]) ?_
    refine nxt (e1 := [.b nd, .v (.int r), .v (.int c2), .v (.int c3), .v (.int m), .un, .un, .un, .un, .un, .un, .un, .un]) (by simp [modD_pos, hme]) ?_
    exact nxt (e1 := [.b nd, .v (.int r), .v (.int c2), .v (.int c3), .v (.int m), .o gd, .un, .un, .un, .un, .un, .un, .un]) (by simp [divD_ok d4, modD_pos, p1, g1]) hX
  refine st _ _ ?_
  clear st
  by_cases q : c3 % 8 = 1
  · have hn : 0 ≤ c3.fdiv 8 % 31 ∧ c3.fdiv 8 % 31 < 31 := by omega
    obtain ⟨qs, l1, l2, l3⟩ := mix_lc ns (.v (.int r)) (.v (.int c2)) (.v (.int c3)) (.o ((gat r ps).map tmZ)) hm (c := c4) (by omega) (c3.fdiv 8 % 31).toNat (by omega)
    have g2 := law_gathered_ok r0 (ps := qs) (by omega) (fun p hp => (l3 p hp).ne hm.1)
    have R2 := rowT_gat rp l3 (by omega)
    refine nxt (e1 := [.b (ns.map PyData.int), .v (.int r), .v (.int c2), .v (.int c3), .v (.int m), .o ((gat r qs).map tmZ), .un, .un, .un, .v (.int c4), .o (qs.map tmZ), .un, .un]) ?_ (tail_ok _ _ _ _ rp hm R2)
    have i6 : i62 (c3.fdiv 8 % 31) := by unfold i62; omega
    have rl := rgL_up (n := (c3.fdiv 8 % 31).toNat) (i := 0)
    have lu : ((upI 0 (c3.fdiv 8 % 31).toNat).map PyData.int).length ≤ LIM := by rw [List.length_map, len_upI]; exact Nat.le_trans (show _ ≤ 31 by omega) (by decide)
    generalize (upI 0 (c3.fdiv 8 % 31).toNat).map PyData.int = ud at *
    generalize ns.map PyData.int = nd at *
    generalize (gat r qs).map tmZ = gd2 at *
    generalize qs.map tmZ = qd at *
    generalize (gat r ps).map tmZ = gd at *
    simp [modD_pos, q, h4, divD_ok d8, if_pos i6, rl, lu, l1, g2]
  · refine nxt (e1 := [.b (ns.map PyData.int), .v (.int r), .v (.int c2), .v (.int c3), .v (.int m), .o ((gat r ps).map tmZ), .un, .un, .un, .un, .un, .un, .un]) ?_ (tail_ok _ _ _ _ rp hm R1)
    generalize ns.map PyData.int = nd at *
    generalize (gat r ps).map tmZ = gd at *
    simp [modD_pos, q]
end Lw
namespace Lw
open PySem L2 Q
/-! ### what the top has left -/
set_option maxHeartbeats 4000000 in
theorem all_mk {l : PySem.W.OpenLaw} {w : World} {K : PySem.W.Frag} {h : Heap} {mg : Str → Option Value} {fa f0 f1 f2 f3 f4 f5 f6 f7 f8 f9 f10 f11 f12 f13 f14 f15 f16 f17 f18 f19 f20 f21 f22 f23 f24 f25 C0 C1 C2 C3 : Addr} (X : K.In h) (G : h.Ns mainGlobals mg) (hfa : mg "law" = some (.ref fa))
    {od0 an0 od1 an1 od2 an2 od3 an3 od4 an4 od5 an5 od6 an6 od7 an7 od8 an8 od9 an9 od10 an10 od11 an11 od12 an12 od13 an13 od14 an14 od15 an15 od16 an16 od17 an17 od18 an18 od19 an19 od20 an20 od21 an21 od22 an22 od23 an23 od24 an24 od25 an25 : Option Addr}
    {sl0 sl1 sl2 sl3 sl4 sl5 sl6 sl7 sl8 sl9 sl10 sl11 sl12 sl13 sl14 sl15 sl16 sl17 sl18 sl19 sl20 sl21 sl22 sl23 sl24 sl25 : Array (Option Value)}
    {oc0 kV0 dc0 pm0 cd0 ct0 oc1 kV1 dc1 pm1 cd1 ct1 oc2 kV2 dc2 pm2 cd2 ct2 oc3 kV3 dc3 pm3 cd3 ct3 oc4 kV4 dc4 pm4 cd4 ct4 oc5 kV5 dc5 pm5 cd5 ct5 oc6 kV6 dc6 pm6 cd6 ct6 oc7 kV7 dc7 pm7 cd7 ct7 oc8 kV8 dc8 pm8 cd8 ct8 oc9 kV9 dc9 pm9 cd9 ct9 oc10 kV10 dc10 pm10 cd10 ct10 oc11 kV11 dc11 pm11 cd11 ct11 oc12 kV12 dc12 pm12 cd12 ct12 oc13 kV13 dc13 pm13 cd13 ct13 oc14 kV14 dc14 pm14 cd14 ct14 oc15 kV15 dc15 pm15 cd15 ct15 oc16 kV16 dc16 pm16 cd16 ct16 oc17 kV17 dc17 pm17 cd17 ct17 oc18 kV18 dc18 pm18 cd18 ct18 oc19 kV19 dc19 pm19 cd19 ct19 oc20 kV20 dc20 pm20 cd20 ct20 oc21 kV21 dc21 pm21 cd21 ct21 oc22 kV22 dc22 pm22 cd22 ct22 oc23 kV23 dc23 pm23 cd23 ct23 oc24 kV24 dc24 pm24 cd24 ct24 oc25 kV25 dc25 pm25 cd25 ct25 : Value}
    {tv0 tv1 tv2 tv3 : Tok}
    (a0 : PySem.W.nsIn K mainGlobals "is_prime" = some (some (.ref f0)))
    (l0 : K.lookup f0 = some ⟨oc0, od0, .func (PySem.W.fnOf "is_prime" "is_prime" (defArgs (topS 7)) (defBody (topS 7)) (defScope (topS 7)) .none kV0 dc0 pm0 an0 cd0 ct0), sl0⟩)
    (c0 : PySem.W.codeIn K cd0 "is_prime" = true)
    (k0 : PySem.W.keepIn K (.ref f0) = true)
    (a1 : PySem.W.nsIn K mainGlobals "is_ring" = some (some (.ref f1)))
    (l1 : K.lookup f1 = some ⟨oc1, od1, .func (PySem.W.fnOf "is_ring" "is_ring" (defArgs (topS 8)) (defBody (topS 8)) (defScope (topS 8)) .none kV1 dc1 pm1 an1 cd1 ct1), sl1⟩)
    (c1 : PySem.W.codeIn K cd1 "is_ring" = true)
    (k1 : PySem.W.keepIn K (.ref f1) = true)
    (a2 : PySem.W.nsIn K mainGlobals "need_ring" = some (some (.ref f2)))
    (l2 : K.lookup f2 = some ⟨oc2, od2, .func (PySem.W.fnOf "need_ring" "need_ring" (defArgs (topS 11)) (defBody (topS 11)) (defScope (topS 11)) .none kV2 dc2 pm2 an2 cd2 ct2), sl2⟩)
    (c2 : PySem.W.codeIn K cd2 "need_ring" = true)
    (k2 : PySem.W.keepIn K (.ref f2) = true)
    (a3 : PySem.W.nsIn K mainGlobals "is_whole" = some (some (.ref f3)))
    (l3 : K.lookup f3 = some ⟨oc3, od3, .func (PySem.W.fnOf "is_whole" "is_whole" (defArgs (topS 12)) (defBody (topS 12)) (defScope (topS 12)) .none kV3 dc3 pm3 an3 cd3 ct3), sl3⟩)
    (c3 : PySem.W.codeIn K cd3 "is_whole" = true)
    (k3 : PySem.W.keepIn K (.ref f3) = true)
    (a4 : PySem.W.nsIn K mainGlobals "need_unknowns" = some (some (.ref f4)))
    (l4 : K.lookup f4 = some ⟨oc4, od4, .func (PySem.W.fnOf "need_unknowns" "need_unknowns" (defArgs (topS 13)) (defBody (topS 13)) (defScope (topS 13)) .none kV4 dc4 pm4 an4 cd4 ct4), sl4⟩)
    (c4 : PySem.W.codeIn K cd4 "need_unknowns" = true)
    (k4 : PySem.W.keepIn K (.ref f4) = true)
    (a5 : PySem.W.nsIn K mainGlobals "letters" = some (some (.ref f5)))
    (l5 : K.lookup f5 = some ⟨oc5, od5, .func (PySem.W.fnOf "letters" "letters" (defArgs (topS 17)) (defBody (topS 17)) (defScope (topS 17)) .none kV5 dc5 pm5 an5 cd5 ct5), sl5⟩)
    (c5 : PySem.W.codeIn K cd5 "letters" = true)
    (k5 : PySem.W.keepIn K (.ref f5) = true)
    (a6 : PySem.W.nsIn K mainGlobals "shown_term" = some (some (.ref f6)))
    (l6 : K.lookup f6 = some ⟨oc6, od6, .func (PySem.W.fnOf "shown_term" "shown_term" (defArgs (topS 18)) (defBody (topS 18)) (defScope (topS 18)) .none kV6 dc6 pm6 an6 cd6 ct6), sl6⟩)
    (c6 : PySem.W.codeIn K cd6 "shown_term" = true)
    (k6 : PySem.W.keepIn K (.ref f6) = true)
    (a7 : PySem.W.nsIn K mainGlobals "shown" = some (some (.ref f7)))
    (l7 : K.lookup f7 = some ⟨oc7, od7, .func (PySem.W.fnOf "shown" "shown" (defArgs (topS 19)) (defBody (topS 19)) (defScope (topS 19)) .none kV7 dc7 pm7 an7 cd7 ct7), sl7⟩)
    (c7 : PySem.W.codeIn K cd7 "shown" = true)
    (k7 : PySem.W.keepIn K (.ref f7) = true)
    (a8 : PySem.W.nsIn K mainGlobals "whole_of" = some (some (.ref f8)))
    (l8 : K.lookup f8 = some ⟨oc8, od8, .func (PySem.W.fnOf "whole_of" "whole_of" (defArgs (topS 20)) (defBody (topS 20)) (defScope (topS 20)) .none kV8 dc8 pm8 an8 cd8 ct8), sl8⟩)
    (c8 : PySem.W.codeIn K cd8 "whole_of" = true)
    (k8 : PySem.W.keepIn K (.ref f8) = true)
    (a9 : PySem.W.nsIn K mainGlobals "power_of" = some (some (.ref f9)))
    (l9 : K.lookup f9 = some ⟨oc9, od9, .func (PySem.W.fnOf "power_of" "power_of" (defArgs (topS 21)) (defBody (topS 21)) (defScope (topS 21)) .none kV9 dc9 pm9 an9 cd9 ct9), sl9⟩)
    (c9 : PySem.W.codeIn K cd9 "power_of" = true)
    (k9 : PySem.W.keepIn K (.ref f9) = true)
    (a10 : PySem.W.nsIn K mainGlobals "read_term" = some (some (.ref f10)))
    (l10 : K.lookup f10 = some ⟨oc10, od10, .func (PySem.W.fnOf "read_term" "read_term" (defArgs (topS 22)) (defBody (topS 22)) (defScope (topS 22)) .none kV10 dc10 pm10 an10 cd10 ct10), sl10⟩)
    (c10 : PySem.W.codeIn K cd10 "read_term" = true)
    (k10 : PySem.W.keepIn K (.ref f10) = true)
    (a11 : PySem.W.nsIn K mainGlobals "read" = some (some (.ref f11)))
    (l11 : K.lookup f11 = some ⟨oc11, od11, .func (PySem.W.fnOf "read" "read" (defArgs (topS 23)) (defBody (topS 23)) (defScope (topS 23)) .none kV11 dc11 pm11 an11 cd11 ct11), sl11⟩)
    (c11 : PySem.W.codeIn K cd11 "read" = true)
    (k11 : PySem.W.keepIn K (.ref f11) = true)
    (a12 : PySem.W.nsIn K mainGlobals "_law_whole" = some (some (.ref f12)))
    (l12 : K.lookup f12 = some ⟨oc12, od12, .func (PySem.W.fnOf "_law_whole" "_law_whole" (defArgs (topS 25)) (defBody (topS 25)) (defScope (topS 25)) .none kV12 dc12 pm12 an12 cd12 ct12), sl12⟩)
    (c12 : PySem.W.codeIn K cd12 "_law_whole" = true)
    (k12 : PySem.W.keepIn K (.ref f12) = true)
    (a13 : PySem.W.nsIn K mainGlobals "_law_cell_at" = some (some (.ref f13)))
    (l13 : K.lookup f13 = some ⟨oc13, od13, .func (PySem.W.fnOf "_law_cell_at" "_law_cell_at" (defArgs (topS 26)) (defBody (topS 26)) (defScope (topS 26)) .none kV13 dc13 pm13 an13 cd13 ct13), sl13⟩)
    (c13 : PySem.W.codeIn K cd13 "_law_cell_at" = true)
    (k13 : PySem.W.keepIn K (.ref f13) = true)
    (a14 : PySem.W.nsIn K mainGlobals "_law_prime" = some (some (.ref f14)))
    (l14 : K.lookup f14 = some ⟨oc14, od14, .func (PySem.W.fnOf "_law_prime" "_law_prime" (defArgs (topS 27)) (defBody (topS 27)) (defScope (topS 27)) .none kV14 dc14 pm14 an14 cd14 ct14), sl14⟩)
    (c14 : PySem.W.codeIn K cd14 "_law_prime" = true)
    (k14 : PySem.W.keepIn K (.ref f14) = true)
    (a15 : PySem.W.nsIn K mainGlobals "_law_ring" = some (some (.ref f15)))
    (l15 : K.lookup f15 = some ⟨oc15, od15, .func (PySem.W.fnOf "_law_ring" "_law_ring" (defArgs (topS 28)) (defBody (topS 28)) (defScope (topS 28)) .none kV15 dc15 pm15 an15 cd15 ct15), sl15⟩)
    (c15 : PySem.W.codeIn K cd15 "_law_ring" = true)
    (k15 : PySem.W.keepIn K (.ref f15) = true)
    (a16 : PySem.W.nsIn K mainGlobals "_law_settled" = some (some (.ref f16)))
    (l16 : K.lookup f16 = some ⟨oc16, od16, .func (PySem.W.fnOf "_law_settled" "_law_settled" (defArgs (topS 29)) (defBody (topS 29)) (defScope (topS 29)) .none kV16 dc16 pm16 an16 cd16 ct16), sl16⟩)
    (c16 : PySem.W.codeIn K cd16 "_law_settled" = true)
    (k16 : PySem.W.keepIn K (.ref f16) = true)
    (a17 : PySem.W.nsIn K mainGlobals "_law_gathered" = some (some (.ref f17)))
    (l17 : K.lookup f17 = some ⟨oc17, od17, .func (PySem.W.fnOf "_law_gathered" "_law_gathered" (defArgs (topS 30)) (defBody (topS 30)) (defScope (topS 30)) .none kV17 dc17 pm17 an17 cd17 ct17), sl17⟩)
    (c17 : PySem.W.codeIn K cd17 "_law_gathered" = true)
    (k17 : PySem.W.keepIn K (.ref f17) = true)
    (a18 : PySem.W.nsIn K mainGlobals "_law_same" = some (some (.ref f18)))
    (l18 : K.lookup f18 = some ⟨oc18, od18, .func (PySem.W.fnOf "_law_same" "_law_same" (defArgs (topS 31)) (defBody (topS 31)) (defScope (topS 31)) .none kV18 dc18 pm18 an18 cd18 ct18), sl18⟩)
    (c18 : PySem.W.codeIn K cd18 "_law_same" = true)
    (k18 : PySem.W.keepIn K (.ref f18) = true)
    (a19 : PySem.W.nsIn K mainGlobals "_law_number" = some (some (.ref f19)))
    (l19 : K.lookup f19 = some ⟨oc19, od19, .func (PySem.W.fnOf "_law_number" "_law_number" (defArgs (topS 32)) (defBody (topS 32)) (defScope (topS 32)) .none kV19 dc19 pm19 an19 cd19 ct19), sl19⟩)
    (c19 : PySem.W.codeIn K cd19 "_law_number" = true)
    (k19 : PySem.W.keepIn K (.ref f19) = true)
    (a20 : PySem.W.nsIn K mainGlobals "_law_exponents" = some (some (.ref f20)))
    (l20 : K.lookup f20 = some ⟨oc20, od20, .func (PySem.W.fnOf "_law_exponents" "_law_exponents" (defArgs (topS 33)) (defBody (topS 33)) (defScope (topS 33)) .none kV20 dc20 pm20 an20 cd20 ct20), sl20⟩)
    (c20 : PySem.W.codeIn K cd20 "_law_exponents" = true)
    (k20 : PySem.W.keepIn K (.ref f20) = true)
    (a21 : PySem.W.nsIn K mainGlobals "_law_pairs" = some (some (.ref f21)))
    (l21 : K.lookup f21 = some ⟨oc21, od21, .func (PySem.W.fnOf "_law_pairs" "_law_pairs" (defArgs (topS 34)) (defBody (topS 34)) (defScope (topS 34)) .none kV21 dc21 pm21 an21 cd21 ct21), sl21⟩)
    (c21 : PySem.W.codeIn K cd21 "_law_pairs" = true)
    (k21 : PySem.W.keepIn K (.ref f21) = true)
    (a22 : PySem.W.nsIn K mainGlobals "_law_word" = some (some (.ref f22)))
    (l22 : K.lookup f22 = some ⟨oc22, od22, .func (PySem.W.fnOf "_law_word" "_law_word" (defArgs (topS 35)) (defBody (topS 35)) (defScope (topS 35)) .none kV22 dc22 pm22 an22 cd22 ct22), sl22⟩)
    (c22 : PySem.W.codeIn K cd22 "_law_word" = true)
    (k22 : PySem.W.keepIn K (.ref f22) = true)
    (a23 : PySem.W.nsIn K mainGlobals "_law_written" = some (some (.ref f23)))
    (l23 : K.lookup f23 = some ⟨oc23, od23, .func (PySem.W.fnOf "_law_written" "_law_written" (defArgs (topS 36)) (defBody (topS 36)) (defScope (topS 36)) .none kV23 dc23 pm23 an23 cd23 ct23), sl23⟩)
    (c23 : PySem.W.codeIn K cd23 "_law_written" = true)
    (k23 : PySem.W.keepIn K (.ref f23) = true)
    (a24 : PySem.W.nsIn K mainGlobals "_law_far" = some (some (.ref f24)))
    (l24 : K.lookup f24 = some ⟨oc24, od24, .func (PySem.W.fnOf "_law_far" "_law_far" (defArgs (topS 37)) (defBody (topS 37)) (defScope (topS 37)) .none kV24 dc24 pm24 an24 cd24 ct24), sl24⟩)
    (c24 : PySem.W.codeIn K cd24 "_law_far" = true)
    (k24 : PySem.W.keepIn K (.ref f24) = true)
    (a25 : PySem.W.nsIn K mainGlobals "law" = some (some (.ref f25)))
    (l25 : K.lookup f25 = some ⟨oc25, od25, .func (PySem.W.fnOf "law" "law" (defArgs (topS 38)) (defBody (topS 38)) (defScope (topS 38)) .none kV25 dc25 pm25 an25 cd25 ct25), sl25⟩)
    (c25 : PySem.W.codeIn K cd25 "law" = true)
    (k25 : PySem.W.keepIn K (.ref f25) = true)
    (v0 : PySem.W.nsIn K mainGlobals "GREATEST_PRIME" = some (some (.int 997 tv0)))
    (v1 : PySem.W.nsIn K mainGlobals "MOST_UNKNOWNS" = some (some (.int 4 tv1)))
    (v2 : PySem.W.nsIn K mainGlobals "LETTERS" = some (some (.str "xyzw" tv2)))
    (v3 : PySem.W.nsIn K mainGlobals "FIGURES" = some (some (.str "0123456789" tv3)))
    (z_isinstance : PySem.W.nsIn K mainGlobals "isinstance" = some none)
    (z_int : PySem.W.nsIn K mainGlobals "int" = some none)
    (z_bool : PySem.W.nsIn K mainGlobals "bool" = some none)
    (z_range : PySem.W.nsIn K mainGlobals "range" = some none)
    (z_len : PySem.W.nsIn K mainGlobals "len" = some none)
    (z_str : PySem.W.nsIn K mainGlobals "str" = some none)
    (z_abs : PySem.W.nsIn K mainGlobals "abs" = some none)
    (z_tuple : PySem.W.nsIn K mainGlobals "tuple" = some none)
    (z_sorted : PySem.W.nsIn K mainGlobals "sorted" = some none)
    (z_list : PySem.W.nsIn K mainGlobals "list" = some none)
    (z_max : PySem.W.nsIn K mainGlobals "max" = some none)
    (e0a : PySem.W.nsIn K mainGlobals "AlgebraError" = some (some (.ref C0)))
    (e0x : PySem.W.excIn K C0 [.type "ValueError", .type "Exception", .type "BaseException", .type "object"] "ValueError.__new__" = true)
    (e0k : PySem.W.keepIn K (.ref C0) = true)
    (e0b : PySem.W.subIn K (.ref C0) (.type "BaseException") = some true)
    (e0t : PySem.W.typeIn K (.ref C0) = some (.type "type"))
    (e0d : PySem.W.hasDictIn K C0 = true)
    (e1a : PySem.W.nsIn K mainGlobals "NoRing" = some (some (.ref C1)))
    (e1x : PySem.W.excIn K C1 [.type "ValueError", .type "Exception", .type "BaseException", .type "object"] "ValueError.__new__" = true)
    (e1k : PySem.W.keepIn K (.ref C1) = true)
    (e1b : PySem.W.subIn K (.ref C1) (.type "BaseException") = some true)
    (e1t : PySem.W.typeIn K (.ref C1) = some (.type "type"))
    (e1d : PySem.W.hasDictIn K C1 = true)
    (e2a : PySem.W.nsIn K mainGlobals "NoUnknowns" = some (some (.ref C2)))
    (e2x : PySem.W.excIn K C2 [.type "ValueError", .type "Exception", .type "BaseException", .type "object"] "ValueError.__new__" = true)
    (e2k : PySem.W.keepIn K (.ref C2) = true)
    (e2b : PySem.W.subIn K (.ref C2) (.type "BaseException") = some true)
    (e2t : PySem.W.typeIn K (.ref C2) = some (.type "type"))
    (e2d : PySem.W.hasDictIn K C2 = true)
    (e3a : PySem.W.nsIn K mainGlobals "NotWritten" = some (some (.ref C3)))
    (e3x : PySem.W.excIn K C3 [.type "ValueError", .type "Exception", .type "BaseException", .type "object"] "ValueError.__new__" = true)
    (e3k : PySem.W.keepIn K (.ref C3) = true)
    (e3b : PySem.W.subIn K (.ref C3) (.type "BaseException") = some true)
    (e3t : PySem.W.typeIn K (.ref C3) = some (.type "type"))
    (e3d : PySem.W.hasDictIn K C3 = true)
    (s0_3 : PySem.W.subIn K (.ref C0) (.ref C3) = some false)
    (s1_3 : PySem.W.subIn K (.ref C1) (.ref C3) = some false)
    (s2_3 : PySem.W.subIn K (.ref C2) (.ref C3) = some false)
    (s3_3 : PySem.W.subIn K (.ref C3) (.ref C3) = some true)
    : ∃ fd : FuncData, (∀ (s : Shared) (v : Value), BindsTo s fd ⟨[v], []⟩ [("_law_script", v)]) ∧ ∀ base : Heap, K.In base → base.Ns mainGlobals mg → ∃ cr, FnOk l.prog w K mg base (L2.CX l.prog w) 6 fa fd ["_law_script"] (spOf cr 1 m_law) := by
  have e := hfa.symm.trans (PySem.W.mg_of X G a25)
  cases e
  let ad : Nat → Addr := fun n => if n < 1000 then [f0, f1, f2, f3, f4, f5, f6, f7, f8, f9, f10, f11, f12, f13, f14, f15, f16, f17, f18, f19, f20, f21, f22, f23, f24, fa].getD n 0 else [C0, C1, C2, C3].getD (n - 1000) 0
  let fd : Nat → FuncData := fun n => [PySem.W.fnOf "is_prime" "is_prime" (defArgs (topS 7)) (defBody (topS 7)) (defScope (topS 7)) .none kV0 dc0 pm0 an0 cd0 ct0, PySem.W.fnOf "is_ring" "is_ring" (defArgs (topS 8)) (defBody (topS 8)) (defScope (topS 8)) .none kV1 dc1 pm1 an1 cd1 ct1, PySem.W.fnOf "need_ring" "need_ring" (defArgs (topS 11)) (defBody (topS 11)) (defScope (topS 11)) .none kV2 dc2 pm2 an2 cd2 ct2, PySem.W.fnOf "is_whole" "is_whole" (defArgs (topS 12)) (defBody (topS 12)) (defScope (topS 12)) .none kV3 dc3 pm3 an3 cd3 ct3, PySem.W.fnOf "need_unknowns" "need_unknowns" (defArgs (topS 13)) (defBody (topS 13)) (defScope (topS 13)) .none kV4 dc4 pm4 an4 cd4 ct4, PySem.W.fnOf "letters" "letters" (defArgs (topS 17)) (defBody (topS 17)) (defScope (topS 17)) .none kV5 dc5 pm5 an5 cd5 ct5, PySem.W.fnOf "shown_term" "shown_term" (defArgs (topS 18)) (defBody (topS 18)) (defScope (topS 18)) .none kV6 dc6 pm6 an6 cd6 ct6, PySem.W.fnOf "shown" "shown" (defArgs (topS 19)) (defBody (topS 19)) (defScope (topS 19)) .none kV7 dc7 pm7 an7 cd7 ct7, PySem.W.fnOf "whole_of" "whole_of" (defArgs (topS 20)) (defBody (topS 20)) (defScope (topS 20)) .none kV8 dc8 pm8 an8 cd8 ct8, PySem.W.fnOf "power_of" "power_of" (defArgs (topS 21)) (defBody (topS 21)) (defScope (topS 21)) .none kV9 dc9 pm9 an9 cd9 ct9, PySem.W.fnOf "read_term" "read_term" (defArgs (topS 22)) (defBody (topS 22)) (defScope (topS 22)) .none kV10 dc10 pm10 an10 cd10 ct10, PySem.W.fnOf "read" "read" (defArgs (topS 23)) (defBody (topS 23)) (defScope (topS 23)) .none kV11 dc11 pm11 an11 cd11 ct11, PySem.W.fnOf "_law_whole" "_law_whole" (defArgs (topS 25)) (defBody (topS 25)) (defScope (topS 25)) .none kV12 dc12 pm12 an12 cd12 ct12, PySem.W.fnOf "_law_cell_at" "_law_cell_at" (defArgs (topS 26)) (defBody (topS 26)) (defScope (topS 26)) .none kV13 dc13 pm13 an13 cd13 ct13, PySem.W.fnOf "_law_prime" "_law_prime" (defArgs (topS 27)) (defBody (topS 27)) (defScope (topS 27)) .none kV14 dc14 pm14 an14 cd14 ct14, PySem.W.fnOf "_law_ring" "_law_ring" (defArgs (topS 28)) (defBody (topS 28)) (defScope (topS 28)) .none kV15 dc15 pm15 an15 cd15 ct15, PySem.W.fnOf "_law_settled" "_law_settled" (defArgs (topS 29)) (defBody (topS 29)) (defScope (topS 29)) .none kV16 dc16 pm16 an16 cd16 ct16, PySem.W.fnOf "_law_gathered" "_law_gathered" (defArgs (topS 30)) (defBody (topS 30)) (defScope (topS 30)) .none kV17 dc17 pm17 an17 cd17 ct17, PySem.W.fnOf "_law_same" "_law_same" (defArgs (topS 31)) (defBody (topS 31)) (defScope (topS 31)) .none kV18 dc18 pm18 an18 cd18 ct18, PySem.W.fnOf "_law_number" "_law_number" (defArgs (topS 32)) (defBody (topS 32)) (defScope (topS 32)) .none kV19 dc19 pm19 an19 cd19 ct19, PySem.W.fnOf "_law_exponents" "_law_exponents" (defArgs (topS 33)) (defBody (topS 33)) (defScope (topS 33)) .none kV20 dc20 pm20 an20 cd20 ct20, PySem.W.fnOf "_law_pairs" "_law_pairs" (defArgs (topS 34)) (defBody (topS 34)) (defScope (topS 34)) .none kV21 dc21 pm21 an21 cd21 ct21, PySem.W.fnOf "_law_word" "_law_word" (defArgs (topS 35)) (defBody (topS 35)) (defScope (topS 35)) .none kV22 dc22 pm22 an22 cd22 ct22, PySem.W.fnOf "_law_written" "_law_written" (defArgs (topS 36)) (defBody (topS 36)) (defScope (topS 36)) .none kV23 dc23 pm23 an23 cd23 ct23, PySem.W.fnOf "_law_far" "_law_far" (defArgs (topS 37)) (defBody (topS 37)) (defScope (topS 37)) .none kV24 dc24 pm24 an24 cd24 ct24, PySem.W.fnOf "law" "law" (defArgs (topS 38)) (defBody (topS 38)) (defScope (topS 38)) .none kV25 dc25 pm25 an25 cd25 ct25].getD n (PySem.W.fnOf "is_prime" "is_prime" (defArgs (topS 7)) (defBody (topS 7)) (defScope (topS 7)) .none kV0 dc0 pm0 an0 cd0 ct0)
  have F0 : Fun K "is_prime" "is_prime" (topS 7) (ad 0) (fd 0) := fun_mk (st := topS 7) l0 c0 k0
  have F1 : Fun K "is_ring" "is_ring" (topS 8) (ad 1) (fd 1) := fun_mk (st := topS 8) l1 c1 k1
  have F2 : Fun K "need_ring" "need_ring" (topS 11) (ad 2) (fd 2) := fun_mk (st := topS 11) l2 c2 k2
  have F3 : Fun K "is_whole" "is_whole" (topS 12) (ad 3) (fd 3) := fun_mk (st := topS 12) l3 c3 k3
  have F4 : Fun K "need_unknowns" "need_unknowns" (topS 13) (ad 4) (fd 4) := fun_mk (st := topS 13) l4 c4 k4
  have F5 : Fun K "letters" "letters" (topS 17) (ad 5) (fd 5) := fun_mk (st := topS 17) l5 c5 k5
  have F6 : Fun K "shown_term" "shown_term" (topS 18) (ad 6) (fd 6) := fun_mk (st := topS 18) l6 c6 k6
  have F7 : Fun K "shown" "shown" (topS 19) (ad 7) (fd 7) := fun_mk (st := topS 19) l7 c7 k7
  have F8 : Fun K "whole_of" "whole_of" (topS 20) (ad 8) (fd 8) := fun_mk (st := topS 20) l8 c8 k8
  have F9 : Fun K "power_of" "power_of" (topS 21) (ad 9) (fd 9) := fun_mk (st := topS 21) l9 c9 k9
  have F10 : Fun K "read_term" "read_term" (topS 22) (ad 10) (fd 10) := fun_mk (st := topS 22) l10 c10 k10
  have F11 : Fun K "read" "read" (topS 23) (ad 11) (fd 11) := fun_mk (st := topS 23) l11 c11 k11
  have F12 : Fun K "_law_whole" "_law_whole" (topS 25) (ad 12) (fd 12) := fun_mk (st := topS 25) l12 c12 k12
  have F13 : Fun K "_law_cell_at" "_law_cell_at" (topS 26) (ad 13) (fd 13) := fun_mk (st := topS 26) l13 c13 k13
  have F14 : Fun K "_law_prime" "_law_prime" (topS 27) (ad 14) (fd 14) := fun_mk (st := topS 27) l14 c14 k14
  have F15 : Fun K "_law_ring" "_law_ring" (topS 28) (ad 15) (fd 15) := fun_mk (st := topS 28) l15 c15 k15
  have F16 : Fun K "_law_settled" "_law_settled" (topS 29) (ad 16) (fd 16) := fun_mk (st := topS 29) l16 c16 k16
  have F17 : Fun K "_law_gathered" "_law_gathered" (topS 30) (ad 17) (fd 17) := fun_mk (st := topS 30) l17 c17 k17
  have F18 : Fun K "_law_same" "_law_same" (topS 31) (ad 18) (fd 18) := fun_mk (st := topS 31) l18 c18 k18
  have F19 : Fun K "_law_number" "_law_number" (topS 32) (ad 19) (fd 19) := fun_mk (st := topS 32) l19 c19 k19
  have F20 : Fun K "_law_exponents" "_law_exponents" (topS 33) (ad 20) (fd 20) := fun_mk (st := topS 33) l20 c20 k20
  have F21 : Fun K "_law_pairs" "_law_pairs" (topS 34) (ad 21) (fd 21) := fun_mk (st := topS 34) l21 c21 k21
  have F22 : Fun K "_law_word" "_law_word" (topS 35) (ad 22) (fd 22) := fun_mk (st := topS 35) l22 c22 k22
  have F23 : Fun K "_law_written" "_law_written" (topS 36) (ad 23) (fd 23) := fun_mk (st := topS 36) l23 c23 k23
  have F24 : Fun K "_law_far" "_law_far" (topS 37) (ad 24) (fd 24) := fun_mk (st := topS 37) l24 c24 k24
  have F25 : Fun K "law" "law" (topS 38) (ad 25) (fd 25) := fun_mk (st := topS 38) l25 c25 k25
  have T : Tx K mg ad fd :=
    { F0 := F0
      b0 := F0.binds (ps := ["thing"]) fun _ _ _ _ _ _ us hl => match us, hl with | [_], _ => rfl
      g0 := PySem.W.mg_of X G a0
      F1 := F1
      b1 := F1.binds (ps := ["thing"]) fun _ _ _ _ _ _ us hl => match us, hl with | [_], _ => rfl
      g1 := PySem.W.mg_of X G a1
      F2 := F2
      b2 := F2.binds (ps := ["ring"]) fun _ _ _ _ _ _ us hl => match us, hl with | [_], _ => rfl
      g2 := PySem.W.mg_of X G a2
      F3 := F3
      b3 := F3.binds (ps := ["thing"]) fun _ _ _ _ _ _ us hl => match us, hl with | [_], _ => rfl
      g3 := PySem.W.mg_of X G a3
      F4 := F4
      b4 := F4.binds (ps := ["many"]) fun _ _ _ _ _ _ us hl => match us, hl with | [_], _ => rfl
      g4 := PySem.W.mg_of X G a4
      F5 := F5
      b5 := F5.binds (ps := ["exponents"]) fun _ _ _ _ _ _ us hl => match us, hl with | [_], _ => rfl
      g5 := PySem.W.mg_of X G a5
      F6 := F6
      b6 := F6.binds (ps := ["exponents", "number"]) fun _ _ _ _ _ _ us hl => match us, hl with | [_, _], _ => rfl
      g6 := PySem.W.mg_of X G a6
      F7 := F7
      b7 := F7.binds (ps := ["row"]) fun _ _ _ _ _ _ us hl => match us, hl with | [_], _ => rfl
      g7 := PySem.W.mg_of X G a7
      F8 := F8
      b8 := F8.binds (ps := ["word"]) fun _ _ _ _ _ _ us hl => match us, hl with | [_], _ => rfl
      g8 := PySem.W.mg_of X G a8
      F9 := F9
      b9 := F9.binds (ps := ["word"]) fun _ _ _ _ _ _ us hl => match us, hl with | [_], _ => rfl
      g9 := PySem.W.mg_of X G a9
      F10 := F10
      b10 := F10.binds (ps := ["many", "text"]) fun _ _ _ _ _ _ us hl => match us, hl with | [_, _], _ => rfl
      g10 := PySem.W.mg_of X G a10
      F11 := F11
      b11 := F11.binds (ps := ["ring", "many", "text"]) fun _ _ _ _ _ _ us hl => match us, hl with | [_, _, _], _ => rfl
      g11 := PySem.W.mg_of X G a11
      F12 := F12
      b12 := F12.binds (ps := ["_law_found"]) fun _ _ _ _ _ _ us hl => match us, hl with | [_], _ => rfl
      g12 := PySem.W.mg_of X G a12
      F13 := F13
      b13 := F13.binds (ps := ["_law_script", "_law_k"]) fun _ _ _ _ _ _ us hl => match us, hl with | [_, _], _ => rfl
      g13 := PySem.W.mg_of X G a13
      F14 := F14
      b14 := F14.binds (ps := ["_law_cell"]) fun _ _ _ _ _ _ us hl => match us, hl with | [_], _ => rfl
      g14 := PySem.W.mg_of X G a14
      F15 := F15
      b15 := F15.binds (ps := ["_law_cell"]) fun _ _ _ _ _ _ us hl => match us, hl with | [_], _ => rfl
      g15 := PySem.W.mg_of X G a15
      F16 := F16
      b16 := F16.binds (ps := ["_law_ring_here", "_law_number_here"]) fun _ _ _ _ _ _ us hl => match us, hl with | [_, _], _ => rfl
      g16 := PySem.W.mg_of X G a16
      F17 := F17
      b17 := F17.binds (ps := ["_law_ring_here", "_law_pairs_here"]) fun _ _ _ _ _ _ us hl => match us, hl with | [_, _], _ => rfl
      g17 := PySem.W.mg_of X G a17
      F18 := F18
      b18 := F18.binds (ps := ["_law_found", "_law_due"]) fun _ _ _ _ _ _ us hl => match us, hl with | [_, _], _ => rfl
      g18 := PySem.W.mg_of X G a18
      F19 := F19
      b19 := F19.binds (ps := ["_law_cell"]) fun _ _ _ _ _ _ us hl => match us, hl with | [_], _ => rfl
      g19 := PySem.W.mg_of X G a19
      F20 := F20
      b20 := F20.binds (ps := ["_law_cell", "_law_many"]) fun _ _ _ _ _ _ us hl => match us, hl with | [_, _], _ => rfl
      g20 := PySem.W.mg_of X G a20
      F21 := F21
      b21 := F21.binds (ps := ["_law_script", "_law_place", "_law_many", "_law_size"]) fun _ _ _ _ _ _ us hl => match us, hl with | [_, _, _, _], _ => rfl
      g21 := PySem.W.mg_of X G a21
      F22 := F22
      b22 := F22.binds (ps := ["_law_term"]) fun _ _ _ _ _ _ us hl => match us, hl with | [_], _ => rfl
      g22 := PySem.W.mg_of X G a22
      F23 := F23
      b23 := F23.binds (ps := ["_law_row"]) fun _ _ _ _ _ _ us hl => match us, hl with | [_], _ => rfl
      g23 := PySem.W.mg_of X G a23
      F24 := F24
      b24 := F24.binds (ps := ["_law_ring_here", "_law_many", "_law_row", "_law_step"]) fun _ _ _ _ _ _ us hl => match us, hl with | [_, _, _, _], _ => rfl
      g24 := PySem.W.mg_of X G a24
      F25 := F25
      b25 := F25.binds (ps := ["_law_script"]) fun _ _ _ _ _ _ us hl => match us, hl with | [_], _ => rfl
      g25 := PySem.W.mg_of X G a25
      c0 := ⟨_, PySem.W.mg_of X G v0⟩
      c1 := ⟨_, PySem.W.mg_of X G v1⟩
      c2 := ⟨_, PySem.W.mg_of X G v2⟩
      c3 := ⟨_, PySem.W.mg_of X G v3⟩
      z_isinstance := PySem.W.mg_none_of X G z_isinstance
      z_int := PySem.W.mg_none_of X G z_int
      z_bool := PySem.W.mg_none_of X G z_bool
      z_range := PySem.W.mg_none_of X G z_range
      z_len := PySem.W.mg_none_of X G z_len
      z_str := PySem.W.mg_none_of X G z_str
      z_abs := PySem.W.mg_none_of X G z_abs
      z_tuple := PySem.W.mg_none_of X G z_tuple
      z_sorted := PySem.W.mg_none_of X G z_sorted
      z_list := PySem.W.mg_none_of X G z_list
      z_max := PySem.W.mg_none_of X G z_max
      e0 := ⟨e0x, PySem.W.mg_of X G e0a, e0k, e0b, e0t⟩
      e1 := ⟨e1x, PySem.W.mg_of X G e1a, e1k, e1b, e1t⟩
      e2 := ⟨e2x, PySem.W.mg_of X G e2a, e2k, e2b, e2t⟩
      e3 := ⟨e3x, PySem.W.mg_of X G e3a, e3k, e3b, e3t⟩
      h3 := (fun c b h => match c, b, h with | 0, _, h => by cases h; exact PySem.W.exm_ref e3b e3d e3t s0_3 | 1, _, h => by cases h; exact PySem.W.exm_ref e3b e3d e3t s1_3 | 2, _, h => by cases h; exact PySem.W.exm_ref e3b e3d e3t s2_3 | 3, _, h => by cases h; exact PySem.W.exm_ref e3b e3d e3t s3_3 | n + 4, _, h => by simp at h) }
  have B : ∀ (s : Shared) (v : Value), BindsTo s (PySem.W.fnOf "law" "law" (defArgs (topS 38)) (defBody (topS 38)) (defScope (topS 38)) .none kV25 dc25 pm25 an25 cd25 ct25) ⟨[v], []⟩ [("_law_script", v)] := fun s v => .of_eq rfl
  exact ⟨fd 25, B, fun base _ _ => ⟨crA ad, ok_law T⟩⟩
end Lw
open PySem PySem.W PyProof.Rows in
set_option maxRecDepth 100000 in
set_option maxHeartbeats 0 in
theorem PySem.Challenge.cw_polyring_k10_written_holds : PySem.Challenge.rw_polyring_k10_written.Holds := by
  w_on; o_law; k_head; (case hw => w_witness2)  -- q
  k_fill
  refine Q.walk_fin (x := "_law_script") (l := PySem.Challenge.rw_polyring_k10_written) (m := Lw.m_law) (k := 6) rfl rfl ⟨rfl, by decide, by decide⟩ (fun w h Y => PySem.W.kIn_of Y) ?K ?F Lw.law_true
  case K => intro w; kernel_rfl
  case F =>
    intro w mg fa h KX G hmg
    refine' Lw.all_mk KX G hmg ?a0 ?l0 ?c0 ?k0 ?a1 ?l1 ?c1 ?k1 ?a2 ?l2 ?c2 ?k2 ?a3 ?l3 ?c3 ?k3 ?a4 ?l4 ?c4 ?k4 ?a5 ?l5 ?c5 ?k5 ?a6 ?l6 ?c6 ?k6 ?a7 ?l7 ?c7 ?k7 ?a8 ?l8 ?c8 ?k8 ?a9 ?l9 ?c9 ?k9 ?a10 ?l10 ?c10 ?k10 ?a11 ?l11 ?c11 ?k11 ?a12 ?l12 ?c12 ?k12 ?a13 ?l13 ?c13 ?k13 ?a14 ?l14 ?c14 ?k14 ?a15 ?l15 ?c15 ?k15 ?a16 ?l16 ?c16 ?k16 ?a17 ?l17 ?c17 ?k17 ?a18 ?l18 ?c18 ?k18 ?a19 ?l19 ?c19 ?k19 ?a20 ?l20 ?c20 ?k20 ?a21 ?l21 ?c21 ?k21 ?a22 ?l22 ?c22 ?k22 ?a23 ?l23 ?c23 ?k23 ?a24 ?l24 ?c24 ?k24 ?a25 ?l25 ?c25 ?k25 ?v0 ?v1 ?v2 ?v3 ?z_isinstance ?z_int ?z_bool ?z_range ?z_len ?z_str ?z_abs ?z_tuple ?z_sorted ?z_list ?z_max ?e0a ?e0x ?e0k ?e0b ?e0t ?e0d ?e1a ?e1x ?e1k ?e1b ?e1t ?e1d ?e2a ?e2x ?e2k ?e2b ?e2t ?e2d ?e3a ?e3x ?e3k ?e3b ?e3t ?e3d ?s0_3 ?s1_3 ?s2_3 ?s3_3
    (case a0 => k_is)
    (case l0 => k_is)
    (case c0 => k_is)
    (case k0 => k_is)
    (case a1 => k_is)
    (case l1 => k_is)
    (case c1 => k_is)
    (case k1 => k_is)
    (case a2 => k_is)
    (case l2 => k_is)
    (case c2 => k_is)
    (case k2 => k_is)
    (case a3 => k_is)
    (case l3 => k_is)
    (case c3 => k_is)
    (case k3 => k_is)
    (case a4 => k_is)
    (case l4 => k_is)
    (case c4 => k_is)
    (case k4 => k_is)
    (case a5 => k_is)
    (case l5 => k_is)
    (case c5 => k_is)
    (case k5 => k_is)
    (case a6 => k_is)
    (case l6 => k_is)
    (case c6 => k_is)
    (case k6 => k_is)
    (case a7 => k_is)
    (case l7 => k_is)
    (case c7 => k_is)
    (case k7 => k_is)
    (case a8 => k_is)
    (case l8 => k_is)
    (case c8 => k_is)
    (case k8 => k_is)
    (case a9 => k_is)
    (case l9 => k_is)
    (case c9 => k_is)
    (case k9 => k_is)
    (case a10 => k_is)
    (case l10 => k_is)
    (case c10 => k_is)
    (case k10 => k_is)
    (case a11 => k_is)
    (case l11 => k_is)
    (case c11 => k_is)
    (case k11 => k_is)
    (case a12 => k_is)
    (case l12 => k_is)
    (case c12 => k_is)
    (case k12 => k_is)
    (case a13 => k_is)
    (case l13 => k_is)
    (case c13 => k_is)
    (case k13 => k_is)
    (case a14 => k_is)
    (case l14 => k_is)
    (case c14 => k_is)
    (case k14 => k_is)
    (case a15 => k_is)
    (case l15 => k_is)
    (case c15 => k_is)
    (case k15 => k_is)
    (case a16 => k_is)
    (case l16 => k_is)
    (case c16 => k_is)
    (case k16 => k_is)
    (case a17 => k_is)
    (case l17 => k_is)
    (case c17 => k_is)
    (case k17 => k_is)
    (case a18 => k_is)
    (case l18 => k_is)
    (case c18 => k_is)
    (case k18 => k_is)
    (case a19 => k_is)
    (case l19 => k_is)
    (case c19 => k_is)
    (case k19 => k_is)
    (case a20 => k_is)
    (case l20 => k_is)
    (case c20 => k_is)
    (case k20 => k_is)
    (case a21 => k_is)
    (case l21 => k_is)
    (case c21 => k_is)
    (case k21 => k_is)
    (case a22 => k_is)
    (case l22 => k_is)
    (case c22 => k_is)
    (case k22 => k_is)
    (case a23 => k_is)
    (case l23 => k_is)
    (case c23 => k_is)
    (case k23 => k_is)
    (case a24 => k_is)
    (case l24 => k_is)
    (case c24 => k_is)
    (case k24 => k_is)
    (case a25 => k_is)
    (case l25 => k_is)
    (case c25 => k_is)
    (case k25 => k_is)
    (case v0 => k_is)
    (case v1 => k_is)
    (case v2 => k_is)
    (case v3 => k_is)
    (case z_isinstance => k_is)
    (case z_int => k_is)
    (case z_bool => k_is)
    (case z_range => k_is)
    (case z_len => k_is)
    (case z_str => k_is)
    (case z_abs => k_is)
    (case z_tuple => k_is)
    (case z_sorted => k_is)
    (case z_list => k_is)
    (case z_max => k_is)
    (case e0a => k_is)
    (case e0x => k_exc)
    (case e0k => k_is)
    (case e0b => k_is)
    (case e0t => k_is)
    (case e0d => k_is)
    (case e1a => k_is)
    (case e1x => k_exc)
    (case e1k => k_is)
    (case e1b => k_is)
    (case e1t => k_is)
    (case e1d => k_is)
    (case e2a => k_is)
    (case e2x => k_exc)
    (case e2k => k_is)
    (case e2b => k_is)
    (case e2t => k_is)
    (case e2d => k_is)
    (case e3a => k_is)
    (case e3x => k_exc)
    (case e3k => k_is)
    (case e3b => k_is)
    (case e3t => k_is)
    (case e3d => k_is)
    (case s0_3 => k_is)
    (case s1_3 => k_is)
    (case s2_3 => k_is)
    (case s3_3 => k_is)
