import PyProof.Rows.All
import Wide.All
import OpenK.AllK
import Wide.FinOn
import HandS.ForMost
import HandS.ForExc
import HandS.Iter
import HandS.TupAny
import HandS.IsInst
import HandS.Dict
import HandS.Text
import HandS.More
import KE.KStateDown
import HandS.Defaults
import HandS.Head0
import HandS.Head1
import HandS.Head2
import HandS.HeadEnd
import HandS.HeadHook1
import HandS.HeadHook2
import HandS.HeadHook3
import PySem.Challenge.RW_stampcourse_k77_pages_written
set_option Elab.async false
set_option linter.all false
set_option maxRecDepth 100000
/-! Pf1: data (D), owned trees (T), how they lie in the abstract heap; frozen heap H0 within H. -/
namespace Pf
open PySem PySem.Spec PyProof.Rows L2

/-- data that nobody changes any more -/
inductive D where
  | non | bl (b : Bool) | int (i : Int) | str (x : Str) | tup (ds : List D) | lst (ds : List D) | rol (ds : List D)
  | dic (ks : List Key) (ds : List D) | dit (ks : List (List Key)) (ds : List D) | ins (c : Str) (fs : List Str) (ds : List D) | glo (x : Str) | ty (n : String)
/-- a thing with one owner: plain data, or a list, dict, instance that may be changed -/
inductive T where
  | val (d : D) | lst (ts : List T) | dic (ks : List Key) (ts : List T) | dit (ks : List (List Key)) (ts : List T) | ins (c : Str) (fs : List Str) (ts : List T)
mutual
def T.toD : T → D
  | .val d => d
  | .lst ts => .lst (T.toDs ts)
  | .dic ks ts => .dic ks (T.toDs ts)
  | .dit ks ts => .dit ks (T.toDs ts)
  | .ins c fs ts => .ins c fs (T.toDs ts)
def T.toDs : List T → List D
  | [] => []
  | t :: ts => t.toD :: T.toDs ts
end
theorem toDs_val : ∀ ds : List D, T.toDs (ds.map T.val) = ds
  | [] => rfl
  | d :: ds => by
    show T.toD (.val d) :: T.toDs (ds.map T.val) = d :: ds
    rw [toDs_val ds]
    rfl

theorem Same.tup {K : PySem.W.Frag} {H H' : Hp} {a : Addr} {xs : List V} (e : Same H H') (h : SqT K H a xs) : SqT K H' a xs := by
  rcases h with (h | ⟨o, h⟩) | h
  · exact .inl (.inl (e _ _ h))
  · exact .inl (.inr ⟨o, e _ _ h⟩)
  · exact .inr h
theorem Same.rd {H H' : Hp} {a : Addr} {u : HO} (e : Same H H') (h : Rd H a u) : Rd H' a u := by
  rcases h with h | ⟨o, h⟩
  · exact .inl (e _ _ h)
  · exact .inr ⟨o, e _ _ h⟩

section
variable (K : PySem.W.Frag) (mg : Str → Option Value)
mutual
def Rep (H : Hp) : D → V → Prop
  | .non, v => v = .non
  | .bl b, v => v = .bl b
  | .int i, v => v = .int i
  | .str x, v => v = .str x
  | .tup ds, v => ∃ a vs, v = .ref a ∧ SqT K H a vs ∧ Reps H ds vs
  | .lst ds, v => ∃ a vs, v = .ref a ∧ H a = some (.lst vs) ∧ Reps H ds vs
  | .rol ds, v => ∃ a vs, v = .ref a ∧ SqL K H a vs ∧ Reps H ds vs
  | .dic ks ds, v => ∃ a vs, v = .ref a ∧ Rd H a (.dK (ks.zip vs)) ∧ ks.length = vs.length ∧ Reps H ds vs
  | .dit ks ds, v => ∃ a vs, v = .ref a ∧ Rd H a (.dT (ks.zip vs)) ∧ ks.length = vs.length ∧ Reps H ds vs
  | .ins c fs ds, v => ∃ a C dx vs, v = .ref a ∧ mg c = some (.ref C) ∧ H a = some (.ins C dx (fs.zip vs)) ∧ H dx = some (.own a) ∧ fs.length = vs.length ∧ Reps H ds vs
  | .glo x, v => ∃ u, mg x = some u ∧ RelV v u
  | .ty n, v => v = .ty n
def Reps (H : Hp) : List D → List V → Prop
  | [], vs => vs = []
  | d :: ds, vs => ∃ v ws, vs = v :: ws ∧ Rep H d v ∧ Reps H ds ws
end
mutual
def Own (H H0 : Hp) : T → V → List Addr → Prop
  | .val d, v, fp => fp = [] ∧ Rep K mg H0 d v
  | .lst ts, v, fp => ∃ a vs f, v = .ref a ∧ H a = some (.lst vs) ∧ Owns H H0 ts vs f ∧ fp = a :: f
  | .dic ks ts, v, fp => ∃ a vs f, v = .ref a ∧ H a = some (.dK (ks.zip vs)) ∧ ks.length = vs.length ∧ Owns H H0 ts vs f ∧ fp = a :: f
  | .dit ks ts, v, fp => ∃ a vs f, v = .ref a ∧ H a = some (.dT (ks.zip vs)) ∧ ks.length = vs.length ∧ Owns H H0 ts vs f ∧ fp = a :: f
  | .ins c fs ts, v, fp => ∃ a C dx vs f, v = .ref a ∧ mg c = some (.ref C) ∧ H a = some (.ins C dx (fs.zip vs)) ∧ H dx = some (.own a) ∧ fs.length = vs.length ∧ Owns H H0 ts vs f ∧ fp = a :: dx :: f
def Owns (H H0 : Hp) : List T → List V → List Addr → Prop
  | [], vs, fp => vs = [] ∧ fp = []
  | t :: ts, vs, fp => ∃ v ws f g, vs = v :: ws ∧ Own H H0 t v f ∧ Owns H H0 ts ws g ∧ fp = f ++ g
end
end

section
variable {K : PySem.W.Frag} {mg : Str → Option Value} {H H' H0 H0' : Hp}
mutual
theorem Rep.mono (e : Same H H') : ∀ {d : D} {v : V}, Rep K mg H d v → Rep K mg H' d v
  | .non, _, h => h
  | .bl _, _, h => h
  | .int _, _, h => h
  | .str _, _, h => h
  | .tup _, _, ⟨a, vs, h1, h2, h3⟩ => ⟨a, vs, h1, Same.tup e h2, Reps.mono e h3⟩
  | .lst _, _, ⟨a, vs, h1, h2, h3⟩ => ⟨a, vs, h1, e _ _ h2, Reps.mono e h3⟩
  | .rol _, _, ⟨a, vs, h1, h2, h3⟩ => ⟨a, vs, h1, e.seq h2, Reps.mono e h3⟩
  | .dic _ _, _, ⟨a, vs, h1, h2, h3, h4⟩ => ⟨a, vs, h1, Same.rd e h2, h3, Reps.mono e h4⟩
  | .dit _ _, _, ⟨a, vs, h1, h2, h3, h4⟩ => ⟨a, vs, h1, Same.rd e h2, h3, Reps.mono e h4⟩
  | .ins _ _ _, _, ⟨a, C, dx, vs, h1, h2, h3, h4, h5, h6⟩ => ⟨a, C, dx, vs, h1, h2, e _ _ h3, e _ _ h4, h5, Reps.mono e h6⟩
  | .glo _, _, h => h
  | .ty _, _, h => h
theorem Reps.mono (e : Same H H') : ∀ {ds : List D} {vs : List V}, Reps K mg H ds vs → Reps K mg H' ds vs
  | [], _, h => h
  | _ :: _, _, ⟨v, ws, h1, h2, h3⟩ => ⟨v, ws, h1, Rep.mono e h2, Reps.mono e h3⟩
end
theorem Reps.len : ∀ {ds : List D} {vs : List V}, Reps K mg H ds vs → vs.length = ds.length
  | [], _, h => by cases h; rfl
  | _ :: _, _, ⟨v, ws, h1, h2, h3⟩ => by subst h1; rw [List.length_cons, List.length_cons, Reps.len h3]
theorem Owns.len : ∀ {ts : List T} {vs : List V} {f : List Addr}, Owns K mg H H0 ts vs f → vs.length = ts.length
  | [], _, _, h => by rw [h.1]; rfl
  | _ :: _, _, _, ⟨v, ws, _, _, h1, _, h3, _⟩ => by subst h1; rw [List.length_cons, List.length_cons, Owns.len h3]
/-! what is owned stands there -/
mutual
theorem Own.live : ∀ {t : T} {v : V} {fp : List Addr}, Own K mg H H0 t v fp → ∀ a ∈ fp, H a ≠ none
  | .val _, _, _, ⟨e, _⟩, a, m => by rw [e] at m; cases m
  | .lst _, _, _, ⟨p, vs, f, _, h2, h3, e⟩, a, m => by
    rw [e] at m
    rcases List.mem_cons.mp m with q | q
    · rw [q, h2]; exact Option.some_ne_none _
    · exact Owns.live h3 a q
  | .dic _ _, _, _, ⟨p, vs, f, _, h2, _, h3, e⟩, a, m => by
    rw [e] at m
    rcases List.mem_cons.mp m with q | q
    · rw [q, h2]; exact Option.some_ne_none _
    · exact Owns.live h3 a q
  | .dit _ _, _, _, ⟨p, vs, f, _, h2, _, h3, e⟩, a, m => by
    rw [e] at m
    rcases List.mem_cons.mp m with q | q
    · rw [q, h2]; exact Option.some_ne_none _
    · exact Owns.live h3 a q
  | .ins _ _ _, _, _, ⟨p, C, dx, vs, f, _, _, h2, h3, _, h5, e⟩, a, m => by
    rw [e] at m
    rcases List.mem_cons.mp m with q | q
    · rw [q, h2]; exact Option.some_ne_none _
    · rcases List.mem_cons.mp q with q | q
      · rw [q, h3]; exact Option.some_ne_none _
      · exact Owns.live h5 a q
theorem Owns.live : ∀ {ts : List T} {vs : List V} {fp : List Addr}, Owns K mg H H0 ts vs fp → ∀ a ∈ fp, H a ≠ none
  | [], _, _, ⟨_, e⟩, a, m => by rw [e] at m; cases m
  | _ :: _, _, _, ⟨v, ws, f, g, _, h2, h3, e⟩, a, m => by
    rw [e] at m
    rcases List.mem_append.mp m with q | q
    · exact Own.live h2 a q
    · exact Owns.live h3 a q
end
/-! what is owned stays where its own objects stay and the frozen ones too -/
mutual
theorem Own.stay (e0 : Same H0 H0') : ∀ {t : T} {v : V} {fp : List Addr}, (∀ a ∈ fp, ∀ o, H a = some o → H' a = some o) → Own K mg H H0 t v fp → Own K mg H' H0' t v fp
  | .val _, _, _, _, ⟨e, h⟩ => ⟨e, h.mono e0⟩
  | .lst _, _, _, k, ⟨p, vs, f, h1, h2, h3, e⟩ => by
    subst e
    exact ⟨p, vs, f, h1, k p List.mem_cons_self _ h2, Owns.stay e0 (fun a m => k a (List.mem_cons_of_mem _ m)) h3, rfl⟩
  | .dic _ _, _, _, k, ⟨p, vs, f, h1, h2, hl, h3, e⟩ => by
    subst e
    exact ⟨p, vs, f, h1, k p List.mem_cons_self _ h2, hl, Owns.stay e0 (fun a m => k a (List.mem_cons_of_mem _ m)) h3, rfl⟩
  | .dit _ _, _, _, k, ⟨p, vs, f, h1, h2, hl, h3, e⟩ => by
    subst e
    exact ⟨p, vs, f, h1, k p List.mem_cons_self _ h2, hl, Owns.stay e0 (fun a m => k a (List.mem_cons_of_mem _ m)) h3, rfl⟩
  | .ins _ _ _, _, _, k, ⟨p, C, dx, vs, f, h1, hm, h2, hd, hl, h3, e⟩ => by
    subst e
    exact ⟨p, C, dx, vs, f, h1, hm, k p List.mem_cons_self _ h2, k dx (List.mem_cons_of_mem _ List.mem_cons_self) _ hd, hl, Owns.stay e0 (fun a m => k a (List.mem_cons_of_mem _ (List.mem_cons_of_mem _ m))) h3, rfl⟩
theorem Owns.stay (e0 : Same H0 H0') : ∀ {ts : List T} {vs : List V} {fp : List Addr}, (∀ a ∈ fp, ∀ o, H a = some o → H' a = some o) → Owns K mg H H0 ts vs fp → Owns K mg H' H0' ts vs fp
  | [], _, _, _, h => h
  | _ :: _, _, _, k, ⟨v, ws, f, g, h1, h2, h3, e⟩ => by
    subst e
    exact ⟨v, ws, f, g, h1, Own.stay e0 (fun a m => k a (List.mem_append_left _ m)) h2, Owns.stay e0 (fun a m => k a (List.mem_append_right _ m)) h3, rfl⟩
end
/-! frozen: what is owned, as data of a heap that holds its objects -/
mutual
theorem Own.rep (e0 : Same H0 H') : ∀ {t : T} {v : V} {fp : List Addr}, (∀ a ∈ fp, ∀ o, H a = some o → H' a = some o) → Own K mg H H0 t v fp → Rep K mg H' t.toD v
  | .val d, _, _, _, ⟨_, h⟩ => show Rep K mg H' d _ from h.mono e0
  | .lst _, _, _, k, ⟨p, vs, f, h1, h2, h3, e⟩ => by
    subst e
    exact ⟨p, vs, h1, k p List.mem_cons_self _ h2, Owns.reps e0 (fun a m => k a (List.mem_cons_of_mem _ m)) h3⟩
  | .dic _ _, _, _, k, ⟨p, vs, f, h1, h2, hl, h3, e⟩ => by
    subst e
    exact ⟨p, vs, h1, .inl (k p List.mem_cons_self _ h2), hl, Owns.reps e0 (fun a m => k a (List.mem_cons_of_mem _ m)) h3⟩
  | .dit _ _, _, _, k, ⟨p, vs, f, h1, h2, hl, h3, e⟩ => by
    subst e
    exact ⟨p, vs, h1, .inl (k p List.mem_cons_self _ h2), hl, Owns.reps e0 (fun a m => k a (List.mem_cons_of_mem _ m)) h3⟩
  | .ins _ _ _, _, _, k, ⟨p, C, dx, vs, f, h1, hm, h2, hd, hl, h3, e⟩ => by
    subst e
    exact ⟨p, C, dx, vs, h1, hm, k p List.mem_cons_self _ h2, k dx (List.mem_cons_of_mem _ List.mem_cons_self) _ hd, hl, Owns.reps e0 (fun a m => k a (List.mem_cons_of_mem _ (List.mem_cons_of_mem _ m))) h3⟩
theorem Owns.reps (e0 : Same H0 H') : ∀ {ts : List T} {vs : List V} {fp : List Addr}, (∀ a ∈ fp, ∀ o, H a = some o → H' a = some o) → Owns K mg H H0 ts vs fp → Reps K mg H' (T.toDs ts) vs
  | [], _, _, _, h => h.1
  | _ :: _, _, _, k, ⟨v, ws, f, g, h1, h2, h3, e⟩ => by
    subst e
    exact ⟨v, ws, h1, Own.rep e0 (fun a m => k a (List.mem_append_left _ m)) h2, Owns.reps e0 (fun a m => k a (List.mem_append_right _ m)) h3⟩
end
end
end Pf

set_option Elab.async false
set_option linter.all false
set_option maxRecDepth 100000
/-! Pf2: mirrors (Mo), the state's simulation (Sim), steps, what a reading's mirror promises (GoodE, GoodT, GoodO, GoodAs). -/
namespace Pf
open PySem PySem.Spec PyProof.Rows L2

/-- an exception: its class by name, its own field -/
structure Xn where
  cls : Str
  arg : Option D := none
abbrev En := List (Option T)
inductive Rs (α : Type) where
  | ok (a : α) (e : En) | err (x : Xn) (e : En) | bad
abbrev Mo (α : Type) := En → Rs α
def ret {α : Type} (a : α) : Mo α := fun e => .ok a e
def fail {α : Type} : Mo α := fun _ => .bad
def bnd {α β : Type} (m : Mo α) (f : α → Mo β) : Mo β := fun e => match m e with
  | .ok a e' => f a e'
  | .err x e' => .err x e'
  | .bad => .bad
def Rs.Is {α : Type} (r : Rs α) (P : α → En → Prop) (X : Xn → En → Prop) : Prop := match r with
  | .ok a e => P a e
  | .err x e => X x e
  | .bad => False
section
variable {α β : Type} {P P' : α → En → Prop} {X X' : Xn → En → Prop} {r : Rs α}
theorem Is_bnd {m : Mo α} {f : α → Mo β} {P : β → En → Prop} {e : En} (h : (bnd m f e).Is P X) : (m e).Is (fun a e' => (f a e').Is P X) X := by
  unfold bnd at h
  cases q : m e with
  | ok a e' => rw [q] at h; exact h
  | err x e' => rw [q] at h; exact h
  | bad => rw [q] at h; exact h
theorem Is_imp (h : r.Is P X) (hp : ∀ a e, r = .ok a e → P a e → P' a e) (hx : ∀ x e, X x e → X' x e) : r.Is P' X' := by
  cases r with
  | ok a e => exact hp a e rfl h
  | err x e => exact hx x e h
  | bad => exact h
end

/-! ### the simulation -/
abbrev Ow := Nat → List Addr
def InO (ow : Ow) (a : Addr) : Prop := ∃ i, a ∈ ow i
structure Sim (K : PySem.W.Frag) (mg : Str → Option Value) (H H0 : Hp) (σ : L2.St) (e : En) (ow : Ow) : Prop where
  sub : Same H0 H
  len : e.length = σ.length
  at_ : ∀ i t, e[i]? = some (some t) → ∃ v, σ[i]? = some (some v) ∧ Own K mg H H0 t v (ow i)
  emp : ∀ i, (∀ t, e[i]? ≠ some (some t)) → ow i = []
  nd : ∀ i, (ow i).Nodup
  dj : ∀ i j a, a ∈ ow i → a ∈ ow j → i = j
  out : ∀ i a, a ∈ ow i → H0 a = none
structure Step (H H0 : Hp) (P : Addr → Prop) (H' H0' : Hp) (P' : Addr → Prop) : Prop where
  fro : Same H0 H0'
  oth : ∀ b o, ¬ P b → H b = some o → H' b = some o
  new : ∀ b, H0' b ≠ none → H0 b ≠ none ∨ H b = none ∨ P b
  own : ∀ b, P' b → P b ∨ H b = none
  liv : ∀ b, H b ≠ none → H' b ≠ none
/-- a temporary: its own objects -/
structure Tmp (H : Hp) (P : Addr → Prop) (H0' : Hp) (P' : Addr → Prop) (f : List Addr) : Prop where
  nd : f.Nodup
  out : ∀ a ∈ f, H0' a = none
  sep : ∀ a ∈ f, ¬ P' a
  new : ∀ a ∈ f, H a = none ∨ P a
section
variable {K : PySem.W.Frag} {mg : Str → Option Value} {H H0 H1 H01 H2 H02 : Hp} {P P1 P2 : Addr → Prop} {σ : L2.St} {e : En} {ow : Ow} {f : List Addr}
theorem Step.refl : Step H H0 P H H0 P := ⟨Same.refl _, fun _ _ _ h => h, fun _ h => .inl h, fun _ h => .inl h, fun _ h => h⟩
theorem none_of_liv (liv : ∀ b, H b ≠ none → H1 b ≠ none) {b : Addr} (h : H1 b = none) : H b = none := by
  cases q : H b with
  | none => rfl
  | some o => exact absurd h (liv b (by rw [q]; exact Option.some_ne_none _))
theorem Step.trans (a : Step H H0 P H1 H01 P1) (b : Step H1 H01 P1 H2 H02 P2) : Step H H0 P H2 H02 P2 where
  fro := a.fro.trans b.fro
  oth := fun c o n h => b.oth c o (fun p => by
    rcases a.own c p with q | q
    · exact n q
    · rw [q] at h; cases h) (a.oth c o n h)
  new := fun c h => by
    rcases b.new c h with q | q | q
    · exact a.new c q
    · exact .inr (.inl (none_of_liv a.liv q))
    · rcases a.own c q with z | z
      · exact .inr (.inr z)
      · exact .inr (.inl z)
  own := fun c h => by
    rcases b.own c h with q | q
    · exact a.own c q
    · exact .inr (none_of_liv a.liv q)
  liv := fun c h => b.liv c (a.liv c h)
theorem Tmp.pull (a : Step H H0 P H1 H01 P1) (t : Tmp H1 P1 H02 P2 f) : Tmp H P H02 P2 f := ⟨t.nd, t.out, t.sep, fun c m => by
  rcases t.new c m with q | q
  · exact .inl (none_of_liv a.liv q)
  · rcases a.own c q with z | z
    · exact .inr z
    · exact .inl z⟩
/-- new objects alone -/
structure Gro (H H0 H1 H01 : Hp) : Prop where
  all : Same H H1
  fro : Same H0 H01
  sub : Same H01 H1
  new : ∀ b, H01 b ≠ none → H0 b ≠ none ∨ H b = none
theorem Gro.refl (s : Same H0 H) : Gro H H0 H H0 := ⟨Same.refl _, Same.refl _, s, fun _ h => .inl h⟩
theorem same_liv (s : Same H H1) : ∀ b, H b ≠ none → H1 b ≠ none := fun b h => by
  cases q : H b with
  | none => exact absurd q h
  | some o => rw [s b o q]; exact Option.some_ne_none _
theorem Gro.trans (a : Gro H H0 H1 H01) (b : Gro H1 H01 H2 H02) : Gro H H0 H2 H02 := ⟨a.all.trans b.all, a.fro.trans b.fro, b.sub, fun c h => by
  rcases b.new c h with q | q
  · exact a.new c q
  · exact .inr (none_of_liv (same_liv a.all) q)⟩
theorem Gro.step (a : Gro H H0 H1 H01) : Step H H0 P H1 H01 P := ⟨a.fro, fun b o _ h => a.all b o h, fun b h => (a.new b h).elim .inl fun q => .inr (.inl q), fun _ h => .inl h, (same_liv a.all)⟩
theorem Sim.live (s : Sim K mg H H0 σ e ow) {i : Nat} {a : Addr} (h : a ∈ ow i) : H a ≠ none := by
  by_cases q : ∃ t, e[i]? = some (some t)
  · obtain ⟨t, q⟩ := q
    obtain ⟨v, _, o⟩ := s.at_ i t q
    exact o.live a h
  · rw [s.emp i (fun t z => q ⟨t, z⟩)] at h
    cases h
theorem Sim.gro (s : Sim K mg H H0 σ e ow) (g : Gro H H0 H1 H01) : Sim K mg H1 H01 σ e ow where
  sub := g.sub
  len := s.len
  at_ := fun i t h => by
    obtain ⟨v, h1, h2⟩ := s.at_ i t h
    exact ⟨v, h1, Own.stay g.fro (fun a _ o ho => g.all a o ho) h2⟩
  emp := s.emp
  nd := s.nd
  dj := s.dj
  out := fun i a h => by
    cases q : H01 a with
    | none => rfl
    | some o =>
      rcases g.new a (by rw [q]; exact Option.some_ne_none _) with z | z
      · exact absurd (s.out i a h) z
      · exact absurd z (s.live h)
/-- a new frozen object -/
theorem Gro.put {p : Addr} {o : HO} (s : Same H0 H) (n : H p = none) : Gro H H0 (upd H p o) (upd H0 p o) where
  all := fun b u h => by rw [upd_ne (ne_of_none h n)]; exact h
  fro := fun b u h => by rw [upd_ne (ne_of_none (s _ _ h) n)]; exact h
  sub := fun b u h => by
    by_cases q : b = p
    · subst q; rw [upd_same] at h ⊢; exact h
    · rw [upd_ne q] at h ⊢; exact s _ _ h
  new := fun b h => by
    by_cases q : b = p
    · exact .inr (by rw [q]; exact n)
    · rw [upd_ne q] at h; exact .inl h
/-- a new object with an owner -/
theorem Gro.lay {p : Addr} {o : HO} (s : Same H0 H) (n : H p = none) : Gro H H0 (upd H p o) H0 where
  all := fun b u h => by rw [upd_ne (ne_of_none h n)]; exact h
  fro := Same.refl _
  sub := fun b u h => by rw [upd_ne (ne_of_none (s _ _ h) n)]; exact s _ _ h
  new := fun b h => .inl h
end

/-! ### exceptions -/
def XR (mg : Str → Option Value) (K : PySem.W.Frag) (H H0 : Hp) (x : Xn) (c : Value) (dd : Option Addr) : Prop :=
  ∃ C, mg x.cls = some (.ref C) ∧ c = .ref C ∧ match x.arg with
    | none => dd = none
    | some d => ∃ p v, dd = some p ∧ H p = some (.xd [("ring", v)]) ∧ Rep K mg H0 d v

/-! ### what follows -/
section
variable (K : PySem.W.Frag) (mg : Str → Option Value)
def KE (σ : L2.St) (H H0 : Hp) (ow : Ow) (Q : VK) (t : T) (e' : En) : Prop :=
  ∀ v H' H0' ow' f, Step H H0 (InO ow) H' H0' (InO ow') → Sim K mg H' H0' σ e' ow' → Own K mg H' H0' t v f → Tmp H (InO ow) H0' (InO ow') f → Q v H'
def KX (W : WX) (σ : L2.St) (H H0 : Hp) (ow : Ow) (x : Xn) (e' : En) : Prop :=
  ∀ c dd H' H0' ow', Step H H0 (InO ow) H' H0' (InO ow') → Sim K mg H' H0' σ e' ow' → XR mg K H' H0' x c dd → W c dd σ H'
def KT (σ : L2.St) (H H0 : Hp) (ow : Ow) (Q : Bool → Hp → Prop) (b : Bool) (e' : En) : Prop :=
  ∀ H' H0' ow', Step H H0 (InO ow) H' H0' (InO ow') → Sim K mg H' H0' σ e' ow' → Q b H'
/-- an expression's reading gives what its mirror says -/
def GoodE (W : WX) (t : TE) (m : Mo T) : Prop := ∀ σ H H0 e ow Q, Sim K mg H H0 σ e ow → (m e).Is (KE K mg σ H H0 ow Q) (KX K mg W σ H H0 ow) → t σ H Q
def GoodT (W : WX) (t : TT) (m : Mo Bool) : Prop := ∀ σ H H0 e ow Q, Sim K mg H H0 σ e ow → (m e).Is (KT K mg σ H H0 ow Q) (KX K mg W σ H H0 ow) → t σ H Q
/-- an operand: an expression, or a name's slot, looked at last -/
inductive Op where
  | ex (m : Mo T) | nm (i : Nat)
def GoodO (W : WX) (t : TE) : Op → Prop
  | .ex m => GoodE K mg W t m
  | .nm i => t = tVar i
def getS (i : Nat) : Mo T := fun e => match e[i]? with
  | some (some t) => .ok t e
  | _ => .bad
def hasS (i : Nat) : Mo Unit := fun e => match e[i]? with
  | some (some _) => .ok () e
  | _ => .bad
def mArgs : List Op → Mo (List T)
  | [] => ret []
  | .ex m :: os => bnd m fun t => bnd (mArgs os) fun ts => ret (t :: ts)
  | .nm i :: os => bnd (hasS i) fun _ => bnd (mArgs os) fun ts => bnd (getS i) fun t => ret (t :: ts)
abbrev Fo := Nat → List Addr
def sh (fo : Fo) : Fo := fun j => fo (j + 1)
def AgR (H H0 : Hp) (σ : L2.St) (e : En) : List Op → List T → List V → Fo → Prop
  | [], ts, vs, fo => ts = [] ∧ vs = [] ∧ ∀ j, fo j = []
  | .ex _ :: os, ts, vs, fo => ∃ t ts' v vs', ts = t :: ts' ∧ vs = v :: vs' ∧ Own K mg H H0 t v (fo 0) ∧ AgR H H0 σ e os ts' vs' (sh fo)
  | .nm i :: os, ts, vs, fo => ∃ t ts' v vs', ts = t :: ts' ∧ vs = v :: vs' ∧ e[i]? = some (some t) ∧ σ[i]? = some (some v) ∧ fo 0 = [] ∧ AgR H H0 σ e os ts' vs' (sh fo)
/-- the arguments' temporaries -/
structure Tmps (H : Hp) (P : Addr → Prop) (H0' : Hp) (P' : Addr → Prop) (fo : Fo) : Prop where
  nd : ∀ j, (fo j).Nodup
  dj : ∀ i j a, a ∈ fo i → a ∈ fo j → i = j
  out : ∀ j, ∀ a ∈ fo j, H0' a = none
  sep : ∀ j, ∀ a ∈ fo j, ¬ P' a
  new : ∀ j, ∀ a ∈ fo j, H a = none ∨ P a
def KA (σ : L2.St) (H H0 : Hp) (ow : Ow) (os : List Op) (Q : List V → Hp → Prop) (ts : List T) (e' : En) : Prop :=
  ∀ vs H' H0' ow' fo, Step H H0 (InO ow) H' H0' (InO ow') → Sim K mg H' H0' σ e' ow' → AgR K mg H' H0' σ e' os ts vs fo → Tmps H (InO ow) H0' (InO ow') fo → Q vs H'
def GoodAs (W : WX) (t : TA) (os : List Op) : Prop := ∀ σ H H0 e ow Q, Sim K mg H H0 σ e ow → (mArgs os e).Is (KA K mg σ H H0 ow os Q) (KX K mg W σ H H0 ow) → t σ H Q
end
section
variable {K : PySem.W.Frag} {mg : Str → Option Value} {H H0 H1 H01 : Hp} {σ : L2.St} {e : En} {ow ow1 : Ow} {W : WX}
theorem KE.pull {Q : VK} {t : T} (s : Step H H0 (InO ow) H1 H01 (InO ow1)) (k : KE K mg σ H H0 ow Q t e) : KE K mg σ H1 H01 ow1 Q t e := fun v H' H0' ow' f a b c d => k v H' H0' ow' f (s.trans a) b c (Tmp.pull s d)
theorem KX.pull {x : Xn} (s : Step H H0 (InO ow) H1 H01 (InO ow1)) (k : KX K mg W σ H H0 ow x e) : KX K mg W σ H1 H01 ow1 x e := fun c dd H' H0' ow' a b d => k c dd H' H0' ow' (s.trans a) b d
theorem KT.pull {Q : Bool → Hp → Prop} {b : Bool} (s : Step H H0 (InO ow) H1 H01 (InO ow1)) (k : KT K mg σ H H0 ow Q b e) : KT K mg σ H1 H01 ow1 Q b e := fun H' H0' ow' a d => k H' H0' ow' (s.trans a) d
theorem Tmps.pull {P P1 P2 : Addr → Prop} {H02 : Hp} {fo : Fo} (a : Step H H0 P H1 H01 P1) (t : Tmps H1 P1 H02 P2 fo) : Tmps H P H02 P2 fo := ⟨t.nd, t.dj, t.out, t.sep, fun j c m => by
  rcases t.new j c m with q | q
  · exact .inl (none_of_liv a.liv q)
  · rcases a.own c q with z | z
    · exact .inr z
    · exact .inl z⟩
theorem KA.pull {os : List Op} {Q : List V → Hp → Prop} {ts : List T} (s : Step H H0 (InO ow) H1 H01 (InO ow1)) (k : KA K mg σ H H0 ow os Q ts e) : KA K mg σ H1 H01 ow1 os Q ts e := fun vs H' H0' ow' fo a b c d => k vs H' H0' ow' fo (s.trans a) b c (Tmps.pull s d)
/-- a temporary stays through a step -/
theorem Tmp.stay {P P1 P2 : Addr → Prop} {H2 H02 : Hp} {t : T} {v : V} {f : List Addr} (tm : Tmp H P H01 P1 f) (o : Own K mg H1 H01 t v f) (s : Step H1 H01 P1 H2 H02 P2) : Own K mg H2 H02 t v f ∧ (∀ a ∈ f, H02 a = none) ∧ ∀ a ∈ f, ¬ P2 a :=
  ⟨Own.stay s.fro (fun a m u h => s.oth a u (tm.sep a m) h) o, fun a m => by
    cases q : H02 a with
    | none => rfl
    | some u =>
      rcases s.new a (by rw [q]; exact Option.some_ne_none _) with z | z | z
      · exact absurd (tm.out a m) z
      · exact absurd z (o.live a m)
      · exact absurd z (tm.sep a m), fun a m p => by
    rcases s.own a p with z | z
    · exact tm.sep a m z
    · exact o.live a m z⟩
theorem goodAs_nil : GoodAs K mg W tNil [] := fun σ H H0 e ow Q s h => h [] H H0 ow (fun _ => []) Step.refl s ⟨rfl, rfl, fun _ => rfl⟩ ⟨fun _ => List.nodup_nil, fun _ _ a m => (nomatch m), fun _ a m => (nomatch m), fun _ a m => (nomatch m), fun _ a m => (nomatch m)⟩
def consF (f : List Addr) (fo : Fo) : Fo := fun j => match j with
  | 0 => f
  | j + 1 => fo j
theorem goodAs_cons {o : Op} {os : List Op} {te : TE} {t : TA} (ho : GoodO K mg W te o) (hr : GoodAs K mg W t os) : GoodAs K mg W (tCons te t) (o :: os) := by
  intro σ H H0 e ow Q s h
  cases o with
  | ex m =>
    refine ho σ H H0 e ow _ s (Is_imp (Is_bnd h) (fun t1 e1 _ h1 => ?_) fun _ _ z => z)
    intro v H1 H01 ow1 f st1 s1 o1 tm1
    refine hr σ H1 H01 e1 ow1 _ s1 (Is_imp (Is_bnd h1) (fun ts e2 _ h2 => ?_) fun _ _ z => KX.pull st1 z)
    intro vs H2 H02 ow2 fo st2 s2 ag tm2
    obtain ⟨o2, n2, p2⟩ := Tmp.stay tm1 o1 st2
    refine h2 (v :: vs) H2 H02 ow2 (consF f fo) (st1.trans st2) s2 ⟨t1, ts, v, vs, rfl, rfl, o2, ag⟩ ⟨fun j => ?_, fun i j a mi mj => ?_, fun j a mj => ?_, fun j a mj => ?_, fun j a mj => ?_⟩
    · cases j with
      | zero => exact tm1.nd
      | succ j => exact tm2.nd j
    · have no : ∀ j, a ∈ f → a ∈ fo j → False := fun j m1 m2 => by
        rcases tm2.new j a m2 with z | z
        · exact o1.live a m1 z
        · exact tm1.sep a m1 z
      cases i with
      | zero => cases j with
        | zero => rfl
        | succ j => exact (no j mi mj).elim
      | succ i => cases j with
        | zero => exact (no i mj mi).elim
        | succ j => exact congrArg (· + 1) (tm2.dj i j a mi mj)
    · cases j with
      | zero => exact n2 a mj
      | succ j => exact tm2.out j a mj
    · cases j with
      | zero => exact p2 a mj
      | succ j => exact tm2.sep j a mj
    · cases j with
      | zero => exact tm1.new a mj
      | succ j => exact (Tmps.pull st1 tm2).new j a mj
  | nm i =>
    have et : te = tVar i := ho
    subst et
    have h1 := Is_bnd h
    unfold hasS at h1
    cases q : e[i]? with
    | none => rw [q] at h1; exact h1.elim
    | some x =>
      cases x with
      | none => rw [q] at h1; exact h1.elim
      | some t0 =>
        rw [q] at h1
        have h2 := Is_bnd (show (bnd (mArgs os) (fun ts => bnd (getS i) fun t => ret (t :: ts)) e).Is _ _ from h1)
        obtain ⟨v, hv, _⟩ := s.at_ i t0 q
        refine ⟨v, hv, ?_⟩
        refine hr σ H H0 e ow _ s (Is_imp h2 (fun ts e2 _ h3 => ?_) fun _ _ z => z)
        intro vs H2 H02 ow2 fo st2 s2 ag tm2
        have h4 := Is_bnd h3
        unfold getS at h4
        cases q2 : e2[i]? with
        | none => rw [q2] at h4; exact h4.elim
        | some x =>
          cases x with
          | none => rw [q2] at h4; exact h4.elim
          | some t =>
            rw [q2] at h4
            refine h4 (v :: vs) H2 H02 ow2 (consF [] fo) st2 s2 ⟨t, ts, v, vs, rfl, rfl, q2, hv, rfl, ag⟩ ⟨fun j => ?_, fun i j a mi mj => ?_, fun j a mj => ?_, fun j a mj => ?_, fun j a mj => ?_⟩
            · cases j with
              | zero => exact List.nodup_nil
              | succ j => exact tm2.nd j
            · cases i with
              | zero => cases mi
              | succ i => cases j with
                | zero => cases mj
                | succ j => exact congrArg (· + 1) (tm2.dj i j a mi mj)
            · cases j with
              | zero => cases mj
              | succ j => exact tm2.out j a mj
            · cases j with
              | zero => cases mj
              | succ j => exact tm2.sep j a mj
            · cases j with
              | zero => cases mj
              | succ j => exact tm2.new j a mj
end
end Pf

set_option Elab.async false
set_option linter.all false
set_option maxRecDepth 100000
/-! Pf3: what an expression's syntax and its mirror have to do with each other (PM, PB, PO, PAg); operations by values. -/
namespace Pf
open PySem PySem.Spec PyProof.Rows L2

/-! ### operands looked at -/
mutual
def T.vals : List T → Option (List D)
  | [] => some []
  | t :: ts => match t with
    | .val d => match T.vals ts with
      | some ds => some (d :: ds)
      | none => none
    | _ => none
end
def T.peek : T → Option D
  | .val d => some d
  | .lst ts => match T.vals ts with
    | some ds => some (.lst ds)
    | none => none
  | .dic ks ts => match T.vals ts with
    | some ds => some (.dic ks ds)
    | none => none
  | .dit ks ts => match T.vals ts with
    | some ds => some (.dit ks ds)
    | none => none
  | .ins _ _ _ => none
def peeks : List T → Option (List D)
  | [] => some []
  | t :: ts => match t.peek with
    | some d => match peeks ts with
      | some ds => some (d :: ds)
      | none => none
    | none => none
/-- data whose own object may be an owned one, its parts frozen -/
def RepS (K : PySem.W.Frag) (mg : Str → Option Value) (H H0 : Hp) : D → V → Prop
  | .lst ds, v => ∃ a vs, v = .ref a ∧ H a = some (.lst vs) ∧ Reps K mg H0 ds vs
  | .dic ks ds, v => ∃ a vs, v = .ref a ∧ Rd H a (.dK (ks.zip vs)) ∧ ks.length = vs.length ∧ Reps K mg H0 ds vs
  | .dit ks ds, v => ∃ a vs, v = .ref a ∧ Rd H a (.dT (ks.zip vs)) ∧ ks.length = vs.length ∧ Reps K mg H0 ds vs
  | d, v => Rep K mg H0 d v
def RepSs (K : PySem.W.Frag) (mg : Str → Option Value) (H H0 : Hp) : List D → List V → Prop
  | [], vs => vs = []
  | d :: ds, vs => ∃ v ws, vs = v :: ws ∧ RepS K mg H H0 d v ∧ RepSs K mg H H0 ds ws
section
variable {K : PySem.W.Frag} {mg : Str → Option Value} {H H0 H1 H01 : Hp} {σ : L2.St} {e : En} {ow ow1 : Ow} {W : WX}
theorem Rep.s (s : Same H0 H) {d : D} {v : V} (h : Rep K mg H0 d v) : RepS K mg H H0 d v := by
  cases d with
  | lst ds => obtain ⟨a, vs, h1, h2, h3⟩ := h; exact ⟨a, vs, h1, s _ _ h2, h3⟩
  | dic ks ds => obtain ⟨a, vs, h1, h2, h3, h4⟩ := h; exact ⟨a, vs, h1, Same.rd s h2, h3, h4⟩
  | dit ks ds => obtain ⟨a, vs, h1, h2, h3, h4⟩ := h; exact ⟨a, vs, h1, Same.rd s h2, h3, h4⟩
  | _ => exact h
theorem vals_own : ∀ {ts : List T} {ds : List D} {vs : List V} {f : List Addr}, T.vals ts = some ds → Owns K mg H H0 ts vs f → Reps K mg H0 ds vs ∧ f = []
  | [], ds, vs, f, h, o => by
    cases h
    exact o
  | t :: ts, ds, vs, f, h, o => by
    obtain ⟨v, ws, f1, g, e1, o1, o2, e2⟩ := o
    unfold T.vals at h
    cases t with
    | val d =>
      cases q : T.vals ts with
      | none => rw [q] at h; cases h
      | some ds' =>
        rw [q] at h
        cases h
        obtain ⟨r, eg⟩ := vals_own q o2
        obtain ⟨ef, rd⟩ := o1
        refine ⟨⟨v, ws, e1, rd, r⟩, ?_⟩
        rw [e2, ef, eg]
        rfl
    | lst _ => cases h
    | dic _ _ => cases h
    | dit _ _ => cases h
    | ins _ _ _ => cases h
theorem Own.peek (s : Same H0 H) {t : T} {d : D} {v : V} {f : List Addr} (o : Own K mg H H0 t v f) (h : t.peek = some d) : RepS K mg H H0 d v := by
  cases t with
  | val d' =>
    cases h
    exact Rep.s s o.2
  | lst ts =>
    obtain ⟨a, vs, g, e1, h1, o1, _⟩ := o
    have h : (match T.vals ts with | some ds => some (D.lst ds) | none => none) = some d := h
    cases q : T.vals ts with
    | none => rw [q] at h; cases h
    | some ds =>
      rw [q] at h
      cases h
      exact ⟨a, vs, e1, h1, (vals_own q o1).1⟩
  | dic ks ts =>
    obtain ⟨a, vs, g, e1, h1, hl, o1, _⟩ := o
    have h : (match T.vals ts with | some ds => some (D.dic ks ds) | none => none) = some d := h
    cases q : T.vals ts with
    | none => rw [q] at h; cases h
    | some ds =>
      rw [q] at h
      cases h
      exact ⟨a, vs, e1, .inl h1, hl, (vals_own q o1).1⟩
  | dit ks ts =>
    obtain ⟨a, vs, g, e1, h1, hl, o1, _⟩ := o
    have h : (match T.vals ts with | some ds => some (D.dit ks ds) | none => none) = some d := h
    cases q : T.vals ts with
    | none => rw [q] at h; cases h
    | some ds =>
      rw [q] at h
      cases h
      exact ⟨a, vs, e1, .inl h1, hl, (vals_own q o1).1⟩
  | ins _ _ _ => cases h
theorem AgR.peeks (s : Sim K mg H H0 σ e ow) : ∀ {os : List Op} {ts : List T} {vs : List V} {fo : Fo} {ds : List D}, AgR K mg H H0 σ e os ts vs fo → peeks ts = some ds → RepSs K mg H H0 ds vs
  | [], ts, vs, fo, ds, ⟨e1, e2, _⟩, h => by
    subst e1 e2
    cases h
    rfl
  | .ex m :: os, ts, vs, fo, ds, ⟨t, ts', v, vs', e1, e2, o, r⟩, h => by
    subst e1 e2
    unfold Pf.peeks at h
    cases q : t.peek with
    | none => rw [q] at h; cases h
    | some d =>
      rw [q] at h
      cases q2 : Pf.peeks ts' with
      | none => rw [q2] at h; cases h
      | some ds' =>
        rw [q2] at h
        cases h
        exact ⟨v, vs', rfl, o.peek s.sub q, AgR.peeks s r q2⟩
  | .nm i :: os, ts, vs, fo, ds, ⟨t, ts', v, vs', e1, e2, he, hv, _, r⟩, h => by
    subst e1 e2
    unfold Pf.peeks at h
    cases q : t.peek with
    | none => rw [q] at h; cases h
    | some d =>
      rw [q] at h
      cases q2 : Pf.peeks ts' with
      | none => rw [q2] at h; cases h
      | some ds' =>
        rw [q2] at h
        cases h
        obtain ⟨v', hv', o⟩ := s.at_ i t he
        have ev : v' = v := by rw [hv] at hv'; exact (Option.some.inj (Option.some.inj hv')).symm
        subst ev
        exact ⟨v', vs', rfl, o.peek s.sub q, AgR.peeks s r q2⟩
end
/-- an operation by values: what it gives of data -/
def CG (K : PySem.W.Frag) (mg : Str → Option Value) (r : List V → Hp → VK → Prop) (f : List D → Option T) : Prop :=
  ∀ (H H0 : Hp) (ds : List D) (vs : List V) (t : T) (Q : VK), Same H0 H → RepSs K mg H H0 ds vs → f ds = some t →
    (∀ v H' H0' g, Gro H H0 H' H0' → Own K mg H' H0' t v g → g.Nodup → (∀ a ∈ g, H a = none ∧ H0' a = none) → Q v H') → r vs H Q
def ap (f : List D → Option T) (ts : List T) : Mo T := match peeks ts with
  | some ds => match f ds with
    | some t => ret t
    | none => fail
  | none => fail
def mB (f : List D → Option T) (os : List Op) : Mo T := bnd (mArgs os) (ap f)
section
variable {K : PySem.W.Frag} {mg : Str → Option Value} {H H0 H1 H01 : Hp} {σ : L2.St} {e : En} {ow ow1 : Ow} {W : WX}
theorem goodE_B {ta : TA} {os : List Op} {r : List V → Hp → VK → Prop} {f : List D → Option T} (ga : GoodAs K mg W ta os) (cg : CG K mg r f) : GoodE K mg W (tCB r ta) (mB f os) := by
  intro σ H H0 e ow Q s h
  refine ga σ H H0 e ow _ s (Is_imp (Is_bnd h) (fun ts e1 _ h1 => ?_) fun _ _ z => z)
  intro vs H1 H01 ow1 fo st1 s1 ag tm
  unfold ap at h1
  cases q : peeks ts with
  | none => rw [q] at h1; exact h1.elim
  | some ds =>
    rw [q] at h1
    have h1 : ((match f ds with | some t => ret t | none => fail : Mo T) e1).Is (KE K mg σ H H0 ow Q) (KX K mg W σ H H0 ow) := h1
    cases q2 : f ds with
    | none => rw [q2] at h1; exact h1.elim
    | some t =>
      rw [q2] at h1
      refine cg H1 H01 ds vs t Q s1.sub (ag.peeks s1 q) q2 fun v H2 H02 g gro own nd fr => ?_
      refine h1 v H2 H02 ow1 g (st1.trans gro.step) (s1.gro gro) own ⟨nd, fun a m => (fr a m).2, fun a m ⟨i, p⟩ => s1.live p (fr a m).1, fun a m => .inl (none_of_liv st1.liv (fr a m).1)⟩
/-- a two-place operation as one of lists -/
def ra2 (r : R2) : List V → Hp → VK → Prop := fun vs H Q => match vs with
  | [x, y] => r x y H Q
  | _ => False
theorem goodE_op {t1 t2 : TE} {o1 o2 : Op} {r : R2} {f : List D → Option T} (h1 : GoodO K mg W t1 o1) (h2 : GoodO K mg W t2 o2) (cg : CG K mg (ra2 r) f) : GoodE K mg W (tOp r t1 t2) (mB f [o1, o2]) :=
  goodE_B (r := ra2 r) (goodAs_cons h1 (goodAs_cons h2 goodAs_nil)) cg
def ra1 (r : V → Hp → VK → Prop) : List V → Hp → VK → Prop := fun vs H Q => match vs with
  | [x] => r x H Q
  | _ => False
theorem goodE_un {t1 : TE} {o1 : Op} {r : V → Hp → VK → Prop} {f : List D → Option T} (h1 : GoodO K mg W t1 o1) (cg : CG K mg (ra1 r) f) : GoodE K mg W (tUn r t1) (mB f [o1]) :=
  goodE_B (r := ra1 r) (goodAs_cons h1 goodAs_nil) cg
/-- data that is there: no object is made -/
theorem KE.here {Q : VK} {d : D} {v : V} (k : KE K mg σ H H0 ow Q (.val d) e) (s : Sim K mg H H0 σ e ow) (r : Rep K mg H0 d v) : Q v H :=
  k v H H0 ow [] Step.refl s ⟨rfl, r⟩ ⟨List.nodup_nil, fun _ m => (nomatch m), fun _ m => (nomatch m), fun _ m => (nomatch m)⟩
theorem goodE_c {d : D} {v : V} (r : ∀ H, Rep K mg H d v) : GoodE K mg W (tC v) (ret (.val d)) := fun σ H H0 e ow Q s h => KE.here h s (r H0)

/-! ### a name, read as a value: what it owns is frozen -/
def mCp (i : Nat) : Mo T := fun e => match e[i]? with
  | some (some t) => .ok (.val t.toD) (e.set i (some (.val t.toD)))
  | _ => .bad
/-- a name, given away -/
def mMv (i : Nat) : Mo T := fun e => match e[i]? with
  | some (some t) => .ok t (e.set i none)
  | _ => .bad
open Classical in
/-- H0 with what stands in H at these places -/
noncomputable def frz (H H0 : Hp) (f : List Addr) : Hp := fun a => if a ∈ f then H a else H0 a
theorem frz_in {f : List Addr} {a : Addr} (m : a ∈ f) : frz H H0 f a = H a := by unfold frz; rw [if_pos m]
theorem frz_out {f : List Addr} {a : Addr} (m : ¬ a ∈ f) : frz H H0 f a = H0 a := by unfold frz; rw [if_neg m]
theorem frz_fro {f : List Addr} (s : Same H0 H) : Same H0 (frz H H0 f) := fun b o h => by
  by_cases m : b ∈ f
  · rw [frz_in m]; exact s _ _ h
  · rw [frz_out m]; exact h
theorem frz_sub {f : List Addr} (s : Same H0 H) : Same (frz H H0 f) H := fun b o h => by
  by_cases m : b ∈ f
  · rw [frz_in m] at h; exact h
  · rw [frz_out m] at h; exact s _ _ h
theorem frz_step {f : List Addr} {P P' : Addr → Prop} (s : Same H0 H) (hf : ∀ a ∈ f, P a) (hp : ∀ a, P' a → P a) : Step H H0 P H (frz H H0 f) P' where
  fro := frz_fro s
  oth := fun _ _ _ h => h
  new := fun b h => by
    by_cases m : b ∈ f
    · exact .inr (.inr (hf b m))
    · rw [frz_out m] at h; exact .inl h
  own := fun b h => .inl (hp b h)
  liv := fun _ h => h
theorem frz_rep {t : T} {v : V} {f : List Addr} (s : Same H0 H) (o : Own K mg H H0 t v f) : Rep K mg (frz H H0 f) t.toD v :=
  Own.rep (frz_fro s) (fun a m u h => by rw [frz_in m]; exact h) o
/-- a slot's things are taken away or given new ones of its own -/
def setO (ow : Ow) (i : Nat) (f : List Addr) : Ow := fun j => if j = i then f else ow j
theorem setO_same {i : Nat} {f : List Addr} : setO ow i f i = f := by unfold setO; rw [if_pos rfl]
theorem setO_ne {i j : Nat} {f : List Addr} (h : j ≠ i) : setO ow i f j = ow j := by unfold setO; rw [if_neg h]
/-- slot i is stored: x, with the things f -/
theorem Sim.set (s : Sim K mg H H0 σ e ow) {i : Nat} {x : Option T} {v : V} {f : List Addr} (H0' : Hp) (sub : Same H0' H) (fro : Same H0 H0')
    (ho : ∀ t, x = some t → Own K mg H H0' t v f) (hn : x = none → f = []) (nd : f.Nodup) (sep : ∀ a ∈ f, ∀ j, j ≠ i → a ∉ ow j) (out : ∀ a ∈ f, H0' a = none)
    (keep : ∀ j, j ≠ i → ∀ a ∈ ow j, H0' a = none) : Sim K mg H H0' (σ.set i (some v)) (e.set i x) (setO ow i (if i < e.length then f else [])) where
  sub := sub
  len := by rw [List.length_set, List.length_set]; exact s.len
  at_ := fun j t h => by
    by_cases q : j = i
    · subst q
      by_cases hl : j < e.length
      · rw [List.getElem?_set_self hl] at h
        rw [List.getElem?_set_self (by rw [← s.len]; exact hl), setO_same, if_pos hl]
        exact ⟨v, rfl, ho t (Option.some.inj h)⟩
      · rw [List.getElem?_eq_none (by rw [List.length_set]; omega)] at h
        cases h
    · rw [List.getElem?_set_ne (Ne.symm q)] at h
      rw [List.getElem?_set_ne (Ne.symm q), setO_ne q]
      obtain ⟨w, h1, h2⟩ := s.at_ j t h
      exact ⟨w, h1, Own.stay fro (fun _ _ _ z => z) h2⟩
  emp := fun j h => by
    by_cases q : j = i
    · subst q
      rw [setO_same]
      by_cases hl : j < e.length
      · rw [if_pos hl]
        cases x with
        | none => exact hn rfl
        | some t => exact absurd (List.getElem?_set_self hl) (h t)
      · rw [if_neg hl]
    · rw [setO_ne q]
      exact s.emp j fun t z => h t (by rw [List.getElem?_set_ne (Ne.symm q)]; exact z)
  nd := fun j => by
    by_cases q : j = i
    · subst q
      rw [setO_same]
      split
      · exact nd
      · exact List.nodup_nil
    · rw [setO_ne q]; exact s.nd j
  dj := fun j k a mj mk => by
    have aux : ∀ k, k ≠ i → a ∈ setO ow i (if i < e.length then f else []) i → a ∈ setO ow i (if i < e.length then f else []) k → False := fun k q m1 m2 => by
      rw [setO_same] at m1
      rw [setO_ne q] at m2
      split at m1
      · exact sep a m1 k q m2
      · cases m1
    by_cases q : j = i
    · by_cases q2 : k = i
      · rw [q, q2]
      · subst q
        exact (aux k q2 mj mk).elim
    · by_cases q2 : k = i
      · subst q2
        exact (aux j q mk mj).elim
      · rw [setO_ne q] at mj
        rw [setO_ne q2] at mk
        exact s.dj j k a mj mk
  out := fun j a m => by
    by_cases q : j = i
    · subst q
      rw [setO_same] at m
      split at m
      · exact out a m
      · cases m
    · rw [setO_ne q] at m
      exact keep j q a m
theorem set_same {α : Type} {l : List α} {i : Nat} {x : α} (h : l[i]? = some x) : l.set i x = l := by
  apply List.ext_getElem?
  intro j
  by_cases q : j = i
  · subst q
    have hl : j < l.length := by
      rcases Nat.lt_or_ge j l.length with z | z
      · exact z
      · rw [List.getElem?_eq_none z] at h; cases h
    rw [List.getElem?_set_self hl, h]
  · rw [List.getElem?_set_ne (Ne.symm q)]
theorem lt_of_some {α : Type} {l : List α} {i : Nat} {x : α} (h : l[i]? = some x) : i < l.length := by
  rcases Nat.lt_or_ge i l.length with z | z
  · exact z
  · rw [List.getElem?_eq_none z] at h; cases h
theorem goodE_cp {i : Nat} : GoodE K mg W (tVar i) (mCp i) := by
  intro σ H H0 e ow Q s h
  unfold mCp at h
  cases q : e[i]? with
  | none => rw [q] at h; exact h.elim
  | some x =>
    cases x with
    | none => rw [q] at h; exact h.elim
    | some t =>
      rw [q] at h
      obtain ⟨v, hv, o⟩ := s.at_ i t q
      refine ⟨v, hv, ?_⟩
      have rp := frz_rep s.sub o
      have s' := s.set (i := i) (x := some (.val t.toD)) (v := v) (f := []) (frz H H0 (ow i)) (frz_sub s.sub) (frz_fro s.sub) (fun t' et => by cases et; exact ⟨rfl, rp⟩) (fun z => nomatch z) List.nodup_nil (fun _ m => (nomatch m)) (fun _ m => (nomatch m))
        (fun j ne a m => by rw [frz_out fun z => ne (s.dj j i a m z)]; exact s.out j a m)
      rw [set_same hv, if_pos (lt_of_some q)] at s'
      exact h v H (frz H H0 (ow i)) _ [] (frz_step s.sub (fun a m => ⟨i, m⟩) (fun a ⟨j, m⟩ => by
        by_cases z : j = i
        · subst z; rw [setO_same] at m; cases m
        · rw [setO_ne z] at m; exact ⟨j, m⟩)) s' ⟨rfl, rp⟩ ⟨List.nodup_nil, fun _ m => (nomatch m), fun _ m => (nomatch m), fun _ m => (nomatch m)⟩
theorem goodE_mv {i : Nat} : GoodE K mg W (tVar i) (mMv i) := by
  intro σ H H0 e ow Q s h
  unfold mMv at h
  cases q : e[i]? with
  | none => rw [q] at h; exact h.elim
  | some x =>
    cases x with
    | none => rw [q] at h; exact h.elim
    | some t =>
      rw [q] at h
      obtain ⟨v, hv, o⟩ := s.at_ i t q
      refine ⟨v, hv, ?_⟩
      have s' := s.set (i := i) (x := none) (v := v) (f := []) H0 s.sub (Same.refl _) (fun t' et => nomatch et) (fun _ => rfl) List.nodup_nil (fun _ m => (nomatch m)) (fun _ m => (nomatch m)) (fun j ne a m => s.out j a m)
      rw [set_same hv, if_pos (lt_of_some q)] at s'
      refine h v H H0 _ (ow i) ⟨Same.refl _, fun _ _ _ z => z, fun _ z => .inl z, fun b ⟨j, m⟩ => ?_, fun _ z => z⟩ s' o ⟨s.nd i, s.out i, fun a m ⟨j, p⟩ => ?_, fun a m => .inr ⟨i, m⟩⟩
      · by_cases z : j = i
        · subst z; rw [setO_same] at p; cases p
        · rw [setO_ne z] at p; exact z (s.dj j i a p m)
      · by_cases z : j = i
        · subst z; rw [setO_same] at m; cases m
        · rw [setO_ne z] at m; exact .inl ⟨j, m⟩
end

/-! ### syntax and mirror -/
section
variable (X : Cx) (W : WX)
/-- the reading that a mirror makes -/
def tmE (K : PySem.W.Frag) (mg : Str → Option Value) (W : WX) (m : Mo T) : TE := fun σ H Q => ∃ H0 e ow, Sim K mg H H0 σ e ow ∧ (m e).Is (KE K mg σ H H0 ow Q) (KX K mg W σ H H0 ow)
def tmT (K : PySem.W.Frag) (mg : Str → Option Value) (W : WX) (m : Mo Bool) : TT := fun σ H Q => ∃ H0 e ow, Sim K mg H H0 σ e ow ∧ (m e).Is (KT K mg σ H H0 ow Q) (KX K mg W σ H H0 ow)
theorem good_tmE {K : PySem.W.Frag} {mg : Str → Option Value} {W : WX} {m : Mo T} : GoodE K mg W (tmE K mg W m) m := fun _ _ _ _ _ _ s h => ⟨_, _, _, s, h⟩
theorem good_tmT {K : PySem.W.Frag} {mg : Str → Option Value} {W : WX} {m : Mo Bool} : GoodT K mg W (tmT K mg W m) m := fun _ _ _ _ _ _ s h => ⟨_, _, _, s, h⟩
def PM (e : Expr) (m : Mo T) : Prop := PE X e (tmE X.K X.mg W m)
def PB (e : Expr) (m : Mo Bool) : Prop := PT X e (tmT X.K X.mg W m)
def PBw (e : Expr) (m : Mo Bool) : Prop := PW X e (tmT X.K X.mg W m)
def PO (e : Expr) (o : Op) : Prop := ∃ t, PE X e t ∧ GoodO X.K X.mg W t o
def PAg (es : List Expr) (os : List Op) : Prop := ∃ t, PA X es t ∧ GoodAs X.K X.mg W t os
end
section
variable {X : Cx} {W : WX}
theorem PM.mk {e : Expr} {m : Mo T} (h : ∃ t, PE X e t ∧ GoodE X.K X.mg W t m) : PM X W e m := by
  obtain ⟨t, p, g⟩ := h
  exact ⟨fun pins s σ H Q I ⟨H0, e, ow, si, hs⟩ => p.run pins s σ H Q I (g σ H H0 e ow Q si hs)⟩
theorem PM.out {e : Expr} {m : Mo T} (h : PM X W e m) : ∃ t, PE X e t ∧ GoodE X.K X.mg W t m := ⟨_, h, good_tmE⟩
theorem PB.mk {e : Expr} {m : Mo Bool} (h : ∃ t, PT X e t ∧ GoodT X.K X.mg W t m) : PB X W e m := by
  obtain ⟨t, p, g⟩ := h
  exact ⟨fun pins s σ H Q I ⟨H0, e, ow, si, hs⟩ => p.run pins s σ H Q I (g σ H H0 e ow Q si hs)⟩
theorem PB.out {e : Expr} {m : Mo Bool} (h : PB X W e m) : ∃ t, PT X e t ∧ GoodT X.K X.mg W t m := ⟨_, h, good_tmT⟩
theorem PBw.mk {e : Expr} {m : Mo Bool} (h : ∃ t, PW X e t ∧ GoodT X.K X.mg W t m) : PBw X W e m := by
  obtain ⟨t, p, g⟩ := h
  exact ⟨fun wh pins s σ H Q I ⟨H0, e, ow, si, hs⟩ => p.run wh pins s σ H Q I (g σ H H0 e ow Q si hs)⟩
theorem PBw.out {e : Expr} {m : Mo Bool} (h : PBw X W e m) : ∃ t, PW X e t ∧ GoodT X.K X.mg W t m := ⟨_, h, good_tmT⟩
end
section
variable {X : Cx} {W : WX} {a b e o : Expr} {es : List Expr} {m ma mb : Mo T} {pos : Pos}
theorem po_ex (h : PM X W e m) : PO X W e (.ex m) := h.out
theorem po_nm (i : Nat) {x : Str} {pos : Pos} (hN : X.N[i]? = some x := by rfl) (hv : Vis X.env.scope x := by first | exact Or.inl rfl | exact Or.inr (Or.inl rfl) | exact Or.inr (Or.inr rfl)) (hd : (x == ("__debug__" : Str)) = false := by decide)
    (hcd : (x == ("__classdict__" : Str)) = false := by decide) : PO X W (.Name x pos) (.nm i) := ⟨_, pe_var hN hv hd hcd, rfl⟩
theorem pm_cp (i : Nat) {x : Str} {pos : Pos} (hN : X.N[i]? = some x := by rfl) (hv : Vis X.env.scope x := by first | exact Or.inl rfl | exact Or.inr (Or.inl rfl) | exact Or.inr (Or.inr rfl)) (hd : (x == ("__debug__" : Str)) = false := by decide)
    (hcd : (x == ("__classdict__" : Str)) = false := by decide) : PM X W (.Name x pos) (mCp i) := PM.mk ⟨_, pe_var hN hv hd hcd, goodE_cp⟩
theorem pm_mv (i : Nat) {x : Str} {pos : Pos} (hN : X.N[i]? = some x := by rfl) (hv : Vis X.env.scope x := by first | exact Or.inl rfl | exact Or.inr (Or.inl rfl) | exact Or.inr (Or.inr rfl)) (hd : (x == ("__debug__" : Str)) = false := by decide)
    (hcd : (x == ("__classdict__" : Str)) = false := by decide) : PM X W (.Name x pos) (mMv i) := PM.mk ⟨_, pe_var hN hv hd hcd, goodE_mv⟩
theorem pag_nil : PAg X W [] [] := ⟨_, pa_nil, goodAs_nil⟩
theorem pag_cons {os : List Op} {o' : Op} (ho : PO X W e o') (hr : PAg X W es os) (hs : starEach (e :: es) X.env = (false, eval e X.env) :: starEach es X.env := by rfl) : PAg X W (e :: es) (o' :: os) := by
  obtain ⟨t1, h1, g1⟩ := ho
  obtain ⟨t2, h2, g2⟩ := hr
  exact ⟨_, pa_cons h1 h2 hs, goodAs_cons g1 g2⟩
theorem pm_int {i j} : PM X W (.Constant (.int i) j pos) (ret (.val (.int i))) := PM.mk ⟨_, pe_int, goodE_c fun _ => rfl⟩
theorem pm_bl {b j} : PM X W (.Constant (.bool b) j pos) (ret (.val (.bl b))) := PM.mk ⟨_, pe_bl, goodE_c fun _ => rfl⟩
theorem pm_non {j} : PM X W (.Constant .none j pos) (ret (.val .non)) := PM.mk ⟨_, pe_non, goodE_c fun _ => rfl⟩
theorem pm_str {x j} : PM X W (.Constant (.str x) j pos) (ret (.val (.str x))) := PM.mk ⟨_, pe_str, goodE_c fun _ => rfl⟩
theorem pm_gS {x z : Str} (hg : Gl X x) (hm : ∃ t, X.mg x = some (.str z t)) (hd : (x == ("__debug__" : Str)) = false := by decide) : PM X W (.Name x pos) (ret (.val (.str z))) := by
  obtain ⟨t, h⟩ := hm
  exact PM.mk ⟨_, pe_glob (v := .str z) hg h ⟨t, rfl⟩ hd, goodE_c fun _ => rfl⟩
theorem pm_gI {x : Str} {z : Int} (hg : Gl X x) (hm : ∃ t, X.mg x = some (.int z t)) (hd : (x == ("__debug__" : Str)) = false := by decide) : PM X W (.Name x pos) (ret (.val (.int z))) := by
  obtain ⟨t, h⟩ := hm
  exact PM.mk ⟨_, pe_glob (v := .int z) hg h ⟨t, rfl⟩ hd, goodE_c fun _ => rfl⟩
theorem pm_bin {op : Operator} {r : R2} {f : List D → Option T} {o1 o2 : Op} (ho : OpR X (binaryOp op) r) (cg : CG X.K X.mg (ra2 r) f) (h1 : PO X W a o1) (h2 : PO X W b o2) : PM X W (.BinOp a op b pos) (mB f [o1, o2]) := by
  obtain ⟨t1, p1, g1⟩ := h1
  obtain ⟨t2, p2, g2⟩ := h2
  exact PM.mk ⟨_, pe_op ho p1 p2, goodE_op g1 g2 cg⟩
theorem pm_un {op : UnaryOp} {r : V → Hp → VK → Prop} {f : List D → Option T} {o1 : Op} (ho : UnR X (unaryOp op) r) (cg : CG X.K X.mg (ra1 r) f) (h1 : PO X W a o1) : PM X W (.UnaryOp op a pos) (mB f [o1]) := by
  obtain ⟨t1, p1, g1⟩ := h1
  exact PM.mk ⟨_, pe_un ho p1, goodE_un g1 cg⟩
theorem pm_cmp {op : CmpOp} {r : R2} {f : List D → Option T} {o1 o2 : Op} (ho : OpR X (compareOp op) r) (cg : CG X.K X.mg (ra2 r) f) (h1 : PO X W a o1) (h2 : PO X W b o2) (hm : behindInMarks op b = false) : PM X W (.Compare a [op] [b] pos) (mB f [o1, o2]) := by
  obtain ⟨t1, p1, g1⟩ := h1
  obtain ⟨t2, p2, g2⟩ := h2
  exact PM.mk ⟨_, pe_cmpR ho p1 p2 hm, goodE_op g1 g2 cg⟩
theorem pm_ix {r : R2} {f : List D → Option T} {o1 o2 : Op} (ho : IxR X r) (cg : CG X.K X.mg (ra2 r) f) (h1 : PO X W a o1) (h2 : PO X W b o2) (hs : PlainIx b := by exact fun _ _ => rfl) : PM X W (.Subscript a b pos) (mB f [o1, o2]) := by
  obtain ⟨t1, p1, g1⟩ := h1
  obtain ⟨t2, p2, g2⟩ := h2
  exact PM.mk ⟨_, pe_ix ho p1 p2 hs, goodE_op g1 g2 cg⟩
theorem pm_callB {x : Str} {p : Pos} {id : String} {r : List V → Hp → VK → Prop} {f : List D → Option T} {os : List Op} (hc : CallR X (.builtin id) r) (cg : CG X.K X.mg r f) (hg : Gl X x) (hm : X.mg x = none) (hv : bootBuiltins x = some (.builtin id)) (ha : PAg X W (e :: es) os)
    (hn : x ≠ "__name__" := by decide) (hdb : (x == ("__debug__" : Str)) = false := by decide) (he : starEach (e :: es) X.env = (false, eval e X.env) :: starEach es X.env := by rfl) (hpl : (backTo pos (starEach es X.env)).any (·.1) = false := by rfl) :
    PM X W (.Call (.Name x p) (e :: es) [] pos) (mB f os) := by
  obtain ⟨t, h1, g1⟩ := ha
  exact PM.mk ⟨_, pe_callB hc hg hm hv h1 hn hdb he hpl, goodE_B g1 cg⟩
theorem pm_callTy {x : Str} {p : Pos} {id : String} {r : List V → Hp → VK → Prop} {f : List D → Option T} {os : List Op} (hc : CallR X (.type id) r) (cg : CG X.K X.mg r f) (hg : Gl X x) (hm : X.mg x = none) (hv : bootBuiltins x = some (.type id)) (ha : PAg X W (e :: es) os)
    (hn : x ≠ "__name__" := by decide) (hdb : (x == ("__debug__" : Str)) = false := by decide) (he : starEach (e :: es) X.env = (false, eval e X.env) :: starEach es X.env := by rfl) (hpl : (backTo pos (starEach es X.env)).any (·.1) = false := by rfl) :
    PM X W (.Call (.Name x p) (e :: es) [] pos) (mB f os) := by
  obtain ⟨t, h1, g1⟩ := ha
  exact PM.mk ⟨_, pe_callTy hc hg hm hv h1 hn hdb he hpl, goodE_B g1 cg⟩
end
end Pf

set_option Elab.async false
set_option linter.all false
set_option maxRecDepth 100000
/-! Pf4: tests, displays, a call of a def of the program. -/
namespace Pf
open PySem PySem.Spec PyProof.Rows L2

/-! ### tests -/
def asB : T → Mo Bool
  | .val (.bl b) => ret b
  | _ => fail
def mTr (m : Mo T) : Mo Bool := bnd m asB
def mAnd (a b : Mo Bool) : Mo Bool := bnd a fun c => match c with
  | true => b
  | false => ret false
def mOr (a b : Mo Bool) : Mo Bool := bnd a fun c => match c with
  | true => ret true
  | false => b
def mNot (a : Mo Bool) : Mo Bool := bnd a fun c => ret (!c)
def mAndV (a b : Mo T) : Mo T := bnd a fun t => bnd (asB t) fun c => match c with
  | true => b
  | false => ret (.val (.bl false))
def mOrV (a b : Mo T) : Mo T := bnd a fun t => bnd (asB t) fun c => match c with
  | true => ret (.val (.bl true))
  | false => b
def mNotV (a : Mo T) : Mo T := bnd a fun t => bnd (asB t) fun c => ret (.val (.bl (!c)))
def mIf (c : Mo Bool) (a b : Mo T) : Mo T := bnd c fun c => match c with
  | true => a
  | false => b
section
variable {K : PySem.W.Frag} {mg : Str → Option Value} {H H0 H1 H01 : Hp} {σ : L2.St} {e : En} {ow ow1 : Ow} {W : WX} {t u : TE} {tt tu : TT} {m n : Mo T} {mm nn : Mo Bool}
theorem asB_is {t : T} {P : Bool → En → Prop} {Xp : Xn → En → Prop} (h : (asB t e).Is P Xp) : ∃ b, t = .val (.bl b) ∧ P b e := by
  unfold asB at h
  split at h
  · exact ⟨_, rfl, h⟩
  · exact h.elim
theorem goodT_val (g : GoodE K mg W t m) : GoodT K mg W (tB t) (mTr m) := by
  intro σ H H0 e ow Q s h
  refine g σ H H0 e ow _ s (Is_imp (Is_bnd h) (fun t1 e1 _ h1 => ?_) fun _ _ z => z)
  intro v H1 H01 ow1 f st s1 o tm
  obtain ⟨b, et, k⟩ := asB_is h1
  subst et
  exact ⟨b, o.2, k H1 H01 ow1 st s1⟩
theorem goodT_and (g : GoodT K mg W tt mm) (g2 : GoodT K mg W tu nn) : GoodT K mg W (tAnd tt tu) (mAnd mm nn) := by
  intro σ H H0 e ow Q s h
  refine g σ H H0 e ow _ s (Is_imp (Is_bnd h) (fun b e1 _ h1 => ?_) fun _ _ z => z)
  intro H1 H01 ow1 st s1
  cases b with
  | true =>
    show tu σ H1 Q
    exact g2 σ H1 H01 e1 ow1 Q s1 (Is_imp h1 (fun _ _ _ z => KT.pull st z) fun _ _ z => KX.pull st z)
  | false => exact h1 H1 H01 ow1 st s1
theorem goodT_or (g : GoodT K mg W tt mm) (g2 : GoodT K mg W tu nn) : GoodT K mg W (tOr tt tu) (mOr mm nn) := by
  intro σ H H0 e ow Q s h
  refine g σ H H0 e ow _ s (Is_imp (Is_bnd h) (fun b e1 _ h1 => ?_) fun _ _ z => z)
  intro H1 H01 ow1 st s1
  cases b with
  | false =>
    show tu σ H1 Q
    exact g2 σ H1 H01 e1 ow1 Q s1 (Is_imp h1 (fun _ _ _ z => KT.pull st z) fun _ _ z => KX.pull st z)
  | true => exact h1 H1 H01 ow1 st s1
theorem goodT_not (g : GoodT K mg W tt mm) : GoodT K mg W (tNot tt) (mNot mm) := by
  intro σ H H0 e ow Q s h
  refine g σ H H0 e ow _ s (Is_imp (Is_bnd h) (fun b e1 _ h1 => ?_) fun _ _ z => z)
  intro H1 H01 ow1 st s1
  exact h1 H1 H01 ow1 st s1
theorem goodE_and (g : GoodE K mg W t m) (g2 : GoodE K mg W u n) : GoodE K mg W (tAndV t u) (mAndV m n) := by
  intro σ H H0 e ow Q s h
  refine g σ H H0 e ow _ s (Is_imp (Is_bnd h) (fun t1 e1 _ h1 => ?_) fun _ _ z => z)
  intro v H1 H01 ow1 f st s1 o tm
  obtain ⟨b, et, k⟩ := asB_is (Is_bnd h1)
  subst et
  refine ⟨b, o.2, ?_⟩
  cases b with
  | true =>
    show u σ H1 Q
    exact g2 σ H1 H01 e1 ow1 Q s1 (Is_imp k (fun _ _ _ z => KE.pull st z) fun _ _ z => KX.pull st z)
  | false => exact KE.here (KE.pull st k) s1 rfl
theorem goodE_or (g : GoodE K mg W t m) (g2 : GoodE K mg W u n) : GoodE K mg W (tOrV t u) (mOrV m n) := by
  intro σ H H0 e ow Q s h
  refine g σ H H0 e ow _ s (Is_imp (Is_bnd h) (fun t1 e1 _ h1 => ?_) fun _ _ z => z)
  intro v H1 H01 ow1 f st s1 o tm
  obtain ⟨b, et, k⟩ := asB_is (Is_bnd h1)
  subst et
  refine ⟨b, o.2, ?_⟩
  cases b with
  | false =>
    show u σ H1 Q
    exact g2 σ H1 H01 e1 ow1 Q s1 (Is_imp k (fun _ _ _ z => KE.pull st z) fun _ _ z => KX.pull st z)
  | true => exact KE.here (KE.pull st k) s1 rfl
theorem goodE_not (g : GoodE K mg W t m) : GoodE K mg W (tNotV t) (mNotV m) := by
  intro σ H H0 e ow Q s h
  refine g σ H H0 e ow _ s (Is_imp (Is_bnd h) (fun t1 e1 _ h1 => ?_) fun _ _ z => z)
  intro v H1 H01 ow1 f st s1 o tm
  obtain ⟨b, et, k⟩ := asB_is (Is_bnd h1)
  subst et
  exact ⟨b, o.2, KE.here (KE.pull st k) s1 rfl⟩
theorem goodE_if (gc : GoodT K mg W tt mm) (g : GoodE K mg W t m) (g2 : GoodE K mg W u n) : GoodE K mg W (tIf tt t u) (mIf mm m n) := by
  intro σ H H0 e ow Q s h
  refine gc σ H H0 e ow _ s (Is_imp (Is_bnd h) (fun b e1 _ h1 => ?_) fun _ _ z => z)
  intro H1 H01 ow1 st s1
  cases b with
  | true =>
    show t σ H1 Q
    exact g σ H1 H01 e1 ow1 Q s1 (Is_imp h1 (fun _ _ _ z => KE.pull st z) fun _ _ z => KX.pull st z)
  | false =>
    show u σ H1 Q
    exact g2 σ H1 H01 e1 ow1 Q s1 (Is_imp h1 (fun _ _ _ z => KE.pull st z) fun _ _ z => KX.pull st z)

/-! ### displays -/
def allEx : List Op → Bool
  | [] => true
  | .ex _ :: os => allEx os
  | .nm _ :: _ => false
def flatF : Nat → Fo → List Addr
  | 0, _ => []
  | n + 1, fo => fo 0 ++ flatF n (sh fo)
theorem mem_flatF : ∀ {n : Nat} {fo : Fo} {a : Addr}, a ∈ flatF n fo → ∃ j, a ∈ fo j
  | 0, _, _, h => nomatch h
  | n + 1, fo, a, h => by
    rcases List.mem_append.mp h with q | q
    · exact ⟨0, q⟩
    · obtain ⟨j, z⟩ := mem_flatF q
      exact ⟨j + 1, z⟩
theorem nodup_flatF : ∀ {n : Nat} {fo : Fo}, (∀ j, (fo j).Nodup) → (∀ i j a, a ∈ fo i → a ∈ fo j → i = j) → (flatF n fo).Nodup
  | 0, _, _, _ => List.nodup_nil
  | n + 1, fo, h1, h2 => by
    refine List.nodup_append.mpr ⟨h1 0, nodup_flatF (fun j => h1 (j + 1)) (fun i j a mi mj => Nat.succ.inj (h2 (i + 1) (j + 1) a mi mj)), fun a ma b mb e => ?_⟩
    subst e
    obtain ⟨j, z⟩ := mem_flatF mb
    exact absurd (h2 0 (j + 1) a ma z) (by omega)
theorem AgR.len : ∀ {os : List Op} {ts : List T} {vs : List V} {fo : Fo}, AgR K mg H H0 σ e os ts vs fo → ts.length = os.length ∧ vs.length = os.length
  | [], _, _, _, ⟨e1, e2, _⟩ => by subst e1 e2; exact ⟨rfl, rfl⟩
  | .ex _ :: os, _, _, _, ⟨t, ts', v, vs', e1, e2, _, r⟩ => by
    subst e1 e2
    obtain ⟨a, b⟩ := AgR.len r
    exact ⟨by rw [List.length_cons, a]; rfl, by rw [List.length_cons, b]; rfl⟩
  | .nm _ :: os, _, _, _, ⟨t, ts', v, vs', e1, e2, _, _, _, r⟩ => by
    subst e1 e2
    obtain ⟨a, b⟩ := AgR.len r
    exact ⟨by rw [List.length_cons, a]; rfl, by rw [List.length_cons, b]; rfl⟩
theorem AgR.owns : ∀ {os : List Op} {ts : List T} {vs : List V} {fo : Fo}, allEx os = true → AgR K mg H H0 σ e os ts vs fo → Owns K mg H H0 ts vs (flatF os.length fo)
  | [], _, _, _, _, ⟨e1, e2, _⟩ => by subst e1 e2; exact ⟨rfl, rfl⟩
  | .ex _ :: os, _, _, fo, h, ⟨t, ts', v, vs', e1, e2, o, r⟩ => by
    subst e1 e2
    exact ⟨v, vs', fo 0, flatF os.length (sh fo), rfl, o, AgR.owns (os := os) h r, rfl⟩
  | .nm _ :: _, _, _, _, h, _ => nomatch h
def mTup (os : List Op) : Mo T := bnd (mArgs os) fun ts => ret (.val (.tup (T.toDs ts)))
def mLst (os : List Op) : Mo T := bnd (mArgs os) fun ts => ret (.lst ts)
/-- temporaries frozen -/
theorem Step.frz {P P1 : Addr → Prop} {F : List Addr} (st : Step H H0 P H1 H01 P1) (s : Same H01 H1) (hf : ∀ a ∈ F, H a = none ∨ P a) : Step H H0 P H1 (frz H1 H01 F) P1 where
  fro := st.fro.trans (frz_fro s)
  oth := st.oth
  new := fun b h => by
    by_cases m : b ∈ F
    · rcases hf b m with z | z
      · exact .inr (.inl z)
      · exact .inr (.inr z)
    · rw [frz_out m] at h; exact st.new b h
  own := st.own
  liv := st.liv
theorem Sim.frz {F : List Addr} (s : Sim K mg H H0 σ e ow) (hf : ∀ a ∈ F, ¬ InO ow a) : Sim K mg H (frz H H0 F) σ e ow where
  sub := frz_sub s.sub
  len := s.len
  at_ := fun i t h => by
    obtain ⟨v, h1, h2⟩ := s.at_ i t h
    exact ⟨v, h1, Own.stay (frz_fro s.sub) (fun _ _ _ z => z) h2⟩
  emp := s.emp
  nd := s.nd
  dj := s.dj
  out := fun i a m => by rw [frz_out fun z => hf a z ⟨i, m⟩]; exact s.out i a m
theorem len1000 {n : Nat} (h : n ≤ 1000) : n ≤ sizeLine := Nat.le_of_lt (small1000 h)
theorem goodE_tup {ta : TA} {os : List Op} (ga : GoodAs K mg W ta os) (hx : allEx os = true) (hl : os.length ≤ 1000) : GoodE K mg W (tTup ta) (mTup os) := by
  intro σ H H0 e ow Q s h
  refine ga σ H H0 e ow _ s (Is_imp (Is_bnd h) (fun ts e1 _ h1 => ?_) fun _ _ z => z)
  intro vs H1 H01 ow1 fo st1 s1 ag tm
  refine ⟨by rw [ag.len.2]; exact len1000 hl, fun p hp => ?_⟩
  have st2 : Step H H0 (InO ow) H1 (Pf.frz H1 H01 (flatF os.length fo)) (InO ow1) := st1.frz s1.sub fun a m => by
    obtain ⟨j, z⟩ := mem_flatF m
    exact tm.new j a z
  have s2 : Sim K mg H1 (Pf.frz H1 H01 (flatF os.length fo)) σ e1 ow1 := s1.frz fun a m => by
    obtain ⟨j, z⟩ := mem_flatF m
    exact tm.sep j a z
  have rp : Reps K mg (Pf.frz H1 H01 (flatF os.length fo)) (T.toDs ts) vs := Owns.reps (frz_fro s1.sub) (fun a m u z => by rw [frz_in m]; exact z) (ag.owns hx)
  have g : Gro H1 (Pf.frz H1 H01 (flatF os.length fo)) (upd H1 p (.tup vs)) (upd (Pf.frz H1 H01 (flatF os.length fo)) p (.tup vs)) := Gro.put s2.sub hp
  exact h1 (.ref p) _ _ ow1 [] (st2.trans g.step) (s2.gro g) ⟨rfl, p, vs, rfl, SqT.of upd_same, Reps.mono g.fro rp⟩ ⟨List.nodup_nil, fun _ m => (nomatch m), fun _ m => (nomatch m), fun _ m => (nomatch m)⟩
theorem goodE_lst {ta : TA} {os : List Op} (ga : GoodAs K mg W ta os) (hx : allEx os = true) (hl : os.length ≤ 1000) : GoodE K mg W (tLst ta) (mLst os) := by
  intro σ H H0 e ow Q s h
  refine ga σ H H0 e ow _ s (Is_imp (Is_bnd h) (fun ts e1 _ h1 => ?_) fun _ _ z => z)
  intro vs H1 H01 ow1 fo st1 s1 ag tm
  refine ⟨by rw [ag.len.2]; exact len1000 hl, fun p hp => ?_⟩
  have g : Gro H1 H01 (upd H1 p (.lst vs)) H01 := Gro.lay s1.sub hp
  have o := ag.owns hx
  have np : ∀ a ∈ flatF os.length fo, a ≠ p := fun a m z => by
    subst z
    exact o.live a m hp
  refine h1 (.ref p) _ _ ow1 (p :: flatF os.length fo) (st1.trans g.step) (s1.gro g) ⟨p, vs, _, rfl, upd_same, Owns.stay (Same.refl _) (fun a m u z => by rw [upd_ne (np a m)]; exact z) o, rfl⟩ ⟨List.nodup_cons.mpr ⟨fun m => np p m rfl, nodup_flatF tm.nd tm.dj⟩, fun a m => ?_, fun a m => ?_, fun a m => ?_⟩
  · rcases List.mem_cons.mp m with z | z
    · rw [z]
      cases q : H01 p with
      | none => rfl
      | some u => rw [s1.sub p u q] at hp; cases hp
    · obtain ⟨j, y⟩ := mem_flatF z
      exact tm.out j a y
  · rcases List.mem_cons.mp m with z | z
    · rintro ⟨i, y⟩
      rw [z] at y
      exact s1.live y hp
    · obtain ⟨j, y⟩ := mem_flatF z
      exact tm.sep j a y
  · rcases List.mem_cons.mp m with z | z
    · rw [z]
      exact .inl (none_of_liv st1.liv hp)
    · obtain ⟨j, y⟩ := mem_flatF z
      exact tm.new j a y
end
section
variable {X : Cx} {W : WX} {a b c e o : Expr} {es rest : List Expr} {m ma mb : Mo T} {m1 m2 : Mo Bool} {pos : Pos}
theorem pb_val (h : PM X W e m) (he : ∀ whole, isTrue e X.env whole = (do let v ← whole; standAt e.pos; holding [v] (truthy v)) := by exact fun _ => rfl) : PB X W e (mTr m) := by
  obtain ⟨t, p, g⟩ := h.out
  exact PB.mk ⟨_, pt_val p he, goodT_val g⟩
theorem pb_cmp {op : CmpOp} {r : R2} {f : List D → Option T} {o1 o2 : Op} (ho : OpR X (compareOp op) r) (cg : CG X.K X.mg (ra2 r) f) (h1 : PO X W a o1) (h2 : PO X W b o2) (hm : behindInMarks op b = false) : PB X W (.Compare a [op] [b] pos) (mTr (mB f [o1, o2])) := by
  obtain ⟨t1, p1, g1⟩ := h1
  obtain ⟨t2, p2, g2⟩ := h2
  exact PB.mk ⟨_, pt_cmpR ho p1 p2 hm, goodT_val (goodE_op g1 g2 cg)⟩
theorem pbw_and1 (h : PB X W a m1) : PBw X W (.BoolOp .And [a] pos) m1 := by
  obtain ⟨t, p, g⟩ := h.out
  exact PBw.mk ⟨_, pw_and1 p, g⟩
theorem pbw_or1 (h : PB X W a m1) : PBw X W (.BoolOp .Or [a] pos) m1 := by
  obtain ⟨t, p, g⟩ := h.out
  exact PBw.mk ⟨_, pw_or1 p, g⟩
theorem pbw_and (h : PB X W a m1) (h2 : PBw X W (.BoolOp .And (b :: rest) pos) m2) : PBw X W (.BoolOp .And (a :: b :: rest) pos) (mAnd m1 m2) := by
  obtain ⟨t, p, g⟩ := h.out
  obtain ⟨t2, p2, g2⟩ := h2.out
  exact PBw.mk ⟨_, pw_and p p2, goodT_and g g2⟩
theorem pbw_or (h : PB X W a m1) (h2 : PBw X W (.BoolOp .Or (b :: rest) pos) m2) : PBw X W (.BoolOp .Or (a :: b :: rest) pos) (mOr m1 m2) := by
  obtain ⟨t, p, g⟩ := h.out
  obtain ⟨t2, p2, g2⟩ := h2.out
  exact PBw.mk ⟨_, pw_or p p2, goodT_or g g2⟩
theorem pb_w (h : PBw X W e m1) : PB X W e m1 := by
  obtain ⟨t, p, g⟩ := h.out
  exact PB.mk ⟨_, p.pt, g⟩
theorem pb_not (h : PB X W a m1) : PB X W (.UnaryOp .Not a pos) (mNot m1) := by
  obtain ⟨t, p, g⟩ := h.out
  exact PB.mk ⟨_, pt_not p, goodT_not g⟩
theorem pm_one {op} (h : PM X W a m) : PM X W (.BoolOp op [a] pos) m := by
  obtain ⟨t, p, g⟩ := h.out
  exact PM.mk ⟨_, pe_one p, g⟩
theorem pm_and (h : PM X W a ma) (h2 : PM X W (.BoolOp .And (b :: rest) pos) mb) : PM X W (.BoolOp .And (a :: b :: rest) pos) (mAndV ma mb) := by
  obtain ⟨t, p, g⟩ := h.out
  obtain ⟨t2, p2, g2⟩ := h2.out
  exact PM.mk ⟨_, pe_and p p2, goodE_and g g2⟩
theorem pm_or (h : PM X W a ma) (h2 : PM X W (.BoolOp .Or (b :: rest) pos) mb) : PM X W (.BoolOp .Or (a :: b :: rest) pos) (mOrV ma mb) := by
  obtain ⟨t, p, g⟩ := h.out
  obtain ⟨t2, p2, g2⟩ := h2.out
  exact PM.mk ⟨_, pe_or p p2, goodE_or g g2⟩
theorem pm_not (h : PM X W a ma) : PM X W (.UnaryOp .Not a pos) (mNotV ma) := by
  obtain ⟨t, p, g⟩ := h.out
  exact PM.mk ⟨_, pe_not p, goodE_not g⟩
theorem pm_if (hc : PB X W c m1) (h : PM X W a ma) (h2 : PM X W b mb) : PM X W (.IfExp c a b pos) (mIf m1 ma mb) := by
  obtain ⟨t0, p0, g0⟩ := hc.out
  obtain ⟨t, p, g⟩ := h.out
  obtain ⟨t2, p2, g2⟩ := h2.out
  exact PM.mk ⟨_, pe_ifExp p0 p p2, goodE_if g0 g g2⟩
theorem pm_tup {x1} {os : List Op} (h : PAg X W es os) (hx : allEx os = true := by rfl) (hl : os.length ≤ 1000 := by first | decide | exact Nat.le_of_ble_eq_true rfl) : PM X W (.Tuple es x1 pos) (mTup os) := by
  obtain ⟨t, p, g⟩ := h
  exact PM.mk ⟨_, pe_tup p, goodE_tup g hx hl⟩
theorem pm_lst {os : List Op} (h : PAg X W es os) (hx : allEx os = true := by rfl) (hl : os.length ≤ 1000 := by first | decide | exact Nat.le_of_ble_eq_true rfl) : PM X W (.List es pos) (mLst os) := by
  obtain ⟨t, p, g⟩ := h
  exact PM.mk ⟨_, pe_lst p, goodE_lst g hx hl⟩
end

/-! ### a call of a def -/
def T.isVal : T → Bool
  | .val _ => true
  | _ => false
def nmIn (i : Nat) : List Op → Bool
  | [] => false
  | .nm k :: os => k == i || nmIn i os
  | .ex _ :: os => nmIn i os
def noDup : List Op → List T → Bool
  | .nm i :: os, t :: ts => (t.isVal || !nmIn i os) && noDup os ts
  | .ex _ :: os, _ :: ts => noDup os ts
  | _, _ => true
/-- the argument that hands slot i on -/
def tgt : List Op → List T → Nat → Nat → Option Nat
  | .nm k :: os, t :: ts, i, j => if k = i ∧ t.isVal = false then some j else tgt os ts i (j + 1)
  | .ex _ :: os, _ :: ts, i, j => tgt os ts i (j + 1)
  | _, _, _, _ => none
def putO (os : List Op) (ts : List T) (outs : En) : Nat → En → En
  | _, [] => []
  | i, x :: r => (match tgt os ts i 0 with
    | some j => outs.getD j none
    | none => x) :: putO os ts outs (i + 1) r
def mCall (F : List T → Rs T) (os : List Op) : Mo T := bnd (mArgs os) fun ts e => match noDup os ts with
  | true => match F ts with
    | .ok t outs => .ok t (putO os ts outs 0 e)
    | .err x outs => .err x (putO os ts outs 0 e)
    | .bad => .bad
  | false => .bad
/-- what a def promises: its mirror on the arguments' things -/
def spF (K : PySem.W.Frag) (mg : Str → Option Value) (n : Nat) (F : List T → Rs T) : Sp := fun vs H Q E => ∃ (H0 : Hp) (ts : List T) (ow : Ow), vs.length = n ∧ Sim K mg H H0 (vs.map some) (ts.map some) ow ∧
  (F ts).Is (KE K mg (vs.map some) H H0 ow Q) (KX K mg (fun c d _ H => E c d H) (vs.map some) H H0 ow)
structure Callee (P : Program) (w : World) (K : PySem.W.Frag) (mg : Str → Option Value) (base : Heap) (k : Nat) (x : Str) (ps : List Str) (F : List T → Rs T) : Prop where
  ex : ∃ f fd, mg x = some (.ref f) ∧ PySem.W.keepIn K (.ref f) = true ∧ Binds K fd ps [] ∧ FnOk P w K mg base (L2.CX P w) k f fd ps (spF K mg ps.length F)
section
variable {K : PySem.W.Frag} {mg : Str → Option Value} {H H0 H1 H01 H2 H02 : Hp} {σ : L2.St} {e : En} {ow ow1 : Ow} {W : WX}
theorem AgR.get : ∀ {os : List Op} {ts : List T} {vs : List V} {fo : Fo} (j : Nat) (t : T), AgR K mg H H0 σ e os ts vs fo → ts[j]? = some t →
    ∃ o v, os[j]? = some o ∧ vs[j]? = some v ∧ match o with
      | .ex _ => Own K mg H H0 t v (fo j)
      | .nm i => e[i]? = some (some t) ∧ σ[i]? = some (some v) ∧ fo j = []
  | [], _, _, _, j, t, ⟨e1, _, _⟩, h => by subst e1; simp at h
  | .ex m :: os, _, _, fo, 0, t, ⟨t1, ts', v, vs', e1, e2, o, r⟩, h => by
    subst e1 e2
    have et : t1 = t := Option.some.inj h
    subst et
    exact ⟨.ex m, v, rfl, rfl, o⟩
  | .ex m :: os, _, _, fo, j + 1, t, ⟨t1, ts', v, vs', e1, e2, o, r⟩, h => by
    subst e1 e2
    exact AgR.get (os := os) (fo := sh fo) j t r h
  | .nm i :: os, _, _, fo, 0, t, ⟨t1, ts', v, vs', e1, e2, he, hv, hf, r⟩, h => by
    subst e1 e2
    have et : t1 = t := Option.some.inj h
    subst et
    exact ⟨.nm i, v, rfl, rfl, he, hv, hf⟩
  | .nm i :: os, _, _, fo, j + 1, t, ⟨t1, ts', v, vs', e1, e2, _, _, _, r⟩, h => by
    subst e1 e2
    exact AgR.get (os := os) (fo := sh fo) j t r h
theorem AgR.end_ : ∀ {os : List Op} {ts : List T} {vs : List V} {fo : Fo} (j : Nat), AgR K mg H H0 σ e os ts vs fo → os[j]? = none → fo j = []
  | [], _, _, _, j, ⟨_, _, h⟩, _ => h j
  | .ex m :: os, _, _, fo, 0, _, h => by simp at h
  | .ex m :: os, _, _, fo, j + 1, ⟨t1, ts', v, vs', e1, e2, o, r⟩, h => AgR.end_ (os := os) (fo := sh fo) j r (by simpa using h)
  | .nm i :: os, _, _, fo, 0, _, h => by simp at h
  | .nm i :: os, _, _, fo, j + 1, ⟨t1, ts', v, vs', e1, e2, _, _, _, r⟩, h => AgR.end_ (os := os) (fo := sh fo) j r (by simpa using h)
theorem nmIn_of : ∀ {os : List Op} {i j : Nat}, os[j]? = some (.nm i) → nmIn i os = true
  | [], _, _, h => by simp at h
  | .nm k :: os, i, 0, h => by
    have : k = i := by simpa using h
    simp [nmIn, this]
  | .ex _ :: os, i, 0, h => by simp at h
  | .nm k :: os, i, j + 1, h => by
    have := nmIn_of (os := os) (i := i) (j := j) (by simpa using h)
    simp [nmIn, this]
  | .ex _ :: os, i, j + 1, h => by
    have := nmIn_of (os := os) (i := i) (j := j) (by simpa using h)
    simpa [nmIn] using this
theorem noDup_lt : ∀ {os : List Op} {ts : List T} {i j k : Nat} {t : T}, noDup os ts = true → os[j]? = some (.nm i) → ts[j]? = some t → t.isVal = false → os[k]? = some (.nm i) → ¬ j < k
  | [], _, _, _, _, _, _, h, _, _, _, _ => by simp at h
  | _ :: _, [], _, _, _, _, _, _, h, _, _, _ => by simp at h
  | .nm i' :: os, t' :: ts, i, 0, k, t, hn, h1, h2, h3, h4, lt => by
    have ei : i' = i := by simpa using h1
    have et : t' = t := by simpa using h2
    subst ei et
    obtain ⟨k', rfl⟩ : ∃ k', k = k' + 1 := ⟨k - 1, by omega⟩
    have := nmIn_of (os := os) (i := i') (j := k') (by simpa using h4)
    simp [noDup, h3, this] at hn
  | .ex _ :: os, t' :: ts, i, 0, k, t, hn, h1, h2, h3, h4, lt => by simp at h1
  | .nm i' :: os, t' :: ts, i, j + 1, k, t, hn, h1, h2, h3, h4, lt => by
    obtain ⟨k', rfl⟩ : ∃ k', k = k' + 1 := ⟨k - 1, by omega⟩
    have hn' : noDup os ts = true := by simp [noDup] at hn; exact hn.2
    exact noDup_lt (os := os) (ts := ts) (i := i) (j := j) (k := k') (t := t) hn' (by simpa using h1) (by simpa using h2) h3 (by simpa using h4) (by omega)
  | .ex _ :: os, t' :: ts, i, j + 1, k, t, hn, h1, h2, h3, h4, lt => by
    obtain ⟨k', rfl⟩ : ∃ k', k = k' + 1 := ⟨k - 1, by omega⟩
    have hn' : noDup os ts = true := by simpa [noDup] using hn
    exact noDup_lt (os := os) (ts := ts) (i := i) (j := j) (k := k') (t := t) hn' (by simpa using h1) (by simpa using h2) h3 (by simpa using h4) (by omega)
theorem tgt_some : ∀ {os : List Op} {ts : List T} {i n j : Nat}, tgt os ts i n = some j → ∃ k t, j = n + k ∧ os[k]? = some (.nm i) ∧ ts[k]? = some t ∧ t.isVal = false
  | [], _, _, _, _, h => by simp [tgt] at h
  | .nm _ :: _, [], _, _, _, h => by simp [tgt] at h
  | .ex _ :: _, [], _, _, _, h => by simp [tgt] at h
  | .nm k :: os, t :: ts, i, n, j, h => by
    unfold tgt at h
    split at h
    · rename_i q
      have : n = j := Option.some.inj h
      exact ⟨0, t, by omega, by simp [q.1], rfl, q.2⟩
    · obtain ⟨k', t', e, h1, h2, h3⟩ := tgt_some h
      exact ⟨k' + 1, t', by omega, by simpa using h1, by simpa using h2, h3⟩
  | .ex _ :: os, t :: ts, i, n, j, h => by
    unfold tgt at h
    obtain ⟨k', t', e, h1, h2, h3⟩ := tgt_some h
    exact ⟨k' + 1, t', by omega, by simpa using h1, by simpa using h2, h3⟩
theorem tgt_none : ∀ {os : List Op} {ts : List T} {i n k : Nat} {t : T}, tgt os ts i n = none → os[k]? = some (.nm i) → ts[k]? = some t → t.isVal = true
  | [], _, _, _, _, _, _, h, _ => by simp at h
  | _ :: _, [], _, _, _, _, _, _, h => by simp at h
  | .nm i' :: os, t' :: ts, i, n, 0, t, h, h1, h2 => by
    have ei : i' = i := by simpa using h1
    have et : t' = t := by simpa using h2
    subst ei et
    unfold tgt at h
    split at h
    · cases h
    · rename_i q
      cases z : t'.isVal with
      | true => rfl
      | false => exact absurd ⟨rfl, z⟩ q
  | .ex _ :: os, t' :: ts, i, n, 0, t, h, h1, h2 => by simp at h1
  | .nm i' :: os, t' :: ts, i, n, k + 1, t, h, h1, h2 => by
    unfold tgt at h
    split at h
    · cases h
    · exact tgt_none (os := os) (ts := ts) (k := k) h (by simpa using h1) (by simpa using h2)
  | .ex _ :: os, t' :: ts, i, n, k + 1, t, h, h1, h2 => by
    unfold tgt at h
    exact tgt_none (os := os) (ts := ts) (k := k) h (by simpa using h1) (by simpa using h2)
theorem putO_get (os : List Op) (ts : List T) (outs : En) : ∀ (e : En) (n i : Nat), (putO os ts outs n e)[i]? = match e[i]? with
    | none => none
    | some x => some (match tgt os ts (n + i) 0 with
      | some j => outs.getD j none
      | none => x)
  | [], n, i => by simp [putO]
  | x :: r, n, 0 => by simp [putO]
  | x :: r, n, i + 1 => by
    have q := putO_get os ts outs r (n + 1) i
    rw [show n + 1 + i = n + (i + 1) by omega] at q
    simpa [putO] using q
theorem putO_len (os : List Op) (ts : List T) (outs : En) : ∀ (e : En) (n : Nat), (putO os ts outs n e).length = e.length
  | [], n => rfl
  | x :: r, n => by
    show (putO os ts outs (n + 1) r).length + 1 = r.length + 1
    rw [putO_len]
/-- the callee's things: what slots hand on, and temporaries -/
def owC (os : List Op) (fo : Fo) (ow : Ow) : Ow := fun j => match os[j]? with
  | some (.nm i) => ow i
  | _ => fo j
def owB (os : List Op) (ts : List T) (owc ow : Ow) : Ow := fun i => match tgt os ts i 0 with
  | some j => owc j
  | none => ow i
theorem own_val_nil {t : T} {v : V} {f : List Addr} (o : Own K mg H H0 t v f) (h : t.isVal = true) : f = [] := by
  cases t with
  | val d => exact o.1
  | _ => cases h
theorem sim_callee {os : List Op} {ts : List T} {vs : List V} {fo : Fo} {P : Addr → Prop} {Hb : Hp} (s : Sim K mg H H0 σ e ow) (ag : AgR K mg H H0 σ e os ts vs fo) (tm : Tmps Hb P H0 (InO ow) fo) (nd : noDup os ts = true) :
    Sim K mg H H0 (vs.map some) (ts.map some) (owC os fo ow) where
  sub := s.sub
  len := by rw [List.length_map, List.length_map, ag.len.1, ag.len.2]
  at_ := fun j t h => by
    have h' : ts[j]? = some t := by simpa using h
    obtain ⟨o, v, h1, h2, h3⟩ := ag.get j t h'
    refine ⟨v, by simp [h2], ?_⟩
    unfold owC
    rw [h1]
    cases o with
    | ex m => exact h3
    | nm i =>
      obtain ⟨he, hv, _⟩ := h3
      obtain ⟨v', hv', o⟩ := s.at_ i t he
      have ev : v' = v := by rw [hv] at hv'; exact (Option.some.inj (Option.some.inj hv')).symm
      subst ev
      exact o
  emp := fun j h => by
    have h1 : ts[j]? = none := by
      cases q : ts[j]? with
      | none => rfl
      | some t => exact absurd (by simp [q]) (h t)
    have h2 : os[j]? = none := by
      rw [List.getElem?_eq_none_iff] at h1 ⊢
      rw [← ag.len.1]; exact h1
    unfold owC
    rw [h2]
    exact ag.end_ j h2
  nd := fun j => by
    unfold owC
    split
    · exact s.nd _
    · exact tm.nd j
  dj := fun j k a mj mk => by
    unfold owC at mj mk
    split at mj
    · rename_i i1 h1
      split at mk
      · rename_i i2 h2
        have ei := s.dj i1 i2 a mj mk
        subst ei
        have lj : j < ts.length := by rw [ag.len.1]; exact lt_of_some h1
        have lk : k < ts.length := by rw [ag.len.1]; exact lt_of_some h2
        obtain ⟨o, v, q1, q2, q3⟩ := ag.get j ts[j] (List.getElem?_eq_getElem lj)
        rw [h1] at q1
        cases q1
        obtain ⟨o', v', r1, r2, r3⟩ := ag.get k ts[k] (List.getElem?_eq_getElem lk)
        rw [h2] at r1
        cases r1
        have same : ts[j] = ts[k] := by
          have := q3.1.symm.trans r3.1
          exact Option.some.inj (Option.some.inj this)
        have nv : ts[j].isVal = false := by
          cases z : ts[j].isVal with
          | false => rfl
          | true =>
            obtain ⟨w, _, o⟩ := s.at_ i1 ts[j] q3.1
            rw [own_val_nil o z] at mj
            cases mj
        have n1 := noDup_lt nd h1 (List.getElem?_eq_getElem lj) nv h2
        have n2 := noDup_lt nd h2 (List.getElem?_eq_getElem lk) (by rw [← same]; exact nv) h1
        omega
      · exact (tm.sep k a mk ⟨i1, mj⟩).elim
    · split at mk
      · rename_i i2 h2
        exact (tm.sep j a mj ⟨i2, mk⟩).elim
      · exact tm.dj j k a mj mk
  out := fun j a m => by
    unfold owC at m
    split at m
    · exact s.out _ a m
    · exact tm.out j a m
theorem owC_cases {os : List Op} {fo : Fo} {a : Addr} (h : InO (owC os fo ow) a) : (∃ j, a ∈ fo j) ∨ ∃ (j i : Nat), os[j]? = some (Op.nm i) ∧ a ∈ ow i := by
  obtain ⟨j, m⟩ := h
  unfold owC at m
  split at m
  · rename_i i h1
    exact .inr ⟨j, i, h1, m⟩
  · exact .inl ⟨j, m⟩
/-- behind the call: the caller's state -/
theorem call_back {os : List Op} {ts : List T} {vs : List V} {fo : Fo} {outs : En} {owc' : Ow} {He H0e : Hp} {owe : Ow} (st1 : Step He H0e (InO owe) H H0 (InO ow)) (s : Sim K mg H H0 σ e ow) (ag : AgR K mg H H0 σ e os ts vs fo) (tm : Tmps He (InO owe) H0 (InO ow) fo)
    (nd : noDup os ts = true) (st : Step H H0 (InO (owC os fo ow)) H1 H01 (InO owc')) (sc : Sim K mg H1 H01 (vs.map some) outs owc') :
    Step He H0e (InO owe) H1 H01 (InO (owB os ts owc' ow)) ∧ Sim K mg H1 H01 σ (putO os ts outs 0 e) (owB os ts owc' ow) ∧
      ∀ f, Tmp H (InO (owC os fo ow)) H01 (InO owc') f → Tmp He (InO owe) H01 (InO (owB os ts owc' ow)) f := by
  -- an address of a slot that isn't handed on is not the callee's
  have key : ∀ i a, tgt os ts i 0 = none → a ∈ ow i → ¬ InO (owC os fo ow) a := fun i a hn m q => by
    rcases owC_cases q with ⟨j, z⟩ | ⟨j, k, h1, z⟩
    · exact tm.sep j a z ⟨i, m⟩
    · have ek := s.dj i k a m z
      subst ek
      have lj : j < ts.length := by rw [ag.len.1]; exact lt_of_some h1
      have hv := tgt_none hn h1 (List.getElem?_eq_getElem lj)
      obtain ⟨o, v, q1, q2, q3⟩ := ag.get j ts[j] (List.getElem?_eq_getElem lj)
      rw [h1] at q1
      cases q1
      obtain ⟨w, _, o⟩ := s.at_ i ts[j] q3.1
      rw [own_val_nil o hv] at m
      cases m
  have low : ∀ a, InO (owC os fo ow) a → He a = none ∨ InO owe a := fun a q => by
    rcases owC_cases q with ⟨j, z⟩ | ⟨j, k, h1, z⟩
    · exact tm.new j a z
    · exact (st1.own a ⟨k, z⟩).elim .inr .inl
  have lowB : ∀ a, InO (owB os ts owc' ow) a → He a = none ∨ InO owe a := fun a ⟨i, m⟩ => by
    unfold owB at m
    split at m
    · rename_i j hj
      rcases st.own a ⟨j, m⟩ with z | z
      · exact low a z
      · exact .inl (none_of_liv st1.liv z)
    · exact (st1.own a ⟨i, m⟩).elim .inr .inl
  have back : ∀ a, InO (owC os fo ow) a ∨ H a = none → ∀ i, tgt os ts i 0 = none → ¬ a ∈ ow i := fun a h i hn m => by
    rcases h with z | z
    · exact key i a hn m z
    · exact s.live m z
  refine ⟨⟨st1.fro.trans st.fro, fun b o n h => ?_, fun b h => ?_, fun b h => (lowB b h).elim .inr .inl, fun b h => st.liv b (st1.liv b h)⟩, ⟨sc.sub, ?_, fun i t h => ?_, fun i h => ?_, fun i => ?_, fun i k a mi mk => ?_, fun i a m => ?_⟩, fun f tf => ⟨tf.nd, tf.out, fun a m q => ?_, fun a m => ?_⟩⟩
  · refine st.oth b o (fun q => ?_) (st1.oth b o n h)
    rcases low b q with z | z
    · rw [z] at h; cases h
    · exact n z
  · rcases st.new b h with z | z | z
    · exact st1.new b z
    · exact .inr (.inl (none_of_liv st1.liv z))
    · rcases low b z with y | y
      · exact .inr (.inl y)
      · exact .inr (.inr y)
  · rw [putO_len]; exact s.len
  · rw [putO_get, Nat.zero_add] at h
    cases q : e[i]? with
    | none => rw [q] at h; cases h
    | some x =>
      rw [q] at h
      have h := Option.some.inj h
      unfold owB
      cases z : tgt os ts i 0 with
      | some j =>
        rw [z] at h
        have h : outs.getD j none = some t := h
        obtain ⟨k, t', ej, h1, h2, h3⟩ := tgt_some z
        have ej : j = k := by omega
        subst ej
        have ho : outs[j]? = some (some t) := by
          rw [List.getD_eq_getElem?_getD] at h
          cases y : outs[j]? with
          | none => rw [y] at h; cases h
          | some w => rw [y] at h; exact congrArg some h
        obtain ⟨v, hv, o⟩ := sc.at_ j t ho
        obtain ⟨o', v', q1, q2, q3⟩ := ag.get j t' h2
        rw [h1] at q1
        cases q1
        have ev : v' = v := by
          rw [List.getElem?_map, q2] at hv
          exact Option.some.inj (Option.some.inj hv)
        subst ev
        exact ⟨v', q3.2.1, o⟩
      | none =>
        rw [z] at h
        have h : x = some t := h
        subst h
        obtain ⟨v, hv, o⟩ := s.at_ i t q
        exact ⟨v, hv, Own.stay st.fro (fun a m u hu => st.oth a u (key i a z m) hu) o⟩
  · unfold owB
    cases z : tgt os ts i 0 with
    | some j =>
      refine sc.emp j fun t ht => ?_
      obtain ⟨k, t', ej, h1, h2, h3⟩ := tgt_some z
      have ej : j = k := by omega
      subst ej
      obtain ⟨o', v', q1, q2, q3⟩ := ag.get j t' h2
      rw [h1] at q1
      cases q1
      refine h t ?_
      rw [putO_get, q3.1, Nat.zero_add, z]
      show some (outs.getD j none) = some (some t)
      rw [List.getD_eq_getElem?_getD, ht]
      rfl
    | none =>
      refine s.emp i fun t ht => h t ?_
      rw [putO_get, ht, Nat.zero_add, z]
  · unfold owB
    split
    · exact sc.nd _
    · exact s.nd i
  · unfold owB at mi mk
    split at mi
    · rename_i j hj
      split at mk
      · rename_i j2 hj2
        have ej := sc.dj j j2 a mi mk
        subst ej
        obtain ⟨k1, t1, e1, h1, _⟩ := tgt_some hj
        obtain ⟨k2, t2, e2, h2, _⟩ := tgt_some hj2
        have : k1 = k2 := by omega
        subst this
        rw [h1] at h2
        cases h2
        rfl
      · rename_i hk
        exact (back a (st.own a ⟨j, mi⟩) k hk mk).elim
    · rename_i hi
      split at mk
      · rename_i j2 hj2
        exact (back a (st.own a ⟨j2, mk⟩) i hi mi).elim
      · exact s.dj i k a mi mk
  · unfold owB at m
    split at m
    · rename_i j hj
      exact sc.out j a m
    · rename_i hi
      cases q : H01 a with
      | none => rfl
      | some u =>
        rcases st.new a (by rw [q]; exact Option.some_ne_none _) with z | z | z
        · exact absurd (s.out i a m) z
        · exact (s.live m z).elim
        · exact (key i a hi m z).elim
  · obtain ⟨i, m2⟩ := q
    unfold owB at m2
    split at m2
    · rename_i j hj
      exact tf.sep a m ⟨j, m2⟩
    · rename_i hi
      exact back a ((tf.new a m).elim .inr .inl) i hi m2
  · rcases tf.new a m with z | z
    · exact .inl (none_of_liv st1.liv z)
    · exact low a z
theorem goodE_call {n : Nat} {F : List T → Rs T} {ta : TA} {os : List Op} (ga : GoodAs K mg W ta os) (hn : os.length = n) : GoodE K mg W (tCallS (spF K mg n F) (WE W) ta) (mCall F os) := by
  intro σ H H0 e ow Q s h
  refine ga σ H H0 e ow _ s (Is_imp (Is_bnd h) (fun ts e1 _ h1 => ?_) fun _ _ z => z)
  intro vs H1 H01 ow1 fo st1 s1 ag tm
  cases nd : noDup os ts with
  | false => rw [nd] at h1; exact h1.elim
  | true =>
    rw [nd] at h1
    refine ⟨H01, ts, owC os fo ow1, ag.len.2.trans hn, sim_callee s1 ag tm nd, ?_⟩
    have h1 : (match F ts with | .ok t outs => .ok t (putO os ts outs 0 e1) | .err x outs => .err x (putO os ts outs 0 e1) | .bad => .bad : Rs T).Is (KE K mg σ H H0 ow Q) (KX K mg W σ H H0 ow) := h1
    cases q : F ts with
    | bad => rw [q] at h1; exact h1.elim
    | ok t outs =>
      rw [q] at h1
      intro v H2 H02 owc' f st sc o tf
      obtain ⟨b1, b2, b3⟩ := call_back st1 s1 ag tm nd st sc
      exact h1 v H2 H02 _ f b1 b2 o (b3 f tf)
    | err x outs =>
      rw [q] at h1
      intro c dd H2 H02 owc' st sc xr
      obtain ⟨b1, b2, b3⟩ := call_back st1 s1 ag tm nd st sc
      exact h1 c dd H2 H02 _ b1 b2 xr
end
section
variable {X : Cx} {W : WX} {e : Expr} {es : List Expr} {pos : Pos}
theorem pm_call {k : Nat} {x : Str} {ps : List Str} {F : List T → Rs T} {os : List Op} {p : Pos} (tk : Takes X W) (C : Callee X.prog X.w X.K X.mg X.base k x ps F) (hr : Room k X.A) (ha : PAg X W (e :: es) os) (hg : Gl X x := by rfl) (hn : os.length = ps.length := by rfl)
    (hdb : (x == ("__debug__" : Str)) = false := by decide) (he : starEach (e :: es) X.env = (false, eval e X.env) :: starEach es X.env := by rfl) (hpl : (backTo pos (starEach es X.env)).any (·.1) = false := by rfl) :
    PM X W (.Call (.Name x p) (e :: es) [] pos) (mCall F os) := by
  obtain ⟨t, h1, g1⟩ := ha
  obtain ⟨f, fd, hm, hk, hb, G⟩ := C.ex
  exact PM.mk ⟨_, pe_callS G hr hg hm hk hb (fun σ => passAt tk σ) h1 hdb he hpl, goodE_call g1 hn⟩
end
end Pf

set_option Elab.async false
set_option linter.all false
set_option maxRecDepth 100000
/-! Pf5: statements, loops, a def. -/
namespace Pf
open PySem PySem.Spec PyProof.Rows L2

inductive Fl where
  | nx | bk | ct | ret (t : T)
structure Fixd (fx : List Nat) (σ σ' : L2.St) : Prop where
  len : σ'.length = σ.length
  at_ : ∀ j ∈ fx, σ'[j]? = σ[j]?
section
variable (K : PySem.W.Frag) (mg : Str → Option Value)
def KS (fx : List Nat) (σ : L2.St) (H H0 : Hp) (ow : Ow) (D : Ends) (f : Fl) (e' : En) : Prop := match f with
  | .nx => ∀ σ' H' H0' ow', Step H H0 (InO ow) H' H0' (InO ow') → Sim K mg H' H0' σ' e' ow' → Fixd fx σ σ' → D.nx σ' H'
  | .bk => ∀ σ' H' H0' ow', Step H H0 (InO ow) H' H0' (InO ow') → Sim K mg H' H0' σ' e' ow' → Fixd fx σ σ' → D.bk σ' H'
  | .ct => ∀ σ' H' H0' ow', Step H H0 (InO ow) H' H0' (InO ow') → Sim K mg H' H0' σ' e' ow' → Fixd fx σ σ' → D.ct σ' H'
  | .ret t => ∀ σ' v H' H0' ow' f, Step H H0 (InO ow) H' H0' (InO ow') → Sim K mg H' H0' σ' e' ow' → Fixd fx σ σ' → Own K mg H' H0' t v f → Tmp H (InO ow) H0' (InO ow') f → D.rt v H'
def KXs (W : WX) (fx : List Nat) (σ : L2.St) (H H0 : Hp) (ow : Ow) (x : Xn) (e' : En) : Prop :=
  ∀ c dd σ' H' H0' ow', Step H H0 (InO ow) H' H0' (InO ow') → Sim K mg H' H0' σ' e' ow' → Fixd fx σ σ' → XR mg K H' H0' x c dd → W c dd σ' H'
def GoodS (W : WX) (fx : List Nat) (t : TS) (m : Mo Fl) : Prop := ∀ (D : Ends) σ H H0 e ow, Sim K mg H H0 σ e ow → (m e).Is (KS K mg fx σ H H0 ow D) (KXs K mg W fx σ H H0 ow) → t D σ H
def tmS (W : WX) (fx : List Nat) (m : Mo Fl) : TS := fun D σ H => ∃ H0 e ow, Sim K mg H H0 σ e ow ∧ (m e).Is (KS K mg fx σ H H0 ow D) (KXs K mg W fx σ H H0 ow)
end
theorem good_tmS {K : PySem.W.Frag} {mg : Str → Option Value} {W : WX} {fx : List Nat} {m : Mo Fl} : GoodS K mg W fx (tmS K mg W fx m) m := fun _ _ _ _ _ _ s h => ⟨_, _, _, s, h⟩
section
variable (X : Cx) (W : WX) (fx : List Nat)
def PSm (st : Stmt) (m : Mo Fl) : Prop := PS X st (tmS X.K X.mg W fx m)
def PSsm (st : List Stmt) (m : Mo Fl) : Prop := PSs X st (tmS X.K X.mg W fx m)
end
section
variable {X : Cx} {W : WX} {fx : List Nat}
theorem PSm.mk {st : Stmt} {m : Mo Fl} (h : ∃ t, PS X st t ∧ GoodS X.K X.mg W fx t m) : PSm X W fx st m := by
  obtain ⟨t, p, g⟩ := h
  exact ⟨fun pins s σ H D I ⟨H0, e, ow, si, hs⟩ => p.run pins s σ H D I (g D σ H H0 e ow si hs)⟩
theorem PSm.out {st : Stmt} {m : Mo Fl} (h : PSm X W fx st m) : ∃ t, PS X st t ∧ GoodS X.K X.mg W fx t m := ⟨_, h, good_tmS⟩
theorem PSsm.mk {st : List Stmt} {m : Mo Fl} (h : ∃ t, PSs X st t ∧ GoodS X.K X.mg W fx t m) : PSsm X W fx st m := by
  obtain ⟨t, p, g⟩ := h
  exact ⟨fun pins s σ H D I ⟨H0, e, ow, si, hs⟩ => p.run pins s σ H D I (g D σ H H0 e ow si hs)⟩
theorem PSsm.out {st : List Stmt} {m : Mo Fl} (h : PSsm X W fx st m) : ∃ t, PSs X st t ∧ GoodS X.K X.mg W fx t m := ⟨_, h, good_tmS⟩
end
/-! ### mirrors of statements -/
def mNx : Mo Fl := ret .nx
def mSeq (a b : Mo Fl) : Mo Fl := bnd a fun f => match f with
  | .nx => b
  | .bk => ret .bk
  | .ct => ret .ct
  | .ret t => ret (.ret t)
def mAsg (i : Nat) (m : Mo T) : Mo Fl := bnd m fun t e => .ok .nx (e.set i (some t))
def mRet (m : Mo T) : Mo Fl := bnd m fun t => ret (.ret t)
def mRetN : Mo Fl := ret (.ret (.val .non))
def mDrop (m : Mo T) : Mo Fl := bnd m fun _ => ret .nx
def mIfS (c : Mo Bool) (a b : Mo Fl) : Mo Fl := bnd c fun c => match c with
  | true => a
  | false => b
section
variable {K : PySem.W.Frag} {mg : Str → Option Value} {H H0 H1 H01 : Hp} {σ σ1 : L2.St} {e : En} {ow ow1 : Ow} {W : WX} {fx : List Nat} {t u : TS} {te : TE} {tt : TT} {m n : Mo Fl} {me : Mo T} {mm : Mo Bool} {D : Ends}
theorem Fixd.refl : Fixd fx σ σ := ⟨rfl, fun _ _ => rfl⟩
theorem Fixd.trans {σ2 : L2.St} (a : Fixd fx σ σ1) (b : Fixd fx σ1 σ2) : Fixd fx σ σ2 := ⟨b.len.trans a.len, fun j m => (b.at_ j m).trans (a.at_ j m)⟩
theorem KS.pull {f : Fl} (st : Step H H0 (InO ow) H1 H01 (InO ow1)) (fi : Fixd fx σ σ1) (k : KS K mg fx σ H H0 ow D f e) : KS K mg fx σ1 H1 H01 ow1 D f e := by
  cases f with
  | nx => exact fun σ' H' H0' ow' a b c => k σ' H' H0' ow' (st.trans a) b (fi.trans c)
  | bk => exact fun σ' H' H0' ow' a b c => k σ' H' H0' ow' (st.trans a) b (fi.trans c)
  | ct => exact fun σ' H' H0' ow' a b c => k σ' H' H0' ow' (st.trans a) b (fi.trans c)
  | ret t => exact fun σ' v H' H0' ow' f a b c d g => k σ' v H' H0' ow' f (st.trans a) b (fi.trans c) d (Tmp.pull st g)
theorem KXs.pull {x : Xn} (st : Step H H0 (InO ow) H1 H01 (InO ow1)) (fi : Fixd fx σ σ1) (k : KXs K mg W fx σ H H0 ow x e) : KXs K mg W fx σ1 H1 H01 ow1 x e :=
  fun c dd σ' H' H0' ow' a b d g => k c dd σ' H' H0' ow' (st.trans a) b (fi.trans d) g
theorem KXs.ex {x : Xn} (k : KXs K mg W fx σ H H0 ow x e) : KX K mg W σ H H0 ow x e := fun c dd H' H0' ow' a b d => k c dd σ H' H0' ow' a b Fixd.refl d
theorem goodS_nx : GoodS K mg W fx tNext mNx := fun D σ H H0 e ow s h => h σ H H0 ow Step.refl s Fixd.refl
theorem goodS_bk : GoodS K mg W fx tBreak (ret .bk) := fun D σ H H0 e ow s h => h σ H H0 ow Step.refl s Fixd.refl
theorem goodS_ct : GoodS K mg W fx tCont (ret .ct) := fun D σ H H0 e ow s h => h σ H H0 ow Step.refl s Fixd.refl
theorem goodS_retN : GoodS K mg W fx tRetN mRetN := fun D σ H H0 e ow s h => h σ .non H H0 ow [] Step.refl s Fixd.refl ⟨rfl, rfl⟩ ⟨List.nodup_nil, fun _ m => (nomatch m), fun _ m => (nomatch m), fun _ m => (nomatch m)⟩
theorem goodS_seq (g : GoodS K mg W fx t m) (g2 : GoodS K mg W fx u n) : GoodS K mg W fx (tSeq t u) (mSeq m n) := by
  intro D σ H H0 e ow s h
  refine g { D with nx := u D } σ H H0 e ow s (Is_imp (Is_bnd h) (fun f e1 _ h1 => ?_) fun _ _ z => z)
  cases f with
  | nx => exact fun σ' H' H0' ow' st s' fi => g2 D σ' H' H0' e1 ow' s' (Is_imp h1 (fun _ _ _ z => KS.pull st fi z) fun _ _ z => KXs.pull st fi z)
  | bk => exact h1
  | ct => exact h1
  | ret t => exact h1
theorem goodS_if (gc : GoodT K mg W tt mm) (g : GoodS K mg W fx t m) (g2 : GoodS K mg W fx u n) : GoodS K mg W fx (tIfS tt t u) (mIfS mm m n) := by
  intro D σ H H0 e ow s h
  refine gc σ H H0 e ow _ s (Is_imp (Is_bnd h) (fun b e1 _ h1 => ?_) fun _ _ z => KXs.ex z)
  intro H1 H01 ow1 st s1
  cases b with
  | true =>
    show t D σ H1
    exact g D σ H1 H01 e1 ow1 s1 (Is_imp h1 (fun _ _ _ z => KS.pull st Fixd.refl z) fun _ _ z => KXs.pull st Fixd.refl z)
  | false =>
    show u D σ H1
    exact g2 D σ H1 H01 e1 ow1 s1 (Is_imp h1 (fun _ _ _ z => KS.pull st Fixd.refl z) fun _ _ z => KXs.pull st Fixd.refl z)
theorem goodS_drop (g : GoodE K mg W te me) : GoodS K mg W fx (tDrop te) (mDrop me) := by
  intro D σ H H0 e ow s h
  refine g σ H H0 e ow _ s (Is_imp (Is_bnd h) (fun b e1 _ h1 => ?_) fun _ _ z => KXs.ex z)
  exact fun v H1 H01 ow1 f st s1 o tm => h1 σ H1 H01 ow1 st s1 Fixd.refl
theorem goodS_ret (g : GoodE K mg W te me) : GoodS K mg W fx (tRet te) (mRet me) := by
  intro D σ H H0 e ow s h
  refine g σ H H0 e ow _ s (Is_imp (Is_bnd h) (fun b e1 _ h1 => ?_) fun _ _ z => KXs.ex z)
  exact fun v H1 H01 ow1 f st s1 o tm => h1 σ v H1 H01 ow1 f st s1 Fixd.refl o tm
theorem step_set {P : Addr → Prop} {i : Nat} {f g : List Addr} (hf : ∀ a ∈ f, H a = none ∨ P a) (st : Step H H0 P H1 H01 (InO ow)) (hg : ∀ a ∈ g, a ∈ f) : Step H H0 P H1 H01 (InO (setO ow i g)) := ⟨st.fro, st.oth, st.new, fun b ⟨j, m⟩ => by
  by_cases z : j = i
  · rw [z, setO_same] at m
    exact (hf b (hg b m)).elim .inr .inl
  · rw [setO_ne z] at m
    exact st.own b ⟨j, m⟩, st.liv⟩
theorem fix_set {i : Nat} {x : Option V} (h : i ∉ fx) : Fixd fx σ (σ.set i x) := ⟨List.length_set, fun j m => List.getElem?_set_ne fun z => h (by rw [z]; exact m)⟩
theorem goodS_asg {i : Nat} (g : GoodE K mg W te me) (hi : i ∉ fx) : GoodS K mg W fx (tAsg te (gName i)) (mAsg i me) := by
  intro D σ H H0 e ow s h
  refine g σ H H0 e ow _ s (Is_imp (Is_bnd h) (fun b e1 _ h1 => ?_) fun _ _ z => KXs.ex z)
  intro v H1 H01 ow1 f st s1 o tm
  have s2 := s1.set (i := i) (x := some b) (v := v) (f := f) H01 s1.sub (Same.refl _) (fun t et => by cases et; exact o) (fun z => nomatch z) tm.nd (fun a m j _ q => tm.sep a m ⟨j, q⟩) tm.out (fun j _ a m => s1.out j a m)
  refine h1 (σ.set i (some v)) H1 H01 _ (step_set tm.new st fun a m => ?_) s2 (fix_set hi)
  split at m
  · exact m
  · cases m
end
section
variable {X : Cx} {W : WX} {fx : List Nat} {st : Stmt} {rest a b : List Stmt} {e c : Expr} {m n : Mo Fl} {me : Mo T} {mm : Mo Bool} {pos : Pos}
theorem psm_nil : PSsm X W fx [] mNx := PSsm.mk ⟨_, pss_nil, goodS_nx⟩
theorem psm_one (h : PSm X W fx st m) : PSsm X W fx [st] m := by
  obtain ⟨t, p, g⟩ := h.out
  exact PSsm.mk ⟨_, pss_one p, g⟩
theorem psm_cons (h : PSm X W fx st m) (h2 : PSsm X W fx rest n) : PSsm X W fx (st :: rest) (mSeq m n) := by
  obtain ⟨t, p, g⟩ := h.out
  obtain ⟨t2, p2, g2⟩ := h2.out
  exact PSsm.mk ⟨_, pss_cons p p2, goodS_seq g g2⟩
theorem psm_pass : PSm X W fx (.Pass pos) mNx := PSm.mk ⟨_, ps_pass, goodS_nx⟩
theorem psm_break : PSm X W fx (.Break pos) (ret .bk) := PSm.mk ⟨_, ps_break, goodS_bk⟩
theorem psm_cont : PSm X W fx (.Continue pos) (ret .ct) := PSm.mk ⟨_, ps_continue, goodS_ct⟩
theorem psm_expr (h : PM X W e me) (hs : swapsWith e none pos.line X.env = pure false := by rfl) : PSm X W fx (.Expr e pos) (mDrop me) := by
  obtain ⟨t, p, g⟩ := h.out
  exact PSm.mk ⟨_, ps_expr p hs, goodS_drop g⟩
theorem psm_ret (h : PM X W e me) : PSm X W fx (.Return (some e) pos) (mRet me) := by
  obtain ⟨t, p, g⟩ := h.out
  exact PSm.mk ⟨_, ps_ret p, goodS_ret g⟩
theorem psm_retN : PSm X W fx (.Return none pos) mRetN := PSm.mk ⟨_, ps_retN, goodS_retN⟩
theorem psm_if (hc : PB X W c mm) (h : PSsm X W fx a m) (h2 : PSsm X W fx b n) : PSm X W fx (.If c a b pos) (mIfS mm m n) := by
  obtain ⟨t0, p0, g0⟩ := hc.out
  obtain ⟨t, p, g⟩ := h.out
  obtain ⟨t2, p2, g2⟩ := h2.out
  exact PSm.mk ⟨_, ps_if p0 p p2, goodS_if g0 g g2⟩
theorem psm_set (i : Nat) {x : Str} {pos' : Pos} (hN : X.N.Nodup) (he : PM X W e me) (hi : X.N[i]? = some x := by rfl) (hx : Loc X.env.scope x := by first | exact Or.inl rfl | exact Or.inr rfl) (hf : i ∉ fx := by decide) (hs : swapsWith e (some (.Name x pos')) pos.line X.env = pure false := by rfl)
    (hfn : X.fn x = true ∨ X.env.scope.names.lookup x = some .local := by first | exact .inl rfl | exact .inr rfl) : PSm X W fx (.Assign [.Name x pos'] e pos) (mAsg i me) := by
  obtain ⟨t, p, g⟩ := he.out
  exact PSm.mk ⟨_, ps_set hN hi hx p hs hfn, goodS_asg g hf⟩
end

/-! ### targets -/
section
variable (K : PySem.W.Frag) (mg : Str → Option Value)
def KG (fx : List Nat) (σ : L2.St) (H H0 : Hp) (ow : Ow) (Q : L2.St → Hp → Prop) (e' : En) : Prop := ∀ σ' ow', Step H H0 (InO ow) H H0 (InO ow') → Sim K mg H H0 σ' e' ow' → Fixd fx σ σ' → Q σ' H
def GoodG (fx : List Nat) (g : TG) (m : D → Mo Unit) : Prop := ∀ d v σ H H0 e ow Q Xp, Sim K mg H H0 σ e ow → Rep K mg H0 d v → (m d e).Is (fun _ e' => KG K mg fx σ H H0 ow Q e') Xp → g v σ H Q
def GoodGs (fx : List Nat) (g : TGs) (m : List D → Mo Unit) : Prop := ∀ ds vs σ H H0 e ow Q Xp, Sim K mg H H0 σ e ow → Reps K mg H0 ds vs → (m ds e).Is (fun _ e' => KG K mg fx σ H H0 ow Q e') Xp → g vs σ H Q
end
def mgN (i : Nat) : D → Mo Unit := fun d e => .ok () (e.set i (some (.val d)))
def mgNil : List D → Mo Unit
  | [] => ret ()
  | _ :: _ => fail
def mgCons (a : D → Mo Unit) (b : List D → Mo Unit) : List D → Mo Unit
  | [] => fail
  | d :: ds => bnd (a d) fun _ => b ds
def mgT (n : Nat) (b : List D → Mo Unit) : D → Mo Unit
  | .tup ds => if ds.length = n then b ds else fail
  | _ => fail
def mAsgG (g : D → Mo Unit) (m : Mo T) : Mo Fl := bnd m fun t => match t with
  | .val d => bnd (g d) fun _ => ret .nx
  | _ => fail
section
variable {K : PySem.W.Frag} {mg : Str → Option Value} {H H0 H1 H01 : Hp} {σ σ1 : L2.St} {e : En} {ow ow1 : Ow} {W : WX} {fx : List Nat} {te : TE} {me : Mo T}
theorem KG.pull {Q : L2.St → Hp → Prop} (st : Step H H0 (InO ow) H H0 (InO ow1)) (fi : Fixd fx σ σ1) (k : KG K mg fx σ H H0 ow Q e) : KG K mg fx σ1 H H0 ow1 Q e := fun σ' ow' a b c => k σ' ow' (st.trans a) b (fi.trans c)
theorem goodG_name {i : Nat} (hi : i ∉ fx) : GoodG K mg fx (gName i) (mgN i) := by
  intro d v σ H H0 e ow Q Xp s r h
  have s2 := s.set (i := i) (x := some (.val d)) (v := v) (f := []) H0 s.sub (Same.refl _) (fun t et => by cases et; exact ⟨rfl, r⟩) (fun z => nomatch z) List.nodup_nil (fun _ m => (nomatch m)) (fun _ m => (nomatch m)) (fun j _ a m => s.out j a m)
  refine h (σ.set i (some v)) _ (step_set (f := []) (fun _ m => (nomatch m)) Step.refl fun a m => ?_) s2 (fix_set hi)
  split at m <;> exact m
theorem goodGs_nil : GoodGs K mg fx gNil mgNil := by
  intro ds vs σ H H0 e ow Q Xp s r h
  cases ds with
  | nil => exact ⟨r, h σ ow Step.refl s Fixd.refl⟩
  | cons d ds => exact h.elim
theorem goodGs_cons {g : TG} {gs : TGs} {m : D → Mo Unit} {ms : List D → Mo Unit} (h1 : GoodG K mg fx g m) (h2 : GoodGs K mg fx gs ms) : GoodGs K mg fx (gCons g gs) (mgCons m ms) := by
  intro ds vs σ H H0 e ow Q Xp s r h
  cases ds with
  | nil => exact h.elim
  | cons d ds =>
    obtain ⟨v, ws, ev, rd, rr⟩ := r
    refine ⟨v, ws, ev, h1 d v σ H H0 e ow _ _ s rd (Is_imp (Is_bnd h) (fun _ e1 _ z => ?_) fun _ _ z => z)⟩
    intro σ1 ow1 st s1 fi
    exact h2 ds ws σ1 H H0 e1 ow1 Q _ s1 rr (Is_imp z (fun _ _ _ z => KG.pull st fi z) fun _ _ z => z)
theorem goodG_tup {n : Nat} {gs : TGs} {ms : List D → Mo Unit} (h2 : GoodGs K mg fx gs ms) : GoodG K mg fx (gTup K n gs) (mgT n ms) := by
  intro d v σ H H0 e ow Q Xp s r h
  unfold mgT at h
  split at h
  · obtain ⟨a, vs, ev, sq, rr⟩ := r
    split at h
    · rename_i ds hl
      exact ⟨a, vs, ev, Same.tup s.sub sq, by rw [rr.len]; exact hl, h2 _ vs σ H H0 e ow Q _ s rr h⟩
    · exact h.elim
  · exact h.elim
theorem goodS_asgG {g : TG} {gm : D → Mo Unit} (he : GoodE K mg W te me) (hg : GoodG K mg fx g gm) : GoodS K mg W fx (tAsg te g) (mAsgG gm me) := by
  intro D σ H H0 e ow s h
  refine he σ H H0 e ow _ s (Is_imp (Is_bnd h) (fun t e1 _ h1 => ?_) fun _ _ z => KXs.ex z)
  intro v H1 H01 ow1 f st s1 o tm
  cases t with
  | val d =>
    refine hg d v σ H1 H01 e1 ow1 D.nx _ s1 o.2 (Is_imp (Is_bnd h1) (fun _ e2 _ z => ?_) fun _ _ z => z)
    exact fun σ' ow' st' s' fi => z σ' H1 H01 ow' (st.trans st') s' fi
  | _ => exact h1.elim
end
section
variable (X : Cx) (fx : List Nat)
def tmG (K : PySem.W.Frag) (mg : Str → Option Value) (fx : List Nat) (m : D → Mo Unit) : TG := fun v σ H Q => ∃ d H0 e ow Xp, Sim K mg H H0 σ e ow ∧ Rep K mg H0 d v ∧ (m d e).Is (fun _ e' => KG K mg fx σ H H0 ow Q e') Xp
theorem good_tmG {K : PySem.W.Frag} {mg : Str → Option Value} {fx : List Nat} {m : D → Mo Unit} : GoodG K mg fx (tmG K mg fx m) m := fun _ _ _ _ _ _ _ _ Xp s r h => ⟨_, _, _, _, Xp, s, r, h⟩
def PGm (tg : Expr) (m : D → Mo Unit) : Prop := PG X tg (tmG X.K X.mg fx m)
def PGsm (ts : List Expr) (m : List D → Mo Unit) : Prop := ∃ g, PGs X ts g ∧ GoodGs X.K X.mg fx g m
end
section
variable {X : Cx} {W : WX} {fx : List Nat} {e : Expr} {es : List Expr} {pos : Pos} {me : Mo T} {m : D → Mo Unit} {ms : List D → Mo Unit}
theorem PGm.mk (h : ∃ g, PG X e g ∧ GoodG X.K X.mg fx g m) : PGm X fx e m := by
  obtain ⟨g, p, q⟩ := h
  exact ⟨fun pins s σ H v u Q I r ⟨d, H0, e, ow, Xp, si, rp, hs⟩ => p.run pins s σ H v u Q I r (q d v σ H H0 e ow Q Xp si rp hs)⟩
theorem PGm.out (h : PGm X fx e m) : ∃ g, PG X e g ∧ GoodG X.K X.mg fx g m := ⟨_, h, good_tmG⟩
theorem pgm_name (i : Nat) {x : Str} (hN : X.N.Nodup) (hi : X.N[i]? = some x := by rfl) (hx : Loc X.env.scope x := by first | exact Or.inl rfl | exact Or.inr rfl) (hf : i ∉ fx := by decide)
    (hfn : X.fn x = true ∨ X.env.scope.names.lookup x = some .local := by first | exact .inl rfl | exact .inr rfl) : PGm X fx (.Name x pos) (mgN i) := PGm.mk ⟨_, pg_name hN hi hx hfn, goodG_name hf⟩
theorem pgsm_nil : PGsm X fx [] mgNil := ⟨_, pgs_nil, goodGs_nil⟩
theorem pgsm_cons (h1 : PGm X fx e m) (h2 : PGsm X fx es ms) (hs : (assignEach (e :: es) X.env).map (·.2) = assign e X.env :: (assignEach es X.env).map (·.2) := by rfl) : PGsm X fx (e :: es) (mgCons m ms) := by
  obtain ⟨g1, p1, q1⟩ := h1.out
  obtain ⟨g2, p2, q2⟩ := h2
  exact ⟨_, pgs_cons p1 p2 hs, goodGs_cons q1 q2⟩
theorem pgm_tup {k n : Nat} (h : PGsm X fx es ms) (hc : X.calm = true := by rfl) (hn : (assignEach es X.env).length = n := by rfl) (hst : (assignEach es X.env).findIdx? (·.1) = none := by rfl) : PGm X fx (.Tuple es k pos) (mgT n ms) := by
  obtain ⟨g, p, q⟩ := h
  exact PGm.mk ⟨_, pg_tup hc p hn hst, goodG_tup q⟩
theorem psm_asg {tg : Expr} (he : PM X W e me) (hg : PGm X fx tg m) (hs : swapsWithSole [tg] e pos.line X.env = pure false := by rfl) (hw : swappedStores [tg] e X.env = pure none := by rfl)
    (h1 : (assignEach [tg] X.env).map (·.2) = [assign tg X.env] := by rfl) : PSm X W fx (.Assign [tg] e pos) (mAsgG m me) := by
  obtain ⟨t, p, g⟩ := he.out
  obtain ⟨tg', pg, gg⟩ := hg.out
  exact PSm.mk ⟨_, ps_asg p pg hs hw h1, goodS_asgG g gg⟩
end

/-! ### what is walked -/
structure Src where
  ds : List D
  inv : En → Prop
open Classical in
noncomputable def chk (p : En → Prop) : Mo Unit := fun e => if p e then .ok () e else .bad
theorem chk_is {p : En → Prop} {e : En} {P : Unit → En → Prop} {Xp : Xn → En → Prop} (h : (chk p e).Is P Xp) : p e ∧ P () e := by
  unfold chk at h
  split at h
  · rename_i q
    exact ⟨q, h⟩
  · exact h.elim
noncomputable def forL (inv : En → Prop) (g : D → Mo Unit) (b : Mo Fl) : List D → Mo Fl
  | [] => bnd (chk inv) fun _ => ret .nx
  | d :: ds => bnd (chk inv) fun _ => bnd (g d) fun _ => bnd b fun f => match f with
    | .nx => forL inv g b ds
    | .ct => forL inv g b ds
    | .bk => ret .nx
    | .ret t => ret (.ret t)
noncomputable def mFor (ms : Mo Src) (g : D → Mo Unit) (b : Mo Fl) : Mo Fl := bnd ms fun S => forL S.inv g b S.ds
section
variable (K : PySem.W.Frag) (mg : Str → Option Value)
/-- from the base on the items come, one after another -/
def Walks (ix : List Nat) (σ : L2.St) (H1 H01 : Hp) (ow1 : Ow) (J : It) (S : Src) : Prop :=
  ∀ σ' e H2 H02 ow2, Step H1 H01 (InO ow1) H2 H02 (InO ow2) → Sim K mg H2 H02 σ' e ow2 → S.inv e → Fixd ix σ σ' →
    (∀ i d, S.ds[i]? = some d → J.go i H2 ∧ ∀ x H', J.yld i H2 x H' → ∃ H02', Gro H2 H02 H' H02' ∧ Rep K mg H02' d x) ∧ J.stop S.ds.length H2
def KI (ix : List Nat) (σ : L2.St) (H H0 : Hp) (ow : Ow) (R : It → Hp → Prop) (S : Src) (e' : En) : Prop :=
  ∀ H1 H01 ow1 J, Step H H0 (InO ow) H1 H01 (InO ow1) → Sim K mg H1 H01 σ e' ow1 → Walks K mg ix σ H1 H01 ow1 J S → R J H1
def GoodI (W : WX) (ix : List Nat) (wi : TI) (ms : Mo Src) : Prop := ∀ σ H H0 e ow R, Sim K mg H H0 σ e ow → (ms e).Is (KI K mg ix σ H H0 ow R) (KX K mg W σ H H0 ow) → wi σ H R
end
section
variable {K : PySem.W.Frag} {mg : Str → Option Value} {H H0 H1 H01 : Hp} {σ σ1 : L2.St} {e : En} {ow ow1 : Ow} {W : WX} {fx ix : List Nat} {te : TE} {me : Mo T}
theorem Fixd.left (h : Fixd (ix ++ fx) σ σ1) : Fixd ix σ σ1 := ⟨h.len, fun j m => h.at_ j (List.mem_append_left _ m)⟩
theorem Fixd.right (h : Fixd (ix ++ fx) σ σ1) : Fixd fx σ σ1 := ⟨h.len, fun j m => h.at_ j (List.mem_append_right _ m)⟩
theorem KXs.more {x : Xn} (k : KXs K mg W fx σ H H0 ow x e) : KXs K mg W (ix ++ fx) σ H H0 ow x e := fun c dd σ' H' H0' ow' a b f g => k c dd σ' H' H0' ow' a b f.right g
theorem goodS_for {wi : TI} {ms : Mo Src} {g : TG} {gm : D → Mo Unit} {tb : TS} {b : Mo Fl} (gi : GoodI K mg W ix wi ms) (gg : GoodG K mg (ix ++ fx) g gm) (gb : GoodS K mg W (ix ++ fx) tb b) : GoodS K mg W fx (tFor wi g tb) (mFor ms gm b) := by
  intro D σ H H0 e ow s h
  refine gi σ H H0 e ow _ s (Is_imp (Is_bnd h) (fun S e1 _ h1 => ?_) fun _ _ z => KXs.ex z)
  intro H1 H01 ow1 J st1 s1 wk
  have h1' : (forL S.inv gm b S.ds e1).Is (KS K mg fx σ H1 H01 ow1 D) (KXs K mg W fx σ H1 H01 ow1) := Is_imp h1 (fun _ _ _ z => KS.pull st1 Fixd.refl z) fun _ _ z => KXs.pull st1 Fixd.refl z
  refine ⟨fun i m σ' H' => ∃ e' H0' ow', m = S.ds.length - i ∧ i ≤ S.ds.length ∧ Step H1 H01 (InO ow1) H' H0' (InO ow') ∧ Sim K mg H' H0' σ' e' ow' ∧ Fixd (ix ++ fx) σ σ' ∧
    (forL S.inv gm b (S.ds.drop i) e').Is (KS K mg fx σ H1 H01 ow1 D) (KXs K mg W fx σ H1 H01 ow1), ⟨_, e1, H01, ow1, rfl, Nat.zero_le _, Step.refl, s1, Fixd.refl, h1'⟩, ?_⟩
  rintro i m σ' H' ⟨e', H0', ow', rfl, hi, st, si, fi, hf⟩
  by_cases hlt : i < S.ds.length
  · rw [List.drop_eq_getElem_cons hlt] at hf
    obtain ⟨hinv, hf⟩ := chk_is (Is_bnd (show (bnd (chk S.inv) _ e').Is _ _ from hf))
    obtain ⟨w1, _⟩ := wk σ' e' H' H0' ow' st si hinv fi.left
    obtain ⟨go, yl⟩ := w1 i S.ds[i] (List.getElem?_eq_getElem hlt)
    refine .inr ⟨go, fun σ2 H2 => ∃ e2 H02 ow2, Step H1 H01 (InO ow1) H2 H02 (InO ow2) ∧ Sim K mg H2 H02 σ2 e2 ow2 ∧ Fixd (ix ++ fx) σ σ2 ∧
      (forL S.inv gm b (S.ds.drop (i + 1)) e2).Is (KS K mg fx σ H1 H01 ow1 D) (KXs K mg W fx σ H1 H01 ow1), fun σ2 H2 ⟨e2, H02, ow2, a1, a2, a3, a4⟩ => ⟨S.ds.length - (i + 1), by omega, e2, H02, ow2, rfl, by omega, a1, a2, a3, a4⟩, fun x Hy hy => ?_⟩
    obtain ⟨H0y, gro, rep⟩ := yl x Hy hy
    have sy := si.gro gro
    have sty : Step H1 H01 (InO ow1) Hy H0y (InO ow') := st.trans gro.step
    refine gg _ x σ' Hy H0y e' ow' _ _ sy rep (Is_imp (Is_bnd hf) (fun _ e2 _ z => ?_) fun _ _ z => z)
    intro σ2 ow2 st2 s2 fi2
    have tot := sty.trans st2
    have fit := fi.trans fi2
    refine gb _ σ2 Hy H0y e2 ow2 s2 (Is_imp (Is_bnd z) (fun f e3 _ y => ?_) fun _ _ y => KXs.more (KXs.pull tot fit.right y))
    cases f with
    | nx => exact fun σ3 H3 H03 ow3 st3 s3 fi3 => ⟨e3, H03, ow3, tot.trans st3, s3, fit.trans fi3, y⟩
    | ct => exact fun σ3 H3 H03 ow3 st3 s3 fi3 => ⟨e3, H03, ow3, tot.trans st3, s3, fit.trans fi3, y⟩
    | bk => exact fun σ3 H3 H03 ow3 st3 s3 fi3 => y σ3 H3 H03 ow3 (tot.trans st3) s3 (fit.trans fi3).right
    | ret t => exact fun σ3 v H3 H03 ow3 f st3 s3 fi3 o tm => y σ3 v H3 H03 ow3 f (tot.trans st3) s3 (fit.trans fi3).right o (Tmp.pull tot tm)
  · have ei : i = S.ds.length := by omega
    subst ei
    rw [List.drop_length] at hf
    obtain ⟨hinv, hf⟩ := chk_is (Is_bnd (show (bnd (chk S.inv) _ e').Is _ _ from hf))
    obtain ⟨_, w2⟩ := wk σ' e' H' H0' ow' st si hinv fi.left
    exact .inl ⟨w2, hf σ' H' H0' ow' st si fi.right⟩

/-! ### sources -/
def T.itemsL (t : T) : Option (List D) := match t.peek with
  | some (.lst ds) => some ds
  | some (.rol ds) => some ds
  | _ => none
def T.itemsT : T → Option (List D)
  | .val (.tup ds) => some ds
  | _ => none
def T.items (t : T) : Option (List D) := match t.itemsL with
  | some ds => some ds
  | none => t.itemsT
def mSeqS : Op → Mo Src
  | .nm i => bnd (getS i) fun t => match t.items with
    | some ds => ret ⟨ds, fun e => e[i]? = some (some t)⟩
    | none => fail
  | .ex m => bnd m fun t => match t.items with
    | some ds => ret ⟨ds, fun _ => True⟩
    | none => fail
def ixO : Op → List Nat
  | .nm i => [i]
  | .ex _ => []
def iAny (K : PySem.W.Frag) (tl : TE) : TI := fun σ H R => tl σ H fun x H1 => ∃ a, x = .ref a ∧ (((∃ xs, SqL K H1 a xs) ∧ R (Itl K a) H1) ∨ ((∃ xs, SqT K H1 a xs) ∧ R (Itt K a) H1))
theorem pi_any {X : Cx} {tg l : Expr} {tl : TE} (hl : PE X l tl) : PI X tg l (iAny X.K tl) := by
  refine ⟨fun pins s σ H R I h => ?_⟩
  refine thn (hl.run pins s σ H _ I h) fun v s1 ⟨x, H1, I1, r1, q1⟩ => ?_
  obtain ⟨a, e, q⟩ := q1
  subst e
  have ev : v = Value.ref a := r1
  subst ev
  have hc : PE X.nox l tl → True := fun _ => trivial
  rcases q with ⟨⟨xs, hq⟩, q⟩ | ⟨⟨xs, hq⟩, q⟩
  · obtain ⟨its, rv, p, hz⟩ := I1.list hq
    refine wpAny_pyIter_list p.isList ?_
    refine ⟨s1.heap.objs.size, [s1.heap.objs.size], _, _, H1, rfl, I1.kept (t' := s1.toks) fun b o e => Heap.get?_push_of_some _ e, turn_list a _, ⟨_, Heap.get?_push_size _ rfl, rfl, rfl⟩, fun b hb => ?_, q⟩
    have e : b = s1.heap.objs.size := by simpa using hb
    subst e
    exact I1.fpOk (Nat.le_refl _) (I1.hok.fresh (Nat.le_refl _))
  · obtain ⟨its, rv, p, hz⟩ := I1.tuple hq
    refine wpAny_pyIter_tuple (show s1.heap.IsTuple a its.toArray from p) ?_
    refine ⟨s1.heap.objs.size, [s1.heap.objs.size], _, _, H1, rfl, I1.kept (t' := s1.toks) fun b o e => Heap.get?_push_of_some _ e, turn_tuple a _, ⟨_, Heap.get?_push_size _ rfl, rfl, rfl⟩, fun b hb => ?_, q⟩
    have e : b = s1.heap.objs.size := by simpa using hb
    subst e
    exact I1.fpOk (Nat.le_refl _) (I1.hok.fresh (Nat.le_refl _))
theorem reps_get : ∀ {ds : List D} {vs : List V} {i : Nat} {d : D}, Reps K mg H0 ds vs → ds[i]? = some d → ∃ v, vs[i]? = some v ∧ Rep K mg H0 d v
  | [], _, _, _, _, h => by simp at h
  | d :: ds, _, 0, d', ⟨v, ws, e, r, _⟩, h => by
    subst e
    have : d = d' := by simpa using h
    subst this
    exact ⟨v, rfl, r⟩
  | d :: ds, _, i + 1, d', ⟨v, ws, e, _, r⟩, h => by
    subst e
    exact reps_get (ds := ds) (i := i) r (by simpa using h)
theorem itemsL_at (s : Same H0 H) {t : T} {ds : List D} {v : V} {f : List Addr} (o : Own K mg H H0 t v f) (h : t.itemsL = some ds) : ∃ a vs, v = .ref a ∧ SqL K H a vs ∧ Reps K mg H0 ds vs := by
  unfold T.itemsL at h
  cases q : t.peek with
  | none => rw [q] at h; cases h
  | some d =>
    rw [q] at h
    have r := o.peek s q
    cases d with
    | lst ds' =>
      cases h
      obtain ⟨a, vs, e, h1, h2⟩ := r
      exact ⟨a, vs, e, SqL.of h1, h2⟩
    | rol ds' =>
      cases h
      obtain ⟨a, vs, e, h1, h2⟩ := r
      exact ⟨a, vs, e, s.seq h1, h2⟩
    | _ => cases h
theorem itemsT_at (s : Same H0 H) {t : T} {ds : List D} {v : V} {f : List Addr} (o : Own K mg H H0 t v f) (h : t.itemsT = some ds) : ∃ a vs, v = .ref a ∧ SqT K H a vs ∧ Reps K mg H0 ds vs := by
  unfold T.itemsT at h
  split at h
  · cases h
    obtain ⟨_, a, vs, e, h1, h2⟩ := o
    exact ⟨a, vs, e, Same.tup s h1, h2⟩
  · cases h
theorem items_or {t : T} {ds : List D} (h : t.items = some ds) : t.itemsL = some ds ∨ t.itemsT = some ds := by
  unfold T.items at h
  cases q : t.itemsL with
  | some d => rw [q] at h; exact .inl h
  | none => rw [q] at h; exact .inr h
theorem walk_l {a : Addr} {ds : List D} {vs : List V} (h : SqL K H a vs) (r : Reps K mg H0 ds vs) (s : Same H0 H) : (∀ i d, ds[i]? = some d → (Itl K a).go i H ∧ ∀ x H', (Itl K a).yld i H x H' → ∃ H02', Gro H H0 H' H02' ∧ Rep K mg H02' d x) ∧ (Itl K a).stop ds.length H :=
  ⟨fun i d hd => by
    obtain ⟨v, hv, rv⟩ := reps_get r hd
    refine ⟨⟨vs, v, h, hv⟩, fun x H' ⟨e, y⟩ => ?_⟩
    subst e
    have ex : v = x := Option.some.inj (hv.symm.trans (y vs h))
    subst ex
    exact ⟨H0, Gro.refl s, rv⟩, ⟨vs, h, by rw [r.len]; exact Nat.le_refl _⟩⟩
theorem walk_t {a : Addr} {ds : List D} {vs : List V} (h : SqT K H a vs) (r : Reps K mg H0 ds vs) (s : Same H0 H) : (∀ i d, ds[i]? = some d → (Itt K a).go i H ∧ ∀ x H', (Itt K a).yld i H x H' → ∃ H02', Gro H H0 H' H02' ∧ Rep K mg H02' d x) ∧ (Itt K a).stop ds.length H :=
  ⟨fun i d hd => by
    obtain ⟨v, hv, rv⟩ := reps_get r hd
    refine ⟨⟨vs, v, h, hv⟩, fun x H' ⟨e, y⟩ => ?_⟩
    subst e
    have ex : v = x := Option.some.inj (hv.symm.trans (y vs h))
    subst ex
    exact ⟨H0, Gro.refl s, rv⟩, ⟨vs, h, by rw [r.len]; exact Nat.le_refl _⟩⟩
/-- a thing at v that stays: its items are walked -/
theorem seq_start {ix : List Nat} {t : T} {ds : List D} {v : V} {f : List Addr} {S : Src} {R : It → Hp → Prop} (h : t.items = some ds) (s : Sim K mg H H0 σ e ow) (o : Own K mg H H0 t v f) (eS : S.ds = ds)
    (later : ∀ {σ' : L2.St} {e' : En} {H2 H02 : Hp} {ow2 : Ow}, Step H H0 (InO ow) H2 H02 (InO ow2) → Sim K mg H2 H02 σ' e' ow2 → S.inv e' → Fixd ix σ σ' → ∃ f', Own K mg H2 H02 t v f')
    (k : ∀ J, Walks K mg ix σ H H0 ow J S → R J H) : ∃ a, v = .ref a ∧ (((∃ xs, SqL K H a xs) ∧ R (Itl K a) H) ∨ ((∃ xs, SqT K H a xs) ∧ R (Itt K a) H)) := by
  rcases items_or h with q | q
  · obtain ⟨a, vs, ev, h1, _⟩ := itemsL_at s.sub o q
    refine ⟨a, ev, .inl ⟨⟨vs, h1⟩, k _ fun σ' e' H2 H02 ow2 st2 s2 iv fi => ?_⟩⟩
    obtain ⟨f', o'⟩ := later st2 s2 iv fi
    obtain ⟨b, ws, ev2, h3, h4⟩ := itemsL_at s2.sub o' q
    rw [ev] at ev2
    cases ev2
    rw [eS]
    exact walk_l h3 h4 s2.sub
  · obtain ⟨a, vs, ev, h1, _⟩ := itemsT_at s.sub o q
    refine ⟨a, ev, .inr ⟨⟨vs, h1⟩, k _ fun σ' e' H2 H02 ow2 st2 s2 iv fi => ?_⟩⟩
    obtain ⟨f', o'⟩ := later st2 s2 iv fi
    obtain ⟨b, ws, ev2, h3, h4⟩ := itemsT_at s2.sub o' q
    rw [ev] at ev2
    cases ev2
    rw [eS]
    exact walk_t h3 h4 s2.sub
theorem goodI_seq {tl : TE} {o : Op} (g : GoodO K mg W tl o) : GoodI K mg W (ixO o) (iAny K tl) (mSeqS o) := by
  intro σ H H0 e ow R s h
  cases o with
  | ex m =>
    refine g σ H H0 e ow _ s (Is_imp (Is_bnd h) (fun t e1 _ h1 => ?_) fun _ _ z => z)
    intro v H1 H01 ow1 f st s1 o tm
    cases q : t.items with
    | none => rw [q] at h1; exact h1.elim
    | some ds =>
      rw [q] at h1
      exact seq_start q s1 o rfl (fun st2 _ _ _ => ⟨f, (Tmp.stay tm o st2).1⟩) fun J w => h1 H1 H01 ow1 J st s1 w
  | nm i =>
    have et : tl = tVar i := g
    subst et
    have h1 := Is_bnd h
    unfold getS at h1
    cases q : e[i]? with
    | none => rw [q] at h1; exact h1.elim
    | some x =>
      cases x with
      | none => rw [q] at h1; exact h1.elim
      | some t =>
        rw [q] at h1
        have h1 : ((match t.items with | some ds => ret (Src.mk ds fun e => e[i]? = some (some t)) | none => fail : Mo Src) e).Is (KI K mg (ixO (.nm i)) σ H H0 ow R) (KX K mg W σ H H0 ow) := h1
        obtain ⟨v, hv, o⟩ := s.at_ i t q
        refine ⟨v, hv, ?_⟩
        cases q2 : t.items with
        | none => rw [q2] at h1; exact h1.elim
        | some ds =>
          rw [q2] at h1
          refine seq_start q2 s o (S := ⟨ds, fun e => e[i]? = some (some t)⟩) rfl (fun {σ' e' H2 H02 ow2} st2 s2 iv fi => ?_) fun J w => h1 H H0 ow J Step.refl s w
          obtain ⟨v', hv', o'⟩ := s2.at_ i t iv
          have ev : v' = v := by
            have z := fi.at_ i (List.mem_singleton.mpr rfl)
            rw [hv, hv'] at z
            exact Option.some.inj (Option.some.inj z)
          subst ev
          exact ⟨_, o'⟩
/-! ranges -/
def rangeD (lo : Int) (n : Nat) : List D := (List.range n).map fun k => .int (lo + (k : Nat))
def mRng1 (os : List Op) : Mo Src := bnd (mArgs os) fun ts => match ts with
  | [.val (.int j)] => if j < 1000000 ∧ -1000000 < j then ret ⟨rangeD 0 j.toNat, fun _ => True⟩ else fail
  | _ => fail
def mRng2 (os : List Op) : Mo Src := bnd (mArgs os) fun ts => match ts with
  | [.val (.int i), .val (.int j)] => if (i < 1000000 ∧ -1000000 < i) ∧ (j < 1000000 ∧ -1000000 < j) then ret ⟨rangeD i (j - i).toNat, fun _ => True⟩ else fail
  | _ => fail
theorem walk_r {lo : Int} {n : Nat} (s : Same H0 H) : (∀ i d, (rangeD lo n)[i]? = some d → (Itr lo n).go i H ∧ ∀ x H', (Itr lo n).yld i H x H' → ∃ H02', Gro H H0 H' H02' ∧ Rep K mg H02' d x) ∧ (Itr lo n).stop (rangeD lo n).length H :=
  ⟨fun i d hd => by
    unfold rangeD at hd
    rw [List.getElem?_map] at hd
    cases q : (List.range n)[i]? with
    | none => rw [q] at hd; cases hd
    | some k =>
      rw [q] at hd
      have hl := lt_of_some q
      rw [List.length_range] at hl
      rw [List.getElem?_range hl] at q
      cases q
      refine ⟨hl, fun x H' ⟨e, y⟩ => ?_⟩
      subst e y
      exact ⟨H0, Gro.refl s, by cases hd; rfl⟩, by
    show n ≤ (rangeD lo n).length
    unfold rangeD
    rw [List.length_map, List.length_range]
    exact Nat.le_refl _⟩
theorem AgR.ints1 {os : List Op} {vs : List V} {fo : Fo} {j : Int} (s : Sim K mg H H0 σ e ow) (ag : AgR K mg H H0 σ e os [.val (.int j)] vs fo) : vs = [.int j] := by
  have r := ag.peeks s (ds := [.int j]) rfl
  obtain ⟨v, ws, e1, r1, r2⟩ := r
  subst e1
  have e3 : v = .int j := r1
  have e4 : ws = [] := r2
  rw [e3, e4]
theorem AgR.ints2 {os : List Op} {vs : List V} {fo : Fo} {i j : Int} (s : Sim K mg H H0 σ e ow) (ag : AgR K mg H H0 σ e os [.val (.int i), .val (.int j)] vs fo) : vs = [.int i, .int j] := by
  have r := ag.peeks s (ds := [.int i, .int j]) rfl
  obtain ⟨v, ws, e1, r1, v2, ws2, e2, r2, r3⟩ := r
  subst e1 e2
  have e3 : v = .int i := r1
  have e4 : v2 = .int j := r2
  have e5 : ws2 = [] := r3
  rw [e3, e4, e5]
theorem goodI_rng1 {ta : TA} {os : List Op} (ga : GoodAs K mg W ta os) : GoodI K mg W [] (iRng1 ta) (mRng1 os) := by
  intro σ H H0 e ow R s h
  refine ga σ H H0 e ow _ s (Is_imp (Is_bnd h) (fun ts e1 _ h1 => ?_) fun _ _ z => z)
  intro vs H1 H01 ow1 fo st s1 ag tm
  split at h1
  · rename_i j _
    split at h1
    · rename_i hj
      refine ⟨j, ag.ints1 s1, by omega, by omega, ?_⟩
      exact h1 H1 H01 ow1 _ st s1 fun σ' e' H2 H02 ow2 st2 s2 _ _ => walk_r s2.sub
    · exact h1.elim
  · exact h1.elim
theorem goodI_rng2 {ta : TA} {os : List Op} (ga : GoodAs K mg W ta os) : GoodI K mg W [] (iRng2 ta) (mRng2 os) := by
  intro σ H H0 e ow R s h
  refine ga σ H H0 e ow _ s (Is_imp (Is_bnd h) (fun ts e1 _ h1 => ?_) fun _ _ z => z)
  intro vs H1 H01 ow1 fo st s1 ag tm
  split at h1
  · rename_i i j _
    split at h1
    · rename_i hj
      refine ⟨i, j, ag.ints2 s1, by omega, ?_⟩
      exact h1 H1 H01 ow1 _ st s1 fun σ' e' H2 H02 ow2 st2 s2 _ _ => walk_r s2.sub
    · exact h1.elim
  · exact h1.elim
end
def PIm (X : Cx) (W : WX) (tg iter : Expr) (ix : List Nat) (ms : Mo Src) : Prop := ∃ wi, PI X tg iter wi ∧ GoodI X.K X.mg W ix wi ms
section
variable {X : Cx} {W : WX} {fx ix : List Nat} {tg iter l a b : Expr} {o : Op} {pos : Pos}
theorem pim_seq (h : PO X W l o) : PIm X W tg l (ixO o) (mSeqS o) := by
  obtain ⟨t, p, g⟩ := h
  exact ⟨_, pi_any p, goodI_seq g⟩
theorem pim_rng1 {p : Pos} {os : List Op} (hm : X.mg "range" = none) (ha : PAg X W [a] os) (hg : Gl X "range" := by rfl) (hs : starEach [a] X.env = [(false, eval a X.env)] := by rfl) : PIm X W tg (.Call (.Name "range" p) [a] [] pos) [] (mRng1 os) := by
  obtain ⟨t, q, g⟩ := ha
  exact ⟨_, pi_range1 hg hm q hs, goodI_rng1 g⟩
theorem pim_rng2 {p : Pos} {os : List Op} (hm : X.mg "range" = none) (ha : PAg X W [a, b] os) (hg : Gl X "range" := by rfl) (hs : starEach [a, b] X.env = [(false, eval a X.env), (false, eval b X.env)] := by rfl) (hs2 : starEach [b] X.env = [(false, eval b X.env)] := by rfl) : PIm X W tg (.Call (.Name "range" p) [a, b] [] pos) [] (mRng2 os) := by
  obtain ⟨t, q, g⟩ := ha
  exact ⟨_, pi_range2 hg hm q hs hs2, goodI_rng2 g⟩
theorem psm_for {body : List Stmt} {ms : Mo Src} {gm : D → Mo Unit} {m : Mo Fl} (hp : PassesOwn (model X.prog X.w) X.A X.env X.xe) (hi : PIm X W tg iter ix ms) (hg : PGm X (ix ++ fx) tg gm) (hb : PSsm X W (ix ++ fx) body m) (hc : X.calm = true := by rfl)
    (hs : ∀ x, foldedSetIterable iter X.env x = pure x := by intro _; rfl) : PSm X W fx (.For tg iter body [] pos) (mFor ms gm m) := by
  obtain ⟨wi, p1, g1⟩ := hi
  obtain ⟨tg', p2, g2⟩ := hg.out
  obtain ⟨tb, p3, g3⟩ := hb.out
  exact PSm.mk ⟨_, ps_for hp hc p1 p2 p3 hs, goodS_for g1 g2 g3⟩
end
end Pf

set_option Elab.async false
set_option linter.all false
set_option maxRecDepth 100000
/-! Pf6: list comprehensions; a def's promise from its body's mirror. -/
namespace Pf
open PySem PySem.Spec PyProof.Rows L2

def wipeE : List Nat → En → En
  | [], e => e
  | v :: vs, e => (wipeE vs e).set v none
def wipeM (vs : List Nat) : Mo Unit := fun e => .ok () (wipeE vs e)
def backE : List Nat → En → En → En
  | [], _, e' => e'
  | v :: vs, e, e' => (backE vs e e').set v ((e[v]?).getD none)
def okv (e : En) (vs : List Nat) : Bool := vs.all fun v => match e[v]? with
  | some (some t) => t.isVal
  | _ => true
noncomputable def lcL (inv : En → Prop) (g : D → Mo Unit) (tt : Mo Bool) (te : Mo T) (vs : List Nat) : List D → Mo (List T)
  | [] => bnd (chk inv) fun _ => ret []
  | d :: ds => bnd (chk inv) fun _ => bnd (g d) fun _ => bnd tt fun c => match c with
    | true => bnd te fun t => bnd (wipeM vs) fun _ => bnd (lcL inv g tt te vs ds) fun ts => ret (t :: ts)
    | false => bnd (wipeM vs) fun _ => lcL inv g tt te vs ds
noncomputable def mLc (ms : Mo Src) (g : D → Mo Unit) (tt : Mo Bool) (te : Mo T) (vs : List Nat) : Mo T := bnd ms fun S e => if okv e vs = true ∧ S.ds.length ≤ 100000 then match lcL S.inv g tt te vs S.ds (wipeE vs e) with
    | .ok ts e' => .ok (.lst ts) (backE vs e e')
    | _ => .bad
  else .bad
section
variable {K : PySem.W.Frag} {mg : Str → Option Value} {H H0 H1 H01 : Hp} {σ σ1 : L2.St} {e e1 : En} {ow ow1 : Ow} {W : WX} {fx ix vs : List Nat} {te : TE} {tt : TT} {me : Mo T} {mm : Mo Bool}
theorem wipe_get (σ : L2.St) : ∀ (vs : List Nat) (j : Nat), (wipe σ vs)[j]? = if j ∈ vs then (if j < σ.length then some none else none) else σ[j]?
  | [], j => by rw [if_neg (by simp)]; rfl
  | v :: vs, j => by
    unfold wipe
    by_cases q : v = j
    · subst q
      rw [if_pos List.mem_cons_self]
      split
      · rename_i h
        exact List.getElem?_set_self (by rw [wipe_length]; exact h)
      · rename_i h
        exact List.getElem?_eq_none (by rw [List.length_set, wipe_length]; omega)
    · rw [List.getElem?_set_ne q, wipe_get σ vs j]
      by_cases m : j ∈ vs
      · rw [if_pos m, if_pos (List.mem_cons_of_mem _ m)]
      · rw [if_neg m, if_neg (by rintro (_ | ⟨_, h⟩); exact q rfl; exact m h)]
theorem wipe_of {σ2 : L2.St} (hl : σ2.length = σ.length) (h : ∀ j, j < σ.length → j ∉ vs → σ2[j]? = σ[j]?) : wipe σ2 vs = wipe σ vs := by
  apply List.ext_getElem?
  intro j
  rw [wipe_get, wipe_get, hl]
  split
  · rfl
  · rename_i m
    by_cases q : j < σ.length
    · exact h j q m
    · rw [List.getElem?_eq_none (by omega), List.getElem?_eq_none (by omega)]
theorem wipeE_len : ∀ (vs : List Nat) (e : En), (wipeE vs e).length = e.length
  | [], _ => rfl
  | v :: vs, e => by unfold wipeE; rw [List.length_set, wipeE_len]
theorem wipeE_get : ∀ (vs : List Nat) (e : En) (j : Nat), (wipeE vs e)[j]? = if j ∈ vs then (if j < e.length then some none else none) else e[j]?
  | [], e, j => by rw [if_neg (by simp)]; rfl
  | v :: vs, e, j => by
    unfold wipeE
    by_cases q : v = j
    · subst q
      rw [if_pos List.mem_cons_self]
      split
      · rename_i h
        exact List.getElem?_set_self (by rw [wipeE_len]; exact h)
      · rename_i h
        exact List.getElem?_eq_none (by rw [List.length_set, wipeE_len]; omega)
    · rw [List.getElem?_set_ne q, wipeE_get vs e j]
      by_cases m : j ∈ vs
      · rw [if_pos m, if_pos (List.mem_cons_of_mem _ m)]
      · rw [if_neg m, if_neg (by rintro (_ | ⟨_, h⟩); exact q rfl; exact m h)]
theorem backE_len : ∀ (vs : List Nat) (e e' : En), (backE vs e e').length = e'.length
  | [], _, _ => rfl
  | v :: vs, e, e' => by unfold backE; rw [List.length_set, backE_len]
theorem backE_get : ∀ (vs : List Nat) (e e' : En) (j : Nat), (backE vs e e')[j]? = if j ∈ vs then (if j < e'.length then some ((e[j]?).getD none) else none) else e'[j]?
  | [], e, e', j => by rw [if_neg (by simp)]; rfl
  | v :: vs, e, e', j => by
    unfold backE
    by_cases q : v = j
    · subst q
      rw [if_pos List.mem_cons_self]
      split
      · rename_i h
        exact List.getElem?_set_self (by rw [backE_len]; exact h)
      · rename_i h
        exact List.getElem?_eq_none (by rw [List.length_set, backE_len]; omega)
    · rw [List.getElem?_set_ne q, backE_get vs e e' j]
      by_cases m : j ∈ vs
      · rw [if_pos m, if_pos (List.mem_cons_of_mem _ m)]
      · rw [if_neg m, if_neg (by rintro (_ | ⟨_, h⟩); exact q rfl; exact m h)]
def owW (vs : List Nat) (ow : Ow) : Ow := fun i => if i ∈ vs then [] else ow i
theorem owW_in {i : Nat} {a : Addr} (h : a ∈ owW vs ow i) : a ∈ ow i ∧ i ∉ vs := by
  unfold owW at h
  split at h
  · cases h
  · rename_i m
    exact ⟨h, m⟩
theorem owW_sub {a : Addr} (h : InO (owW vs ow) a) : InO ow a := ⟨h.choose, (owW_in h.choose_spec).1⟩
theorem Sim.wipe (s : Sim K mg H H0 σ e ow) (vs : List Nat) : Sim K mg H H0 (wipe σ vs) (wipeE vs e) (owW vs ow) where
  sub := s.sub
  len := by rw [wipeE_len, wipe_length]; exact s.len
  at_ := fun i t h => by
    rw [wipeE_get] at h
    by_cases m : i ∈ vs
    · rw [if_pos m] at h
      split at h <;> cases h
    · rw [if_neg m] at h
      obtain ⟨v, h1, h2⟩ := s.at_ i t h
      refine ⟨v, by rw [wipe_get, if_neg m]; exact h1, ?_⟩
      unfold owW
      rw [if_neg m]
      exact h2
  emp := fun i h => by
    unfold owW
    by_cases m : i ∈ vs
    · rw [if_pos m]
    · rw [if_neg m]
      exact s.emp i fun t z => h t (by rw [wipeE_get, if_neg m]; exact z)
  nd := fun i => by
    unfold owW
    split
    · exact List.nodup_nil
    · exact s.nd i
  dj := fun i j a mi mj => s.dj i j a (owW_in mi).1 (owW_in mj).1
  out := fun i a m => s.out i a (owW_in m).1
theorem okv_at {i : Nat} {t : T} (h : okv e vs = true) (m : i ∈ vs) (q : e[i]? = some (some t)) : t.isVal = true := by
  have := List.all_eq_true.mp h i m
  rw [q] at this
  exact this
theorem Sim.back (s1 : Sim K mg H1 H01 σ e1 ow1) (ok : okv e1 vs = true) (fro : Same H01 H0) (s : Sim K mg H H0 (L2.wipe σ vs) e ow) : Sim K mg H H0 σ (backE vs e1 e) (owW vs ow) where
  sub := s.sub
  len := by
    rw [backE_len, s.len, wipe_length]
  at_ := fun i t h => by
    rw [backE_get] at h
    by_cases m : i ∈ vs
    · rw [if_pos m] at h
      split at h
      · have h := Option.some.inj h
        cases q : e1[i]? with
        | none => rw [q] at h; cases h
        | some x =>
          rw [q] at h
          have h : x = some t := h
          subst h
          have iv := okv_at ok m q
          obtain ⟨v, hv, o⟩ := s1.at_ i t q
          refine ⟨v, hv, ?_⟩
          cases t with
          | val d =>
            unfold owW
            rw [if_pos m]
            exact ⟨rfl, o.2.mono fro⟩
          | _ => cases iv
      · cases h
    · rw [if_neg m] at h
      obtain ⟨v, h1, h2⟩ := s.at_ i t h
      rw [wipe_get, if_neg m] at h1
      refine ⟨v, h1, ?_⟩
      unfold owW
      rw [if_neg m]
      exact h2
  emp := fun i h => by
    unfold owW
    by_cases m : i ∈ vs
    · rw [if_pos m]
    · rw [if_neg m]
      exact s.emp i fun t z => h t (by rw [backE_get, if_neg m]; exact z)
  nd := fun i => by
    unfold owW
    split
    · exact List.nodup_nil
    · exact s.nd i
  dj := fun i j a mi mj => s.dj i j a (owW_in mi).1 (owW_in mj).1
  out := fun i a m => s.out i a (owW_in m).1
theorem Owns.snoc : ∀ {ts : List T} {vs : List V} {F f : List Addr} {t : T} {y : V}, Owns K mg H H0 ts vs F → Own K mg H H0 t y f → Owns K mg H H0 (ts ++ [t]) (vs ++ [y]) (F ++ f)
  | [], vs, F, f, t, y, ⟨e1, e2⟩, o => by
    subst e1 e2
    exact ⟨y, [], f, [], rfl, o, ⟨rfl, rfl⟩, by simp⟩
  | t0 :: ts, vs, F, f, t, y, ⟨v, ws, f1, g, e1, o1, o2, e2⟩, o => by
    subst e1 e2
    exact ⟨v, ws ++ [y], f1, g ++ f, rfl, o1, Owns.snoc o2 o, by simp⟩
/-- an object that is nobody's slot's and not frozen is written -/
theorem Sim.other (s : Sim K mg H H0 σ e ow) {p : Addr} {o : HO} (h1 : H0 p = none) (h2 : ¬ InO ow p) : Sim K mg (upd H p o) H0 σ e ow where
  sub := fun b u h => by
    rw [upd_ne fun z => by rw [z, h1] at h; cases h]
    exact s.sub b u h
  len := s.len
  at_ := fun i t h => by
    obtain ⟨v, hv, ow'⟩ := s.at_ i t h
    exact ⟨v, hv, Own.stay (Same.refl _) (fun a m u z => by rw [upd_ne fun y => h2 ⟨i, by rw [← y]; exact m⟩]; exact z) ow'⟩
  emp := s.emp
  nd := s.nd
  dj := s.dj
  out := s.out
theorem Step.other {P P1 : Addr → Prop} {p : Addr} {o : HO} (st : Step H H0 P H1 H01 P1) (h : H p = none ∨ P p) (l : H1 p ≠ none) : Step H H0 P (upd H1 p o) H01 P1 where
  fro := st.fro
  oth := fun b u n hb => by
    rw [upd_ne fun z => ?_]
    · exact st.oth b u n hb
    · subst z
      rcases h with q | q
      · rw [q] at hb; cases hb
      · exact n q
  new := st.new
  own := st.own
  liv := fun b hb => by
    by_cases q : b = p
    · rw [q, upd_same]; exact Option.some_ne_none _
    · rw [upd_ne q]; exact st.liv b hb
theorem step_less {P P1 P2 : Addr → Prop} (st : Step H H0 P H1 H01 P1) (h : ∀ a, P2 a → P1 a) : Step H H0 P H1 H01 P2 := ⟨st.fro, st.oth, st.new, fun b m => st.own b (h b m), st.liv⟩
def cmpl (n : Nat) (vs : List Nat) : List Nat := (List.range n).filter fun i => !vs.contains i
theorem mem_cmpl {n j : Nat} (h : j < n) (m : j ∉ vs) : j ∈ cmpl n vs := List.mem_filter.mpr ⟨List.mem_range.mpr h, by simpa using m⟩
abbrev WF : WX := fun _ _ _ _ => False
theorem goodE_lc {wi : TI} {ms : Mo Src} {g : TG} {gm : D → Mo Unit} {n : Nat} (gi : GoodI K mg W ix wi ms) (gg : GoodG K mg (cmpl n vs) g gm) (gt : GoodT K mg WF tt mm) (ge : GoodE K mg WF te me) (hix : ∀ j ∈ ix, j ∉ vs) :
    ∀ σ H H0 e ow Q, σ.length = n → Sim K mg H H0 σ e ow → (mLc ms gm mm me vs e).Is (KE K mg σ H H0 ow Q) (KX K mg W σ H H0 ow) → tLc wi g tt te vs σ H Q := by
  intro σ H H0 e ow Q hlen s h
  refine gi σ H H0 e ow _ s (Is_imp (Is_bnd h) (fun S e1 _ h1 => ?_) fun _ _ z => z)
  intro H1 H01 ow1 J st1 s1 wk Dl hD
  split at h1
  · rename_i hok
    obtain ⟨ok, hsz⟩ := hok
    have h2 : (lcL S.inv gm mm me vs S.ds (wipeE vs e1)).Is (fun ts e' => KE K mg σ H1 H01 ow1 Q (.lst ts) (backE vs e1 e')) (fun _ _ => False) := by
      cases q : lcL S.inv gm mm me vs S.ds (wipeE vs e1) with
      | ok ts e' => rw [q] at h1; exact KE.pull st1 h1
      | err x e' => rw [q] at h1; exact h1.elim
      | bad => rw [q] at h1; exact h1.elim
    have nD0 : H01 Dl = none := by
      cases q : H01 Dl with
      | none => rfl
      | some u => rw [s1.sub _ _ q] at hD; cases hD
    have nDo : ¬ InO ow1 Dl := fun ⟨i, m⟩ => s1.live m hD
    -- the invariant
    refine ⟨fun i m H' => ∃ e' H0' ow' accT accV F, m = S.ds.length - i ∧ i ≤ S.ds.length ∧ accV.length ≤ i ∧ Step H1 H01 (InO ow1) H' H0' (InO ow') ∧ Sim K mg H' H0' (L2.wipe σ vs) e' ow' ∧ H' Dl = some (.lst accV) ∧ Owns K mg H' H0' accT accV F ∧
      Tmp H1 (InO ow1) H0' (InO ow') (Dl :: F) ∧ (lcL S.inv gm mm me vs (S.ds.drop i) e').Is (fun ts e2 => KE K mg σ H1 H01 ow1 Q (.lst (accT ++ ts)) (backE vs e1 e2)) (fun _ _ => False),
      ⟨_, wipeE vs e1, H01, owW vs ow1, [], [], [], rfl, Nat.zero_le _, Nat.le_refl _, step_less (Gro.lay s1.sub hD).step fun a m => owW_sub m, (s1.gro (Gro.lay s1.sub hD)).wipe vs, upd_same, ⟨rfl, rfl⟩, ⟨List.nodup_cons.mpr ⟨by simp, List.nodup_nil⟩, fun a m => ?_, fun a m q => ?_, fun a m => ?_⟩, h2⟩, ?_⟩
    · rw [List.mem_singleton.mp m]; exact nD0
    · rw [List.mem_singleton.mp m] at q; exact nDo (owW_sub q)
    · rw [List.mem_singleton.mp m]; exact .inl hD
    rintro i m H' ⟨e', H0', ow', accT, accV, F, rfl, hi, hacc, st, si, hDl, own, tmp, hf⟩
    by_cases hlt : i < S.ds.length
    · rw [List.drop_eq_getElem_cons hlt] at hf
      obtain ⟨hinv, hf⟩ := chk_is (Is_bnd (show (bnd (chk S.inv) _ e').Is _ _ from hf))
      have fxw : Fixd ix σ (L2.wipe σ vs) := ⟨wipe_length _ _, fun j mj => by rw [wipe_get, if_neg (hix j mj)]⟩
      obtain ⟨w1, _⟩ := wk _ e' H' H0' ow' st si hinv fxw
      obtain ⟨go, yl⟩ := w1 i S.ds[i] (List.getElem?_eq_getElem hlt)
      refine .inr ⟨go, fun H2 => ∃ e2 H02 ow2 accT2 accV2 F2, accV2.length ≤ i + 1 ∧ Step H1 H01 (InO ow1) H2 H02 (InO ow2) ∧ Sim K mg H2 H02 (L2.wipe σ vs) e2 ow2 ∧ H2 Dl = some (.lst accV2) ∧ Owns K mg H2 H02 accT2 accV2 F2 ∧
        Tmp H1 (InO ow1) H02 (InO ow2) (Dl :: F2) ∧ (lcL S.inv gm mm me vs (S.ds.drop (i + 1)) e2).Is (fun ts e2 => KE K mg σ H1 H01 ow1 Q (.lst (accT2 ++ ts)) (backE vs e1 e2)) (fun _ _ => False),
        fun H2 ⟨e2, H02, ow2, accT2, accV2, F2, a0, a1, a2, a3, a4, a5, a6⟩ => ⟨S.ds.length - (i + 1), by omega, e2, H02, ow2, accT2, accV2, F2, rfl, by omega, a0, a1, a2, a3, a4, a5, a6⟩, fun x Hy hy => ?_⟩
      obtain ⟨H0y, gro, rep⟩ := yl x Hy hy
      have sy := si.gro gro
      have sty : Step H1 H01 (InO ow1) Hy H0y (InO ow') := st.trans gro.step
      refine gg _ x (L2.wipe σ vs) Hy H0y e' ow' _ _ sy rep (Is_imp (Is_bnd hf) (fun _ e2 _ z => ?_) fun _ _ z => z)
      intro σ2 ow2 st2 s2 fi2
      have ew : L2.wipe σ2 vs = L2.wipe σ vs := by
        refine wipe_of (fi2.len.trans (wipe_length _ _)) fun j hj mj => ?_
        rw [fi2.at_ j (mem_cmpl (by rw [← hlen]; exact hj) mj), wipe_get, if_neg mj]
      refine ⟨ew, ?_⟩
      have tot := sty.trans st2
      refine gt σ2 Hy H0y e2 ow2 _ s2 (Is_imp (Is_bnd z) (fun c e3 _ y => ?_) fun _ _ y => y.elim)
      intro H3 H03 ow3 st3 s3
      have tot3 := tot.trans st3
      -- what was made so far stays
      have tmpAll : ∀ {H' H0' : Hp} {ow' : Ow} {Hn H0n : Hp} {own' : Ow} {accV : List V} {accT : List T} {F : List Addr}, Tmp H1 (InO ow1) H0' (InO ow') (Dl :: F) → H' Dl = some (.lst accV) → Owns K mg H' H0' accT accV F → Step H' H0' (InO ow') Hn H0n (InO own') →
          Hn Dl = some (.lst accV) ∧ Owns K mg Hn H0n accT accV F ∧ Tmp H1 (InO ow1) H0n (InO own') (Dl :: F) := fun {H' H0' ow' Hn H0n own' accV accT F} tm hd ow st => by
        have live : ∀ a ∈ Dl :: F, H' a ≠ none := fun a m => by
          rcases List.mem_cons.mp m with q | q
          · rw [q, hd]; exact Option.some_ne_none _
          · exact ow.live a q
        refine ⟨st.oth _ _ (tm.sep _ List.mem_cons_self) hd, Owns.stay st.fro (fun a m u z => st.oth a u (tm.sep a (List.mem_cons_of_mem _ m)) z) ow, tm.nd, fun a m => ?_, fun a m p => ?_, tm.new⟩
        · cases q : H0n a with
          | none => rfl
          | some u =>
            rcases st.new a (by rw [q]; exact Option.some_ne_none _) with z | z | z
            · exact absurd (tm.out a m) z
            · exact absurd z (live a m)
            · exact absurd z (tm.sep a m)
        · rcases st.own a p with z | z
          · exact tm.sep a m z
          · exact live a m z
      have stE : Step H' H0' (InO ow') H3 H03 (InO ow3) := (gro.step.trans st2).trans st3
      obtain ⟨k1, k2, k3⟩ := tmpAll tmp hDl own stE
      cases c with
      | true =>
        show te σ2 H3 _
        refine ge σ2 H3 H03 e3 ow3 _ s3 (Is_imp (Is_bnd y) (fun t e4 _ y4 => ?_) fun _ _ y => y.elim)
        intro v H4 H04 ow4 f st4 s4 o4 tm4
        obtain ⟨l1, l2, l3⟩ := tmpAll k3 k1 k2 st4
        have tot4 := tot3.trans st4
        have live3 : ∀ a ∈ Dl :: F, H3 a ≠ none := fun a m => by
          rcases List.mem_cons.mp m with q | q
          · rw [q, k1]; exact Option.some_ne_none _
          · exact k2.live a q
        have apart : ∀ a ∈ f, ¬ a ∈ Dl :: F := fun a m z => by
          rcases tm4.new a m with q | q
          · exact live3 a z q
          · exact k3.sep a z q
        have nDf : ∀ a ∈ f, a ≠ Dl := fun a m z => apart a m (by rw [z]; exact List.mem_cons_self)
        have nDF : ∀ a ∈ F, a ≠ Dl := fun a m z => by
          have := (List.nodup_cons.mp l3.nd).1
          rw [← z] at this
          exact this m
        refine ⟨accV, l1, Nat.lt_of_le_of_lt hacc (Nat.lt_of_lt_of_le hlt (Nat.le_trans hsz (by decide))), wipeE vs e4, H04, owW vs ow4, accT ++ [t], accV ++ [v], F ++ f, by rw [List.length_append]; exact Nat.succ_le_succ hacc, ?_, ?_, upd_same, ?_, ?_, ?_⟩
        · exact step_less (tot4.other (l3.new Dl List.mem_cons_self) (by rw [l1]; exact Option.some_ne_none _)) fun a m => owW_sub m
        · have s5 := (s4.other (o := .lst (accV ++ [v])) (l3.out Dl List.mem_cons_self) (l3.sep Dl List.mem_cons_self)).wipe vs
          rw [ew] at s5
          exact s5
        · exact Owns.snoc (Owns.stay (Same.refl _) (fun a m u z => by rw [upd_ne (nDF a m)]; exact z) l2) (Own.stay (Same.refl _) (fun a m u z => by rw [upd_ne (nDf a m)]; exact z) o4)
        · refine ⟨?_, fun a m => ?_, fun a m q => ?_, fun a m => ?_⟩
          · have nd1 := l3.nd
            show (Dl :: (F ++ f)).Nodup
            rw [← List.cons_append]
            exact List.nodup_append.mpr ⟨nd1, tm4.nd, fun a ma b mb z => apart b mb (by rw [← z]; exact ma)⟩
          · rcases List.mem_append.mp (show a ∈ (Dl :: F) ++ f from m) with z | z
            · exact l3.out a z
            · exact tm4.out a z
          · rcases List.mem_append.mp (show a ∈ (Dl :: F) ++ f from m) with z | z
            · exact l3.sep a z (owW_sub q)
            · exact tm4.sep a z (owW_sub q)
          · rcases List.mem_append.mp (show a ∈ (Dl :: F) ++ f from m) with z | z
            · exact l3.new a z
            · exact (Tmp.pull tot3 tm4).new a z
        · have y5 := Is_bnd (show (bnd (lcL S.inv gm mm me vs (S.ds.drop (i + 1))) (fun ts => ret (t :: ts)) (wipeE vs e4)).Is _ _ from y4)
          exact Is_imp y5 (fun ts e5 _ y6 => by rw [List.append_assoc]; exact y6) fun _ _ y => y
      | false =>
        show ∃ e2 H02 ow2 accT2 accV2 F2, _
        have s5 := s3.wipe vs
        rw [ew] at s5
        refine ⟨wipeE vs e3, H03, owW vs ow3, accT, accV, F, Nat.le_succ_of_le hacc, step_less tot3 fun a m => owW_sub m, s5, k1, k2, ⟨k3.nd, k3.out, fun a m q => k3.sep a m (owW_sub q), k3.new⟩, Is_bnd y⟩
    · have ei : i = S.ds.length := by omega
      subst ei
      rw [List.drop_length] at hf
      obtain ⟨hinv, hf⟩ := chk_is (Is_bnd (show (bnd (chk S.inv) _ e').Is _ _ from hf))
      have fxw : Fixd ix σ (L2.wipe σ vs) := ⟨wipe_length _ _, fun j mj => by rw [wipe_get, if_neg (hix j mj)]⟩
      obtain ⟨_, w2⟩ := wk _ e' H' H0' ow' st si hinv fxw
      refine .inl ⟨w2, ?_⟩
      have hf : KE K mg σ H1 H01 ow1 Q (.lst (accT ++ [])) (backE vs e1 e') := hf
      rw [List.append_nil] at hf
      exact hf (.ref Dl) H' H0' (owW vs ow') (Dl :: F) (step_less st fun a m => owW_sub m) (s1.back ok st.fro si) ⟨Dl, accV, F, rfl, hDl, own, rfl⟩ ⟨tmp.nd, tmp.out, fun a m q => tmp.sep a m (owW_sub q), tmp.new⟩
  · exact h1.elim
end
def PTsm (X : Cx) (ifs : List Expr) (m : Mo Bool) : Prop := PTs X ifs (tmT X.K X.mg WF m)
section
variable {X : Cx} {W : WX} {fx ix : List Nat} {tg iter elt c : Expr} {ifs : List Expr} {pos : Pos} {me : Mo T} {mm : Mo Bool} {ms : Mo Src} {gm : D → Mo Unit}
theorem ptsm_nil : PTsm X [] (ret true) := ⟨fun pins s σ H Q I ⟨H0, e, ow, si, h⟩ => pts_nil.run pins s σ H Q I (h H H0 ow Step.refl si)⟩
theorem ptsm_one (h : PB X WF c mm) : PTsm X [c] mm := pts_one h
theorem pm_lc (own : List (Str × Nat)) {scope : Scope} {n : Nat} (hN : X.N.Nodup) (hi : PIm X W tg iter ix ms)
    (hg : ∀ (s : Shared) (H : Hp) (C : Addr) (cl : List (Str × Addr)) (fp : List Addr), PGm (X.blk s H scope (compEnvC scope cl C X.env) fp) (cmpl n (own.map (·.2))) tg gm) (ht : ∀ (s : Shared) (H : Hp) (C : Addr) (cl : List (Str × Addr)) (fp : List Addr), PTsm (X.blk s H scope (compEnvC scope cl C X.env) fp) ifs mm)
    (he : ∀ (s : Shared) (H : Hp) (C : Addr) (cl : List (Str × Addr)) (fp : List Addr), PM (X.blk s H scope (compEnvC scope cl C X.env) fp) WF elt me) (ok : BlkOk X.N X.env.scope scope own) (hn : X.N.length = n := by rfl) (hix : ∀ j ∈ ix, j ∉ own.map (·.2) := by decide) (hc : X.calm = true := by rfl) (hs : ∀ x, foldedSetIterable iter X.env x = pure x := by intro _; rfl) :
    PM X W (.ListComp elt [⟨tg, iter, ifs, 0⟩] scope pos) (mLc ms gm mm me (own.map (·.2))) := by
  obtain ⟨wi, p1, g1⟩ := hi
  exact ⟨fun pins s σ H Q I ⟨H0, e, ow, si, h⟩ => (pe_lc (g := tmG X.K X.mg (cmpl n (own.map fun p : Str × Nat => p.2)) gm) (tt := tmT X.K X.mg WF mm) (te := tmE X.K X.mg WF me) hc hN p1 ok hg ht he hs).run pins s σ H Q I (goodE_lc g1 good_tmG good_tmT good_tmE hix σ H H0 e ow Q (I.len.trans hn) si h)⟩
theorem psm_setLc (i : Nat) (own : List (Str × Nat)) {scope : Scope} {n : Nat} {y : Str} {py spos : Pos} (hN : X.N.Nodup) (hi : PIm X W tg iter ix ms)
    (hg : ∀ (s : Shared) (H : Hp) (C : Addr) (cl : List (Str × Addr)) (fp : List Addr), PGm (X.blk s H scope (compEnvC scope cl C X.env) fp) (cmpl n (own.map (·.2))) tg gm) (ht : ∀ (s : Shared) (H : Hp) (C : Addr) (cl : List (Str × Addr)) (fp : List Addr), PTsm (X.blk s H scope (compEnvC scope cl C X.env) fp) ifs mm)
    (he : ∀ (s : Shared) (H : Hp) (C : Addr) (cl : List (Str × Addr)) (fp : List Addr), PM (X.blk s H scope (compEnvC scope cl C X.env) fp) WF elt me) (ok : BlkOk X.N X.env.scope scope own) (hsw : swapsWith (.ListComp elt [⟨tg, iter, ifs, 0⟩] scope pos) (some (.Name y py)) spos.line X.env = pure true)
    (hy : X.N[i]? = some y := by rfl) (hyl : X.env.scope.names.lookup y = some .local := by rfl) (hf : i ∉ fx := by decide) (hn : X.N.length = n := by rfl) (hix : ∀ j ∈ ix, j ∉ own.map (·.2) := by decide) (hc : X.calm = true := by rfl) (hs : ∀ x, foldedSetIterable iter X.env x = pure x := by intro _; rfl) :
    PSm X W fx (.Assign [.Name y py] (.ListComp elt [⟨tg, iter, ifs, 0⟩] scope pos) spos) (mAsg i (mLc ms gm mm me (own.map (·.2)))) := by
  obtain ⟨wi, p1, g1⟩ := hi
  refine ⟨fun pins s σ H D I ⟨H0, e, ow, si, h⟩ => (ps_setLc (g := tmG X.K X.mg (cmpl n (own.map fun p : Str × Nat => p.2)) gm) (tt := tmT X.K X.mg WF mm) (te := tmE X.K X.mg WF me) hc hN hy hyl hsw p1 ok hg ht he hs).run pins s σ H D I ?_⟩
  refine goodE_lc g1 good_tmG good_tmT good_tmE hix σ H H0 e ow _ (I.len.trans hn) si (Is_imp (Is_bnd h) (fun b e1 _ h1 => ?_) fun _ _ z => KXs.ex z)
  intro v H1 H01 ow1 f st s1 o tm
  have s2 := s1.set (i := i) (x := some b) (v := v) (f := f) H01 s1.sub (Same.refl _) (fun t et => by cases et; exact o) (fun z => nomatch z) tm.nd (fun a m j _ q => tm.sep a m ⟨j, q⟩) tm.out (fun j _ a m => s1.out j a m)
  refine h1 (σ.set i (some v)) H1 H01 _ (step_set tm.new st fun a m => ?_) s2 (fix_set hf)
  split at m
  · exact m
  · cases m
end

/-! ### a def -/
def outs (fx : List Nat) : Nat → Nat → En → En
  | 0, _, _ => []
  | k + 1, i, e => (if fx.contains i then e.getD i none else none) :: outs fx k (i + 1) e
def runDef (n np : Nat) (fx : List Nat) (m : Mo Fl) (ts : List T) : Rs T := match m (ts.map some ++ List.replicate (n - np) none) with
  | .ok (.ret t) e' => .ok t (outs fx np 0 e')
  | .ok .nx e' => .ok (.val .non) (outs fx np 0 e')
  | .ok _ _ => .bad
  | .err x e' => .err x (outs fx np 0 e')
  | .bad => .bad
section
variable {K : PySem.W.Frag} {mg : Str → Option Value} {H H0 H1 H01 : Hp} {e : En} {ow : Ow}
theorem outs_len (fx : List Nat) : ∀ (k i : Nat) (e : En), (outs fx k i e).length = k
  | 0, _, _ => rfl
  | k + 1, i, e => by
    show (outs fx k (i + 1) e).length + 1 = k + 1
    rw [outs_len]
theorem outs_get (fx : List Nat) : ∀ (k i : Nat) (e : En) (j : Nat), (outs fx k i e)[j]? = if j < k then some (if fx.contains (i + j) then e.getD (i + j) none else none) else none
  | 0, _, _, j => by rw [if_neg (by omega)]; rfl
  | k + 1, i, e, 0 => by rw [if_pos (by omega)]; rfl
  | k + 1, i, e, j + 1 => by
    have q := outs_get fx k (i + 1) e j
    rw [show i + 1 + j = i + (j + 1) by omega] at q
    show (outs fx k (i + 1) e)[j]? = _
    rw [q]
    have z : (j < k) = (j + 1 < k + 1) := propext ⟨fun h => by omega, fun h => by omega⟩
    simp only [z]
theorem Sim.pad {vs : List V} {ts : List T} (s : Sim K mg H H0 (vs.map some) (ts.map some) ow) (n : Nat) : Sim K mg H H0 (vs.map some ++ List.replicate n none) (ts.map some ++ List.replicate n none) ow where
  sub := s.sub
  len := by
    have := s.len
    rw [List.length_append, List.length_append, List.length_replicate, List.length_replicate, this]
  at_ := fun i t h => by
    by_cases q : i < (ts.map some).length
    · rw [List.getElem?_append_left q] at h
      obtain ⟨v, h1, h2⟩ := s.at_ i t h
      exact ⟨v, by rw [List.getElem?_append_left (by rw [← s.len]; exact q)]; exact h1, h2⟩
    · rw [List.getElem?_append_right (by omega), List.getElem?_replicate] at h
      split at h <;> cases h
  emp := fun i h => s.emp i fun t z => h t (by rw [List.getElem?_append_left (lt_of_some z)]; exact z)
  nd := s.nd
  dj := s.dj
  out := s.out
def owP (fx : List Nat) (np : Nat) (ow : Ow) : Ow := fun i => if i < np ∧ i ∈ fx then ow i else []
theorem owP_in {fx : List Nat} {np i : Nat} {a : Addr} (h : a ∈ owP fx np ow i) : a ∈ ow i ∧ i < np ∧ i ∈ fx := by
  unfold owP at h
  split at h
  · rename_i q
    exact ⟨h, q⟩
  · cases h
theorem Sim.params {vs : List V} {σ' : L2.St} {n np : Nat} {fx : List Nat} (hv : vs.length = np) (s : Sim K mg H H0 σ' e ow) (fi : Fixd fx (vs.map some ++ List.replicate n none) σ') : Sim K mg H H0 (vs.map some) (outs fx np 0 e) (owP fx np ow) where
  sub := s.sub
  len := by rw [outs_len, List.length_map, hv]
  at_ := fun i t h => by
    rw [outs_get] at h
    split at h
    · rename_i hi
      have h := Option.some.inj h
      rw [Nat.zero_add] at h
      split at h
      · rename_i hm
        have hm : i ∈ fx := by simpa using hm
        have he : e[i]? = some (some t) := by
          rw [List.getD_eq_getElem?_getD] at h
          cases q : e[i]? with
          | none => rw [q] at h; cases h
          | some x => rw [q] at h; exact congrArg some h
        obtain ⟨v, h1, h2⟩ := s.at_ i t he
        rw [fi.at_ i hm, List.getElem?_append_left (by rw [List.length_map, hv]; exact hi)] at h1
        refine ⟨v, h1, ?_⟩
        unfold owP
        rw [if_pos ⟨hi, hm⟩]
        exact h2
      · cases h
    · cases h
  emp := fun i h => by
    unfold owP
    by_cases q : i < np ∧ i ∈ fx
    · rw [if_pos q]
      refine s.emp i fun t z => h t ?_
      rw [outs_get, if_pos q.1, Nat.zero_add, if_pos (by simpa using q.2), List.getD_eq_getElem?_getD, z]
      rfl
    · rw [if_neg q]
  nd := fun i => by
    unfold owP
    split
    · exact s.nd i
    · exact List.nodup_nil
  dj := fun i j a mi mj => s.dj i j a (owP_in mi).1 (owP_in mj).1
  out := fun i a m => s.out i a (owP_in m).1
theorem inP {fx : List Nat} {np : Nat} {a : Addr} (h : InO (owP fx np ow) a) : InO ow a := ⟨h.choose, (owP_in h.choose_spec).1⟩
end
section
variable {P : Program} {w : World} {K : PySem.W.Frag} {mg : Str → Option Value} {base : Heap}
theorem fnok_of {x qual y : Str} {st : Stmt} {f : Addr} {fd : FuncData} {N ps : List Str} {k n np : Nat} {fx : List Nat} {m : Mo Fl} (F : Fun K x qual st f fd) (gy : mg y = some (.ref f)) (hb : Binds K fd ps []) (S : FnScope N ps (defScope st)) (hn : N.length = n) (hp : ps.length = np)
    (body : ∀ (cdv : Value) (A : Around) (outer : List Env) (s : Shared) (H : Hp) (E : XK), Room k (cxOf (L2.CX P w) P w K mg base N qual (defScope st) f cdv A outer s H E).A → Takes (cxOf (L2.CX P w) P w K mg base N qual (defScope st) f cdv A outer s H E) (fun c d _ H => E c d H) →
      PassesOwn (model P w) (cxOf (L2.CX P w) P w K mg base N qual (defScope st) f cdv A outer s H E).A (cxOf (L2.CX P w) P w K mg base N qual (defScope st) f cdv A outer s H E).env (cxOf (L2.CX P w) P w K mg base N qual (defScope st) f cdv A outer s H E).xe →
      PSsm (cxOf (L2.CX P w) P w K mg base N qual (defScope st) f cdv A outer s H E) (fun c d _ H => E c d H) fx (defBody st) m) : FnOk P w K mg base (L2.CX P w) (k + 1) f fd ps (spF K mg ps.length (runDef n np fx m)) := by
  refine F.okX S (fun vs H Q E ⟨_, _, _, hl, _⟩ => hl) fun cdv A outer s H vs Q E hr hsp => ⟨_, body cdv A outer s H E hr (takes_of rfl rfl rfl rfl) (passes_of rfl), ?_⟩
  obtain ⟨H0, ts, ow, hl, si, h⟩ := hsp
  rw [hp] at hl
  have e1 : L2.start N vs = vs.map some ++ List.replicate (n - np) none := by unfold L2.start; rw [hn, hl]
  rw [e1]
  refine ⟨H0, _, ow, si.pad (n - np), ?_⟩
  unfold runDef at h
  have back : ∀ {σ' : L2.St} {e' : En} {H' H0' : Hp} {ow' : Ow}, Step H H0 (InO ow) H' H0' (InO ow') → Sim K mg H' H0' σ' e' ow' → Fixd fx (vs.map some ++ List.replicate (n - np) none) σ' →
      Step H H0 (InO ow) H' H0' (InO (owP fx np ow')) ∧ Sim K mg H' H0' (vs.map some) (outs fx np 0 e') (owP fx np ow') := fun st s fi => ⟨step_less st fun a m => inP m, s.params hl fi⟩
  cases q : m (ts.map some ++ List.replicate (n - np) none) with
  | bad => rw [q] at h; exact h.elim
  | err x e' =>
    rw [q] at h
    intro c dd σ' H' H0' ow' st s fi xr
    obtain ⟨b1, b2⟩ := back st s fi
    exact h c dd H' H0' _ b1 b2 xr
  | ok fl e' =>
    rw [q] at h
    cases fl with
    | nx =>
      intro σ' H' H0' ow' st s fi
      obtain ⟨b1, b2⟩ := back st s fi
      exact h .non H' H0' _ [] b1 b2 ⟨rfl, rfl⟩ ⟨List.nodup_nil, fun _ m => (nomatch m), fun _ m => (nomatch m), fun _ m => (nomatch m)⟩
    | ret t =>
      intro σ' v H' H0' ow' f st s fi o tm
      obtain ⟨b1, b2⟩ := back st s fi
      exact h v H' H0' _ f b1 b2 o ⟨tm.nd, tm.out, fun a m q => tm.sep a m (inP q), tm.new⟩
    | bk => exact h.elim
    | ct => exact h.elim
theorem callee_of {x qual y : Str} {st : Stmt} {f : Addr} {fd : FuncData} {N ps : List Str} {k n np : Nat} {fx : List Nat} {m : Mo Fl} (F : Fun K x qual st f fd) (gy : mg y = some (.ref f)) (hb : Binds K fd ps []) (S : FnScope N ps (defScope st)) (hn : N.length = n) (hp : ps.length = np)
    (body : ∀ (cdv : Value) (A : Around) (outer : List Env) (s : Shared) (H : Hp) (E : XK), Room k (cxOf (L2.CX P w) P w K mg base N qual (defScope st) f cdv A outer s H E).A → Takes (cxOf (L2.CX P w) P w K mg base N qual (defScope st) f cdv A outer s H E) (fun c d _ H => E c d H) →
      PassesOwn (model P w) (cxOf (L2.CX P w) P w K mg base N qual (defScope st) f cdv A outer s H E).A (cxOf (L2.CX P w) P w K mg base N qual (defScope st) f cdv A outer s H E).env (cxOf (L2.CX P w) P w K mg base N qual (defScope st) f cdv A outer s H E).xe →
      PSsm (cxOf (L2.CX P w) P w K mg base N qual (defScope st) f cdv A outer s H E) (fun c d _ H => E c d H) fx (defBody st) m) : Callee P w K mg base (k + 1) y ps (runDef n np fx m) := ⟨f, fd, gy, F.kp, hb, fnok_of F gy hb S hn hp body⟩
end
end Pf

set_option Elab.async false
set_option linter.all false
set_option maxRecDepth 100000
/-! Pf7: operations by values on data. -/
namespace Pf
open PySem PySem.Spec PyProof.Rows L2

section
variable {K : PySem.W.Frag} {mg : Str → Option Value} {H H0 : Hp} {r r' : List V → Hp → VK → Prop} {f g : List D → Option T}
theorem rs1 {d : D} {vs : List V} (h : RepSs K mg H H0 [d] vs) : ∃ v, vs = [v] ∧ RepS K mg H H0 d v := by
  obtain ⟨v, ws, e, r, e2⟩ := h
  have e2 : ws = [] := e2
  subst e2
  exact ⟨v, e, r⟩
theorem rs2 {d d2 : D} {vs : List V} (h : RepSs K mg H H0 [d, d2] vs) : ∃ v w, vs = [v, w] ∧ RepS K mg H H0 d v ∧ RepS K mg H H0 d2 w := by
  obtain ⟨v, ws, e, r, r2⟩ := h
  obtain ⟨w, e2, q⟩ := rs1 r2
  subst e2
  exact ⟨v, w, e, r, q⟩
theorem rs3 {d d2 d3 : D} {vs : List V} (h : RepSs K mg H H0 [d, d2, d3] vs) : ∃ v w x, vs = [v, w, x] ∧ RepS K mg H H0 d v ∧ RepS K mg H H0 d2 w ∧ RepS K mg H H0 d3 x := by
  obtain ⟨v, ws, e, r, r2⟩ := h
  obtain ⟨w, x, e2, q, q2⟩ := rs2 r2
  subst e2
  exact ⟨v, w, x, e, r, q, q2⟩
abbrev Kq (K : PySem.W.Frag) (mg : Str → Option Value) (H H0 : Hp) (t : T) (Q : VK) : Prop := ∀ v H' H0' g, Gro H H0 H' H0' → Own K mg H' H0' t v g → g.Nodup → (∀ a ∈ g, H a = none ∧ H0' a = none) → Q v H'
theorem Kq.here {d : D} {v : V} {Q : VK} (k : Kq K mg H H0 (.val d) Q) (s : Same H0 H) (r : Rep K mg H0 d v) : Q v H := k v H H0 [] (Gro.refl s) ⟨rfl, r⟩ List.nodup_nil fun _ m => (nomatch m)
theorem owns_vals : ∀ {ds : List D} {vs : List V}, Reps K mg H0 ds vs → Owns K mg H H0 (ds.map T.val) vs []
  | [], _, h => ⟨h, rfl⟩
  | d :: ds, _, ⟨v, ws, e, r, r2⟩ => ⟨v, ws, [], [], e, ⟨rfl, r⟩, owns_vals r2, rfl⟩
theorem Kq.lst {ds : List D} {vs : List V} {Q : VK} {p : Addr} (k : Kq K mg H H0 (.lst (ds.map T.val)) Q) (s : Same H0 H) (hp : H p = none) (r : Reps K mg H0 ds vs) : Q (.ref p) (upd H p (.lst vs)) :=
  k (.ref p) _ H0 [p] (Gro.lay s hp) ⟨p, vs, [], rfl, upd_same, owns_vals r, rfl⟩ (by simp) fun a m => by
    rw [List.mem_singleton.mp m]
    refine ⟨hp, ?_⟩
    cases q : H0 p with
    | none => rfl
    | some u => rw [s _ _ q] at hp; cases hp
theorem Kq.tup {ds : List D} {vs : List V} {Q : VK} {p : Addr} (k : Kq K mg H H0 (.val (.tup ds)) Q) (s : Same H0 H) (hp : H p = none) (r : Reps K mg H0 ds vs) : Q (.ref p) (upd H p (.tup vs)) := by
  have g : Gro H H0 (upd H p (.tup vs)) (upd H0 p (.tup vs)) := Gro.put s hp
  exact k (.ref p) _ _ [] g ⟨rfl, p, vs, rfl, SqT.of upd_same, Reps.mono g.fro r⟩ List.nodup_nil fun _ m => (nomatch m)
theorem reps_append : ∀ {ds es : List D} {vs ws : List V}, Reps K mg H0 ds vs → Reps K mg H0 es ws → Reps K mg H0 (ds ++ es) (vs ++ ws)
  | [], es, vs, ws, h, h2 => by
    have h : vs = [] := h
    subst h
    exact h2
  | d :: ds, es, _, ws, ⟨v, us, e, r, r2⟩, h2 => by
    subst e
    exact ⟨v, us ++ ws, rfl, r, reps_append r2 h2⟩
theorem reps_drop : ∀ {ds : List D} {vs : List V} (n : Nat), Reps K mg H0 ds vs → Reps K mg H0 (ds.drop n) (vs.drop n)
  | [], vs, n, h => by
    have h : vs = [] := h
    subst h
    rw [List.drop_nil, List.drop_nil]
    rfl
  | d :: ds, vs, 0, h => h
  | d :: ds, _, n + 1, ⟨v, us, e, r, r2⟩ => by
    subst e
    exact reps_drop n r2
theorem reps_take : ∀ {ds : List D} {vs : List V} (n : Nat), Reps K mg H0 ds vs → Reps K mg H0 (ds.take n) (vs.take n)
  | [], vs, n, h => by
    have h : vs = [] := h
    subst h
    rw [List.take_nil, List.take_nil]
    rfl
  | d :: ds, vs, 0, h => rfl
  | d :: ds, _, n + 1, ⟨v, us, e, r, r2⟩ => by
    subst e
    exact ⟨v, us.take n, rfl, r, reps_take n r2⟩
/-- the parts of a sequence -/
theorem repS_seq {d : D} {ds : List D} {v : V} (s : Same H0 H) (h : RepS K mg H H0 d v) (e : d = .lst ds ∨ d = .rol ds ∨ d = .tup ds) : ∃ a vs, v = .ref a ∧ (SqL K H a vs ∨ SqT K H a vs) ∧ Reps K mg H0 ds vs := by
  rcases e with rfl | rfl | rfl
  · obtain ⟨a, vs, e, h1, h2⟩ := h
    exact ⟨a, vs, e, .inl (SqL.of h1), h2⟩
  · obtain ⟨a, vs, e, h1, h2⟩ := h
    exact ⟨a, vs, e, .inl (s.seq h1), h2⟩
  · obtain ⟨a, vs, e, h1, h2⟩ := h
    exact ⟨a, vs, e, .inr (Same.tup s h1), h2⟩
end

/-! ### + - * // % ** -/
def fAdd : List D → Option T
  | [.int i, .int j] => some (.val (.int (i + j)))
  | [.str x, .str y] => if x.length + y.length ≤ 10000000 then some (.val (.str (x ++ y))) else none
  | [.tup a, .tup b] => if a.length + b.length ≤ 1000000 then some (.val (.tup (a ++ b))) else none
  | [.lst a, .lst b] => if a.length + b.length ≤ 1000000 then some (.lst ((a ++ b).map T.val)) else none
  | _ => none
abbrev rStrAdd : R2 := fun x y H Q => ∃ i j, x = .str i ∧ y = .str j ∧ i.length + j.length ≤ sizeLine ∧ Q (.str (i ++ j)) H
def rAddAll (K : PySem.W.Frag) : R2 := fun x y H Q => (rI0 fun i j => .int (i + j)) x y H Q ∨ rStrAdd x y H Q ∨ rCatA K x y H Q ∨ rCat x y H Q
theorem op_addAll {X : Cx} : OpR X (binaryOp .Add) (rAddAll X.K) := op_add.or (op_add_str.or (op_catA.or op_cat))
theorem le_line {n : Nat} (h : n ≤ 10000000) : n ≤ sizeLine := by rw [sizeLine_eq]; omega
theorem cg_add {K : PySem.W.Frag} {mg : Str → Option Value} : CG K mg (ra2 (rAddAll K)) fAdd := by
  intro H H0 ds vs t Q s rs hf k
  unfold fAdd at hf
  split at hf
  · cases hf
    obtain ⟨v, w, e, r1, r2⟩ := rs2 rs
    subst e
    have r1 : v = _ := r1
    have r2 : w = _ := r2
    exact .inl ⟨_, _, r1, r2, Kq.here k s rfl⟩
  · split at hf
    · rename_i hl
      cases hf
      obtain ⟨v, w, e, r1, r2⟩ := rs2 rs
      subst e
      have r1 : v = _ := r1
      have r2 : w = _ := r2
      exact .inr (.inl ⟨_, _, r1, r2, le_line hl, Kq.here k s rfl⟩)
    · cases hf
  · split at hf
    · rename_i hl
      cases hf
      obtain ⟨v, w, e, r1, r2⟩ := rs2 rs
      subst e
      obtain ⟨a, xs, e1, h1, q1⟩ := r1
      obtain ⟨b, ys, e2, h2, q2⟩ := r2
      refine .inr (.inr (.inl ⟨a, b, xs, ys, e1, e2, Same.tup s h1, Same.tup s h2, by rw [q1.len, q2.len]; exact le_line (by omega), fun ex => ?_, fun ex ey => ?_, fun ex ey p hp => ?_⟩))
      · refine Kq.here k s ⟨b, ys, rfl, h2, ?_⟩
        have z := reps_append q1 q2
        rw [ex] at z
        exact z
      · refine Kq.here k s ⟨a, xs, rfl, h1, ?_⟩
        have z := reps_append q1 q2
        rw [ey, List.append_nil] at z
        exact z
      · exact Kq.tup k s hp (reps_append q1 q2)
    · cases hf
  · split at hf
    · rename_i hl
      cases hf
      obtain ⟨v, w, e, r1, r2⟩ := rs2 rs
      subst e
      obtain ⟨a, xs, e1, h1, q1⟩ := r1
      obtain ⟨b, ys, e2, h2, q2⟩ := r2
      exact .inr (.inr (.inr ⟨a, b, xs, ys, e1, e2, h1, h2, by rw [q1.len, q2.len]; exact le_line (by omega), fun p hp => Kq.lst k s hp (reps_append q1 q2)⟩))
    · cases hf
  · cases hf
/-- two ints to data -/
def fII (c : Int → Int → Bool) (g : Int → Int → D) : List D → Option T
  | [.int i, .int j] => match c i j with
    | true => some (.val (g i j))
    | false => none
  | _ => none
theorem cg_ii {K : PySem.W.Frag} {mg : Str → Option Value} {C : Int → Int → Prop} {gv : Int → Int → V} {c : Int → Int → Bool} {g : Int → Int → D} (hc : ∀ i j, c i j = true → C i j) (hg : ∀ i j H0, c i j = true → Rep K mg H0 (g i j) (gv i j)) : CG K mg (ra2 (rI C gv)) (fII c g) := by
  intro H H0 ds vs t Q s rs hf k
  unfold fII at hf
  split at hf
  · split at hf
    · rename_i q
      cases hf
      obtain ⟨v, w, e, r1, r2⟩ := rs2 rs
      subst e
      have r1 : v = _ := r1
      have r2 : w = _ := r2
      exact ⟨_, _, r1, r2, hc _ _ q, Kq.here k s (hg _ _ _ q)⟩
    · cases hf
  · cases hf
def fII0 (g : Int → Int → D) : List D → Option T
  | [.int i, .int j] => some (.val (g i j))
  | _ => none
theorem cg_ii0 {K : PySem.W.Frag} {mg : Str → Option Value} {gv : Int → Int → V} {g : Int → Int → D} (hg : ∀ i j H0, Rep K mg H0 (g i j) (gv i j)) : CG K mg (ra2 (rI0 gv)) (fII0 g) := by
  intro H H0 ds vs t Q s rs hf k
  unfold fII0 at hf
  split at hf
  · cases hf
    obtain ⟨v, w, e, r1, r2⟩ := rs2 rs
    subst e
    have r1 : v = _ := r1
    have r2 : w = _ := r2
    exact ⟨_, _, r1, r2, Kq.here k s (hg _ _ _)⟩
  · cases hf
abbrev fSub := fII0 fun i j => D.int (i - j)
theorem cg_sub {K : PySem.W.Frag} {mg : Str → Option Value} : CG K mg (ra2 (rI0 fun i j => .int (i - j))) fSub := cg_ii0 fun _ _ _ => rfl
def cMul (i j : Int) : Bool := (decide (-(2 ^ 64) < i) && decide (i < 2 ^ 64)) || (decide (-(2 ^ 64) < j) && decide (j < 2 ^ 64))
abbrev fMul := fII cMul fun i j => D.int (i * j)
theorem cg_mul {K : PySem.W.Frag} {mg : Str → Option Value} : CG K mg (ra2 (rI CMul fun i j => .int (i * j))) fMul := cg_ii (fun i j h => by
  unfold cMul at h
  simp only [Bool.or_eq_true, Bool.and_eq_true, decide_eq_true_eq] at h
  exact h) fun _ _ _ _ => rfl
abbrev fMod := fII (fun _ j => decide (0 < j)) fun i j => D.int (i % j)
theorem cg_mod {K : PySem.W.Frag} {mg : Str → Option Value} : CG K mg (ra2 (rI (fun _ j => 0 < j) fun i j => .int (i % j))) fMod := cg_ii (fun i j h => of_decide_eq_true h) fun _ _ _ _ => rfl
abbrev fDiv := fII (fun _ j => decide (0 < j) && decide (j < 1073741824)) fun i j => D.int (i / j)
theorem cg_div {K : PySem.W.Frag} {mg : Str → Option Value} : CG K mg (ra2 (rI CDiv fun i j => .int (i / j))) fDiv := cg_ii (fun i j h => by
  simp only [Bool.and_eq_true, decide_eq_true_eq] at h
  exact h) fun _ _ _ _ => rfl
abbrev fPow := fII (fun i j => decide (0 ≤ j) && (decide (j ≤ 1000000) && decide (i.natAbs < 2 ^ 64))) fun i j => D.int (i ^ j.toNat)
theorem cg_pow {K : PySem.W.Frag} {mg : Str → Option Value} : CG K mg (ra2 (rI CPow fun i j => .int (i ^ j.toNat))) fPow := cg_ii (fun i j h => by
  simp only [Bool.and_eq_true, decide_eq_true_eq] at h
  exact h) fun _ _ _ _ => rfl
abbrev fLt := fII0 fun i j => D.bl (decide (i < j))
abbrev fLe := fII0 fun i j => D.bl (decide (i ≤ j))
abbrev fGt := fII0 fun i j => D.bl (decide (j < i))
abbrev fGe := fII0 fun i j => D.bl (decide (j ≤ i))
section
variable {K : PySem.W.Frag} {mg : Str → Option Value}
theorem cg_lt : CG K mg (ra2 (rI0 fun i j => .bl (decide (i < j)))) fLt := cg_ii0 fun _ _ _ => rfl
theorem cg_le : CG K mg (ra2 (rI0 fun i j => .bl (decide (i ≤ j)))) fLe := cg_ii0 fun _ _ _ => rfl
theorem cg_gt : CG K mg (ra2 (rI0 fun i j => .bl (decide (j < i)))) fGt := cg_ii0 fun _ _ _ => rfl
theorem cg_ge : CG K mg (ra2 (rI0 fun i j => .bl (decide (j ≤ i)))) fGe := cg_ii0 fun _ _ _ => rfl
/-- scalars that == compares -/
def eqS : D → D → Option Bool
  | .non, .non => some true
  | .int i, .int j => some (decide (i = j))
  | .bl i, .bl j => some (decide (i = j))
  | .str i, .str j => some (decide (i = j))
  | .non, .int _ => some false
  | .int _, .non => some false
  | .non, .bl _ => some false
  | .bl _, .non => some false
  | .non, .str _ => some false
  | .str _, .non => some false
  | .int _, .str _ => some false
  | .str _, .int _ => some false
  | .bl _, .str _ => some false
  | .str _, .bl _ => some false
  | _, _ => none
def fEq : List D → Option T
  | [x, y] => match eqS x y with
    | some b => some (.val (.bl b))
    | none => none
  | _ => none
def fNe : List D → Option T
  | [x, y] => match eqS x y with
    | some b => some (.val (.bl (!b)))
    | none => none
  | _ => none
theorem eqS_ok {H H0 : Hp} {x y : D} {v w : V} {b : Bool} (h : eqS x y = some b) (r1 : RepS K mg H H0 x v) (r2 : RepS K mg H H0 y w) : scal v w = true ∧ decide (v = w) = b := by
  unfold eqS at h
  split at h <;> first
    | (cases h; have r1 : v = _ := r1; have r2 : w = _ := r2; subst r1 r2; refine ⟨rfl, ?_⟩; first | rfl | simp)
    | cases h
theorem cg_eq : CG K mg (ra2 rEq) fEq := by
  intro H H0 ds vs t Q s rs hf k
  unfold fEq at hf
  split at hf
  · split at hf
    · rename_i q
      cases hf
      obtain ⟨v, w, e, r1, r2⟩ := rs2 rs
      subst e
      obtain ⟨h1, h2⟩ := eqS_ok q r1 r2
      refine ⟨h1, ?_⟩
      rw [h2]
      exact Kq.here k s rfl
    · cases hf
  · cases hf
theorem cg_ne : CG K mg (ra2 rNe) fNe := by
  intro H H0 ds vs t Q s rs hf k
  unfold fNe at hf
  split at hf
  · split at hf
    · rename_i q
      cases hf
      obtain ⟨v, w, e, r1, r2⟩ := rs2 rs
      subst e
      obtain ⟨h1, h2⟩ := eqS_ok q r1 r2
      refine ⟨h1, ?_⟩
      rw [h2]
      exact Kq.here k s rfl
    · cases hf
  · cases hf
def isNon : D → Bool
  | .non => true
  | _ => false
def noGlo : D → Bool
  | .glo _ => false
  | _ => true
def fIsN : List D → Option T
  | [x, .non] => if noGlo x = true then some (.val (.bl (isNon x))) else none
  | _ => none
def fNotN : List D → Option T
  | [x, .non] => if noGlo x = true then some (.val (.bl (!isNon x))) else none
  | _ => none
theorem isNon_ok {H H0 : Hp} {x : D} {v : V} (h : noGlo x = true) (r : RepS K mg H H0 x v) : decide (v = .non) = isNon x := by
  cases x with
  | non => have r : v = .non := r; subst r; rfl
  | bl b => have r : v = .bl b := r; subst r; rfl
  | int i => have r : v = .int i := r; subst r; rfl
  | str z => have r : v = .str z := r; subst r; rfl
  | ty n => have r : v = .ty n := r; subst r; rfl
  | tup ds => obtain ⟨a, vs, e, _⟩ := r; subst e; rfl
  | lst ds => obtain ⟨a, vs, e, _⟩ := r; subst e; rfl
  | rol ds => obtain ⟨a, vs, e, _⟩ := r; subst e; rfl
  | dic ks ds => obtain ⟨a, vs, e, _⟩ := r; subst e; rfl
  | dit ks ds => obtain ⟨a, vs, e, _⟩ := r; subst e; rfl
  | ins c fs ds => obtain ⟨a, C, dx, vs, e, _⟩ := r; subst e; rfl
  | glo x => cases h
theorem cg_isN : CG K mg (ra2 fun x y H Q => y = .non ∧ Q (.bl (decide (x = .non))) H) fIsN := by
  intro H H0 ds vs t Q s rs hf k
  unfold fIsN at hf
  split at hf
  · split at hf
    · rename_i q
      cases hf
      obtain ⟨v, w, e, r1, r2⟩ := rs2 rs
      subst e
      refine ⟨r2, ?_⟩
      rw [isNon_ok q r1]
      exact Kq.here k s rfl
    · cases hf
  · cases hf
theorem cg_notN : CG K mg (ra2 fun x y H Q => y = .non ∧ Q (.bl (!decide (x = .non))) H) fNotN := by
  intro H H0 ds vs t Q s rs hf k
  unfold fNotN at hf
  split at hf
  · split at hf
    · rename_i q
      cases hf
      obtain ⟨v, w, e, r1, r2⟩ := rs2 rs
      subst e
      refine ⟨r2, ?_⟩
      rw [isNon_ok q r1]
      exact Kq.here k s rfl
    · cases hf
  · cases hf
/-! ### x[i] -/
def fIx : List D → Option T
  | [.lst ds, .int i] => (atI ds i).map T.val
  | [.rol ds, .int i] => (atI ds i).map T.val
  | [.tup ds, .int i] => (atI ds i).map T.val
  | [.str z, .int i] => if z.length ≤ 10000000 then (atI z.cps.toList i).map fun c => T.val (.str ⟨#[c]⟩) else none
  | _ => none
theorem atI_reps {H0 : Hp} {ds : List D} {vs : List V} {i : Int} {d : D} (r : Reps K mg H0 ds vs) (h : atI ds i = some d) : ∃ v, atI vs i = some v ∧ Rep K mg H0 d v := by
  unfold atI at h ⊢
  rw [r.len]
  cases q : ixN ds.length i with
  | none => rw [q] at h; cases h
  | some j =>
    rw [q] at h
    exact reps_get r h
theorem cg_ix : CG K mg (ra2 (rIx K)) fIx := by
  intro H H0 ds vs t Q s rs hf k
  unfold fIx at hf
  split at hf
  · obtain ⟨d, hd, et⟩ := Option.map_eq_some_iff.mp hf
    subst et
    obtain ⟨v, w, e, r1, r2⟩ := rs2 rs
    subst e
    have r2 : w = _ := r2
    obtain ⟨a, xs, e1, h1, q1⟩ := r1
    obtain ⟨y, hy, ry⟩ := atI_reps q1 hd
    exact .inl ⟨a, xs, _, y, e1, r2, SqL.of h1, hy, Kq.here k s ry⟩
  · obtain ⟨d, hd, et⟩ := Option.map_eq_some_iff.mp hf
    subst et
    obtain ⟨v, w, e, r1, r2⟩ := rs2 rs
    subst e
    have r2 : w = _ := r2
    obtain ⟨a, xs, e1, h1, q1⟩ := r1
    obtain ⟨y, hy, ry⟩ := atI_reps q1 hd
    exact .inl ⟨a, xs, _, y, e1, r2, s.seq h1, hy, Kq.here k s ry⟩
  · obtain ⟨d, hd, et⟩ := Option.map_eq_some_iff.mp hf
    subst et
    obtain ⟨v, w, e, r1, r2⟩ := rs2 rs
    subst e
    have r2 : w = _ := r2
    obtain ⟨a, xs, e1, h1, q1⟩ := r1
    obtain ⟨y, hy, ry⟩ := atI_reps q1 hd
    exact .inr (.inl ⟨a, xs, _, y, e1, r2, Same.tup s h1, hy, Kq.here k s ry⟩)
  · split at hf
    · rename_i hl
      obtain ⟨c, hc, et⟩ := Option.map_eq_some_iff.mp hf
      subst et
      obtain ⟨v, w, e, r1, r2⟩ := rs2 rs
      subst e
      have r1 : v = _ := r1
      have r2 : w = _ := r2
      exact .inr (.inr ⟨_, _, c, r1, r2, le_line hl, hc, Kq.here k s rfl⟩)
    · cases hf
  · cases hf
/-! ### d[k] of a dict with int and text keys -/
def asKey : D → Option Key
  | .int i => some (.inl i)
  | .str x => some (.inr x)
  | _ => none
def look (ks : List Key) (ds : List D) (k : Key) : Option D := ((ks.zip ds).find? fun p => decide (p.1 = k)).map (·.2)
theorem look_reps {H0 : Hp} : ∀ {ks : List Key} {ds : List D} {vs : List V} {k : Key}, Reps K mg H0 ds vs → match look ks ds k with
    | some d => ∃ v, valV (ks.zip vs) k = some v ∧ Rep K mg H0 d v
    | none => valV (ks.zip vs) k = none
  | [], ds, vs, k, r => by simp [look, valV]
  | k0 :: ks, [], vs, k, r => by
    have r : vs = [] := r
    subst r
    simp [look, valV]
  | k0 :: ks, d :: ds, _, k, ⟨v, ws, e, r1, r2⟩ => by
    subst e
    by_cases q : k0 = k
    · simp [look, valV, q, r1]
    · have ih := look_reps (ks := ks) (k := k) r2
      simpa [look, valV, q] using ih
def fDx : List D → Option T
  | [.dic ks ds, k] => match asKey k with
    | some k => (look ks ds k).map T.val
    | none => none
  | _ => none
abbrev rDx : R2 := fun x y H Q => ∃ a v, x = .ref a ∧ DGet H a y (some v) ∧ Q v H
theorem asKey_ok {H H0 : Hp} {d : D} {k : Key} {v : V} (h : asKey d = some k) (r : RepS K mg H H0 d v) : v = kV k := by
  unfold asKey at h
  split at h
  · cases h; exact r
  · cases h; exact r
  · cases h
theorem cg_dx : CG K mg (ra2 rDx) fDx := by
  intro H H0 ds vs t Q s rs hf k
  unfold fDx at hf
  split at hf
  · split at hf
    · rename_i ks' ds' k1 _ k' q
      obtain ⟨d, hd, et⟩ := Option.map_eq_some_iff.mp hf
      subst et
      obtain ⟨v, w, e, r1, r2⟩ := rs2 rs
      subst e
      obtain ⟨a, xs, e1, h1, hl, q1⟩ := r1
      have ek := asKey_ok q r2
      subst ek
      have z := look_reps (k := k') (ks := ks') q1
      rw [hd] at z
      obtain ⟨y, hy, ry⟩ := z
      exact ⟨a, y, e1, .inl ⟨_, _, h1, rfl, hy.symm⟩, Kq.here k s ry⟩
    · cases hf
  · cases hf
/-! ### built-ins -/
def fAbs : List D → Option T
  | [.int i] => some (.val (.int (if i < 0 then -i else i)))
  | _ => none
theorem cg_abs : CG K mg (fun xs H Q => ∃ i, xs = [.int i] ∧ Q (.int (if i < 0 then -i else i)) H) fAbs := by
  intro H H0 ds vs t Q s rs hf k
  unfold fAbs at hf
  split at hf
  · cases hf
    obtain ⟨v, e, r1⟩ := rs1 rs
    have r1 : v = _ := r1
    subst e r1
    exact ⟨_, rfl, Kq.here k s rfl⟩
  · cases hf
def fMax2 : List D → Option T
  | [.int i, .int j] => some (.val (.int (if j > i then j else i)))
  | _ => none
theorem cg_max2 : CG K mg (fun xs H Q => ∃ i j, xs = [.int i, .int j] ∧ Q (.int (if j > i then j else i)) H) fMax2 := by
  intro H H0 ds vs t Q s rs hf k
  unfold fMax2 at hf
  split at hf
  · cases hf
    obtain ⟨v, w, e, r1, r2⟩ := rs2 rs
    have r1 : v = _ := r1
    have r2 : w = _ := r2
    subst e r1 r2
    exact ⟨_, _, rfl, Kq.here k s rfl⟩
  · cases hf
def fMin2 : List D → Option T
  | [.int i, .int j] => some (.val (.int (if j < i then j else i)))
  | _ => none
theorem cg_min2 : CG K mg (fun xs H Q => ∃ i j, xs = [.int i, .int j] ∧ Q (.int (if j < i then j else i)) H) fMin2 := by
  intro H H0 ds vs t Q s rs hf k
  unfold fMin2 at hf
  split at hf
  · cases hf
    obtain ⟨v, w, e, r1, r2⟩ := rs2 rs
    have r1 : v = _ := r1
    have r2 : w = _ := r2
    subst e r1 r2
    exact ⟨_, _, rfl, Kq.here k s rfl⟩
  · cases hf
def fStr : List D → Option T
  | [.int i] => if i.natAbs < 2 ^ 1000 then some (.val (.str (toString i : String))) else none
  | _ => none
theorem cg_str : CG K mg (fun xs H Q => ∃ i : Int, xs = [.int i] ∧ i.natAbs.log2 < 1920 ∧ Q (.str (toString i : String)) H) fStr := by
  intro H H0 ds vs t Q s rs hf k
  unfold fStr at hf
  split at hf
  · rename_i i
    split at hf
    · rename_i hl
      cases hf
      obtain ⟨v, e, r1⟩ := rs1 rs
      have r1 : v = _ := r1
      subst e r1
      refine ⟨_, rfl, ?_, Kq.here k s rfl⟩
      by_cases h0 : i.natAbs = 0
      · rw [h0]; decide
      · exact Nat.lt_trans ((Nat.log2_lt h0).mpr hl) (by decide)
    · cases hf
  · cases hf
def fLen : List D → Option T
  | [.lst ds] => some (.val (.int ds.length))
  | [.rol ds] => some (.val (.int ds.length))
  | [.tup ds] => some (.val (.int ds.length))
  | [.str z] => if z.length ≤ 10000000 then some (.val (.int z.length)) else none
  | _ => none
def rLenAll (K : PySem.W.Frag) : List V → Hp → VK → Prop := fun xs H Q => (∃ p ys, xs = [.ref p] ∧ (SqL K H p ys ∨ SqT K H p ys) ∧ Q (.int ys.length) H) ∨ (∃ z, xs = [.str z] ∧ z.length ≤ sizeLine ∧ Q (.int z.length) H) ∨
  ∃ x n, xs = [x] ∧ LenV K x H n ∧ Q (.int n) H
theorem call_lenAll {X : Cx} : CallR X (.builtin "len") (rLenAll X.K) := call_len_seq.or (call_len_str.or call_len)
theorem cg_len : CG K mg (rLenAll K) fLen := by
  intro H H0 ds vs t Q s rs hf k
  unfold fLen at hf
  split at hf
  · cases hf
    obtain ⟨v, e, r1⟩ := rs1 rs
    obtain ⟨a, xs, e1, h1, q1⟩ := r1
    subst e e1
    exact .inl ⟨a, xs, rfl, .inl (SqL.of h1), by rw [q1.len]; exact Kq.here k s rfl⟩
  · cases hf
    obtain ⟨v, e, r1⟩ := rs1 rs
    obtain ⟨a, xs, e1, h1, q1⟩ := r1
    subst e e1
    exact .inl ⟨a, xs, rfl, .inl (s.seq h1), by rw [q1.len]; exact Kq.here k s rfl⟩
  · cases hf
    obtain ⟨v, e, r1⟩ := rs1 rs
    obtain ⟨a, xs, e1, h1, q1⟩ := r1
    subst e e1
    exact .inl ⟨a, xs, rfl, .inr (Same.tup s h1), by rw [q1.len]; exact Kq.here k s rfl⟩
  · split at hf
    · rename_i hl
      cases hf
      obtain ⟨v, e, r1⟩ := rs1 rs
      have r1 : v = _ := r1
      subst e r1
      exact .inr (.inl ⟨_, rfl, le_line hl, Kq.here k s rfl⟩)
    · cases hf
  · cases hf
def fList : List D → Option T
  | [.lst ds] => some (.lst (ds.map T.val))
  | [.rol ds] => some (.lst (ds.map T.val))
  | [.tup ds] => some (.lst (ds.map T.val))
  | _ => none
theorem cg_list : CG K mg (fun xs H Q => ∃ p ys, xs = [.ref p] ∧ (SqL K H p ys ∨ SqT K H p ys) ∧ ∀ l, H l = none → Q (.ref l) (upd H l (.lst ys))) fList := by
  intro H H0 ds vs t Q s rs hf k
  have main : ∀ {d : D} {es : List D}, ds = [d] → (d = .lst es ∨ d = .rol es ∨ d = .tup es) → t = .lst (es.map T.val) → ∃ p ys, vs = [.ref p] ∧ (SqL K H p ys ∨ SqT K H p ys) ∧ ∀ l, H l = none → Q (.ref l) (upd H l (.lst ys)) := fun {d es} ed e et => by
    subst ed et
    obtain ⟨v, ev, r1⟩ := rs1 rs
    obtain ⟨a, xs, e1, h1, q1⟩ := repS_seq s r1 e
    subst ev e1
    exact ⟨a, xs, rfl, h1, fun l hl => Kq.lst k s hl q1⟩
  unfold fList at hf
  split at hf
  · exact main rfl (.inl rfl) (Option.some.inj hf).symm
  · exact main rfl (.inr (.inl rfl)) (Option.some.inj hf).symm
  · exact main rfl (.inr (.inr rfl)) (Option.some.inj hf).symm
  · cases hf
def fTuple : List D → Option T
  | [.lst ds] => some (.val (.tup ds))
  | [.rol ds] => some (.val (.tup ds))
  | [.tup ds] => some (.val (.tup ds))
  | _ => none
theorem cg_tuple : CG K mg (fun xs H Q => ∃ p ys, xs = [.ref p] ∧ ((SqL K H p ys ∧ ∀ l, H l = none → Q (.ref l) (upd H l (.tup ys))) ∨ (SqT K H p ys ∧ Q (.ref p) H))) fTuple := by
  intro H H0 ds vs t Q s rs hf k
  unfold fTuple at hf
  split at hf
  · cases hf
    obtain ⟨v, e, r1⟩ := rs1 rs
    obtain ⟨a, xs, e1, h1, q1⟩ := r1
    subst e e1
    exact ⟨a, xs, rfl, .inl ⟨SqL.of h1, fun l hl => Kq.tup k s hl q1⟩⟩
  · cases hf
    obtain ⟨v, e, r1⟩ := rs1 rs
    obtain ⟨a, xs, e1, h1, q1⟩ := r1
    subst e e1
    exact ⟨a, xs, rfl, .inl ⟨s.seq h1, fun l hl => Kq.tup k s hl q1⟩⟩
  · cases hf
    obtain ⟨v, e, r1⟩ := rs1 rs
    obtain ⟨a, xs, e1, h1, q1⟩ := r1
    subst e e1
    exact ⟨a, xs, rfl, .inr ⟨Same.tup s h1, Kq.here k s ⟨a, xs, rfl, h1, q1⟩⟩⟩
  · cases hf
end
end Pf

set_option Elab.async false
set_option linter.all false
set_option maxRecDepth 100000
/-! Pf8: methods of texts, slices, isinstance, displays of dicts, append; dicts of the module. -/
namespace Pf
open PySem PySem.Spec PyProof.Rows L2

/-! ### methods of texts -/
def isS : T → Bool
  | .val (.str _) => true
  | _ => false
def mM1 (f : List D → Option T) (o1 o2 : Op) : Mo T := match o1 with
  | .ex m => bnd m fun t => match isS t with
    | true => bnd (mArgs [o2]) fun ts => ap f (t :: ts)
    | false => fail
  | .nm i => bnd (getS i) fun t => match isS t with
    | true => bnd (mArgs [o2]) fun ts => ap f (t :: ts)
    | false => fail
def rm1 (r : V → List V → Hp → VK → Prop) : List V → Hp → VK → Prop := fun vs H Q => match vs with
  | [x, y] => r x [y] H Q
  | _ => False
section
variable {K : PySem.W.Frag} {mg : Str → Option Value} {H H0 H1 H01 : Hp} {σ : L2.St} {e : En} {ow ow1 : Ow} {W : WX}
theorem isS_str {t : T} (h : isS t = true) : ∃ a, t = .val (.str a) := by
  unfold isS at h
  split at h
  · exact ⟨_, rfl⟩
  · cases h
/-- behind the receiver, a text -/
theorem m1_rest {t2 : TE} {o2 : Op} {r : V → List V → Hp → VK → Prop} {f : List D → Option T} (h2 : GoodO K mg W t2 o2) (cg : CG K mg (rm1 r) f) {a : Str} {Q : VK} (s : Sim K mg H H0 σ e ow)
    (h : (bnd (mArgs [o2]) (fun ts => ap f (T.val (.str a) :: ts)) e).Is (KE K mg σ H H0 ow Q) (KX K mg W σ H H0 ow)) : t2 σ H fun y H2 => r (.str a) [y] H2 Q := by
  refine goodAs_cons (te := t2) (t := tNil) h2 goodAs_nil σ H H0 e ow (fun vs H2 => rm1 r (.str a :: vs) H2 Q) s (Is_imp (Is_bnd h) (fun ts e1 _ h1 => ?_) fun _ _ z => z)
  intro vs H1 H01 ow1 fo st1 s1 ag tm
  unfold ap at h1
  cases q : peeks (T.val (.str a) :: ts) with
  | none => rw [q] at h1; exact h1.elim
  | some ds =>
    rw [q] at h1
    have h1 : ((match f ds with | some t => ret t | none => fail : Mo T) e1).Is (KE K mg σ H H0 ow Q) (KX K mg W σ H H0 ow) := h1
    cases q2 : f ds with
    | none => rw [q2] at h1; exact h1.elim
    | some t =>
      rw [q2] at h1
      have rs : RepSs K mg H1 H01 ds (.str a :: vs) := by
        unfold peeks at q
        dsimp only [T.peek] at q
        cases q3 : peeks ts with
        | none => rw [q3] at q; cases q
        | some ds' =>
          rw [q3] at q
          cases q
          exact ⟨.str a, vs, rfl, rfl, ag.peeks s1 q3⟩
      exact cg H1 H01 ds _ t Q s1.sub rs q2 fun v H2 H02 g gro own nd fr =>
        h1 v H2 H02 ow1 g (st1.trans gro.step) (s1.gro gro) own ⟨nd, fun a m => (fr a m).2, fun a m ⟨i, p⟩ => s1.live p (fr a m).1, fun a m => .inl (none_of_liv st1.liv (fr a m).1)⟩
theorem goodE_m1 {t1 t2 : TE} {o1 o2 : Op} {r : V → List V → Hp → VK → Prop} {f : List D → Option T} (h1 : GoodO K mg W t1 o1) (h2 : GoodO K mg W t2 o2) (cg : CG K mg (rm1 r) f) : GoodE K mg W (tM1 r t1 t2) (mM1 f o1 o2) := by
  intro σ H H0 e ow Q s h
  cases o1 with
  | ex m =>
    refine h1 σ H H0 e ow _ s (Is_imp (Is_bnd h) (fun t e1 _ hh => ?_) fun _ _ z => z)
    intro v H1 H01 ow1 f st1 s1 o tm
    cases q : isS t with
    | false => rw [q] at hh; exact hh.elim
    | true =>
      rw [q] at hh
      obtain ⟨a, et⟩ := isS_str q
      subst et
      have ev : v = .str a := o.2
      subst ev
      exact ⟨⟨a, rfl⟩, m1_rest h2 cg s1 (Is_imp hh (fun _ _ _ z => KE.pull st1 z) fun _ _ z => KX.pull st1 z)⟩
  | nm i =>
    have et : t1 = tVar i := h1
    subst et
    have hb := Is_bnd h
    unfold getS at hb
    cases q : e[i]? with
    | none => rw [q] at hb; exact hb.elim
    | some x =>
      cases x with
      | none => rw [q] at hb; exact hb.elim
      | some t =>
        rw [q] at hb
        have hb : ((match isS t with | true => bnd (mArgs [o2]) fun ts => ap f (t :: ts) | false => fail : Mo T) e).Is (KE K mg σ H H0 ow Q) (KX K mg W σ H H0 ow) := hb
        obtain ⟨v, hv, o⟩ := s.at_ i t q
        refine ⟨v, hv, ?_⟩
        cases q2 : isS t with
        | false => rw [q2] at hb; exact hb.elim
        | true =>
          rw [q2] at hb
          obtain ⟨a, et⟩ := isS_str q2
          subst et
          have ev : v = .str a := o.2
          subst ev
          exact ⟨⟨a, rfl⟩, m1_rest h2 cg s hb⟩
end
def strsD : List D → Option (List Str)
  | [] => some []
  | .str x :: ds => (strsD ds).map (x :: ·)
  | _ => none
theorem strsD_ok {K : PySem.W.Frag} {mg : Str → Option Value} {H : Hp} : ∀ {ds : List D} {ys : List Str} {vs : List V}, strsD ds = some ys → Reps K mg H ds vs → vs = ys.map V.str
  | [], ys, vs, h, r => by
    cases h
    exact r
  | d :: ds, ys, vs, h, ⟨v, ws, e, r, r2⟩ => by
    unfold strsD at h
    split at h
    · rename_i a e1; cases e1
    · rename_i a x ds' e1
      cases e1
      obtain ⟨zs, hz, ez⟩ := Option.map_eq_some_iff.mp h
      subst ez e
      have r : v = .str x := r
      rw [r, strsD_ok hz r2]
      rfl
    · cases h
def fJoin : List D → Option T
  | [.str a, d] => match (match d with | .lst ds => some ds | .rol ds => some ds | .tup ds => some ds | _ => none) with
    | some ds => match strsD ds with
      | some ys => if (ys.map (·.length)).sum + ys.length * a.length ≤ 10000000 then some (.val (.str (Txt.join a ys))) else none
      | none => none
    | none => none
  | _ => none
abbrev rJoin (K : PySem.W.Frag) : V → List V → Hp → VK → Prop := fun x xs H Q => ∃ a p, ∃ ys : List Str, x = .str a ∧ xs = [.ref p] ∧ (SqL K H p (ys.map V.str) ∨ SqT K H p (ys.map V.str)) ∧ (ys.map (·.length)).sum + ys.length * a.length ≤ 16777216 ∧ Q (.str (Txt.join a ys)) H
theorem cg_join {K : PySem.W.Frag} {mg : Str → Option Value} : CG K mg (rm1 (rJoin K)) fJoin := by
  intro H H0 ds vs t Q s rs hf k
  unfold fJoin at hf
  split at hf
  · rename_i a d
    obtain ⟨v, w, e, r1, r2⟩ := rs2 rs
    have r1 : v = _ := r1
    subst e r1
    have main : ∀ {es : List D}, (d = .lst es ∨ d = .rol es ∨ d = .tup es) → (match strsD es with | some ys => if (ys.map (·.length)).sum + ys.length * a.length ≤ 10000000 then some (T.val (.str (Txt.join a ys))) else none | none => none) = some t → rJoin K (.str a) [w] H Q := fun {es} ed hq => by
      obtain ⟨p, xs, e1, h1, q1⟩ := repS_seq s r2 ed
      subst e1
      cases q : strsD es with
      | none => rw [q] at hq; cases hq
      | some ys =>
        rw [q] at hq
        have hq : (if (ys.map (·.length)).sum + ys.length * a.length ≤ 10000000 then some (T.val (.str (Txt.join a ys))) else none) = some t := hq
        split at hq
        · rename_i hl
          cases hq
          have ex := strsD_ok q q1
          subst ex
          exact ⟨a, p, ys, rfl, rfl, h1, by omega, Kq.here k s rfl⟩
        · cases hq
    cases d with
    | lst es => exact main (.inl rfl) hf
    | rol es => exact main (.inr (.inl rfl)) hf
    | tup es => exact main (.inr (.inr rfl)) hf
    | _ => cases hf
  · cases hf

/-! ### slices -/
inductive Pt where
  | no | so (m : Mo T)
def asI : T → Mo (Option Int)
  | .val (.int i) => ret (some i)
  | _ => fail
def mPart : Pt → Mo (Option Int)
  | .no => ret none
  | .so m => bnd m asI
def KP (K : PySem.W.Frag) (mg : Str → Option Value) (σ : L2.St) (H H0 : Hp) (ow : Ow) (Q : Option Int → Hp → Prop) (o : Option Int) (e' : En) : Prop :=
  ∀ H' H0' ow', Step H H0 (InO ow) H' H0' (InO ow') → Sim K mg H' H0' σ e' ow' → Q o H'
def GoodPt (K : PySem.W.Frag) (mg : Str → Option Value) (W : WX) (t : TO) (p : Pt) : Prop := ∀ σ H H0 e ow (Q : Option Int → Hp → Prop), Sim K mg H H0 σ e ow → (mPart p e).Is (KP K mg σ H H0 ow Q) (KX K mg W σ H H0 ow) → t σ H Q
def ap3 (f : D → Option Int → Option Int → Option T) (t : T) (l u : Option Int) : Mo T := match t.peek with
  | some d => match f d l u with
    | some t' => ret t'
    | none => fail
  | none => fail
def mSl (f : D → Option Int → Option Int → Option T) (o : Op) (lo hi : Pt) : Mo T := match o with
  | .ex m => bnd m fun t => bnd (mPart lo) fun l => bnd (mPart hi) fun u => ap3 f t l u
  | .nm i => bnd (hasS i) fun _ => bnd (mPart lo) fun l => bnd (mPart hi) fun u => bnd (getS i) fun t => ap3 f t l u
def CG3 (K : PySem.W.Frag) (mg : Str → Option Value) (r : V → Option Int → Option Int → Hp → VK → Prop) (f : D → Option Int → Option Int → Option T) : Prop :=
  ∀ (H H0 : Hp) (d : D) (v : V) (l u : Option Int) (t : T) (Q : VK), Same H0 H → RepS K mg H H0 d v → f d l u = some t → Kq K mg H H0 t Q → r v l u H Q
section
variable {K : PySem.W.Frag} {mg : Str → Option Value} {H H0 H1 H01 : Hp} {σ : L2.St} {e : En} {ow ow1 : Ow} {W : WX}
theorem KP.pull {Q : Option Int → Hp → Prop} {o : Option Int} (st : Step H H0 (InO ow) H1 H01 (InO ow1)) (k : KP K mg σ H H0 ow Q o e) : KP K mg σ H1 H01 ow1 Q o e := fun H' H0' ow' a b => k H' H0' ow' (st.trans a) b
theorem goodPt_no : GoodPt K mg W tNoPart .no := fun σ H H0 e ow Q s h => h H H0 ow Step.refl s
theorem goodPt_so {te : TE} {m : Mo T} (g : GoodE K mg W te m) : GoodPt K mg W (tPart te) (.so m) := by
  intro σ H H0 e ow Q s h
  refine g σ H H0 e ow _ s (Is_imp (Is_bnd h) (fun t e1 _ h1 => ?_) fun _ _ z => z)
  intro v H1 H01 ow1 f st s1 o tm
  unfold asI at h1
  split at h1
  · exact ⟨_, o.2, h1 H1 H01 ow1 st s1⟩
  · exact h1.elim
/-- behind the base: v is what t owns at the end -/
theorem sl_end {r : V → Option Int → Option Int → Hp → VK → Prop} {f : D → Option Int → Option Int → Option T} (cg : CG3 K mg r f) {t : T} {v : V} {g : List Addr} {l u : Option Int} {Q : VK} (s : Sim K mg H H0 σ e ow) (o : Own K mg H H0 t v g)
    (h : (ap3 f t l u e).Is (KE K mg σ H H0 ow Q) (KX K mg W σ H H0 ow)) : r v l u H Q := by
  unfold ap3 at h
  cases q : t.peek with
  | none => rw [q] at h; exact h.elim
  | some d =>
    rw [q] at h
    have h : ((match f d l u with | some t' => ret t' | none => fail : Mo T) e).Is (KE K mg σ H H0 ow Q) (KX K mg W σ H H0 ow) := h
    cases q2 : f d l u with
    | none => rw [q2] at h; exact h.elim
    | some t' =>
      rw [q2] at h
      exact cg H H0 d v l u t' Q s.sub (o.peek s.sub q) q2 fun w H2 H02 g gro own nd fr => h w H2 H02 ow g gro.step (s.gro gro) own ⟨nd, fun a m => (fr a m).2, fun a m ⟨i, p⟩ => s.live p (fr a m).1, fun a m => .inl (fr a m).1⟩
theorem goodE_sl {t1 : TE} {o : Op} {tl th : TO} {lo hi : Pt} {r : V → Option Int → Option Int → Hp → VK → Prop} {f : D → Option Int → Option Int → Option T} (h1 : GoodO K mg W t1 o) (hl : GoodPt K mg W tl lo) (hh : GoodPt K mg W th hi) (cg : CG3 K mg r f) :
    GoodE K mg W (tSl r t1 tl th) (mSl f o lo hi) := by
  intro σ H H0 e ow Q s h
  cases o with
  | ex m =>
    refine h1 σ H H0 e ow _ s (Is_imp (Is_bnd h) (fun t e1 _ k1 => ?_) fun _ _ z => z)
    intro v H1 H01 ow1 g st1 s1 o1 tm
    refine hl σ H1 H01 e1 ow1 _ s1 (Is_imp (Is_bnd k1) (fun l e2 _ k2 => ?_) fun _ _ z => KX.pull st1 z)
    intro H2 H02 ow2 st2 s2
    refine hh σ H2 H02 e2 ow2 _ s2 (Is_imp (Is_bnd k2) (fun u e3 _ k3 => ?_) fun _ _ z => KX.pull (st1.trans st2) z)
    intro H3 H03 ow3 st3 s3
    exact sl_end cg s3 (Tmp.stay tm o1 (st2.trans st3)).1 (Is_imp k3 (fun _ _ _ z => KE.pull ((st1.trans st2).trans st3) z) fun _ _ z => KX.pull ((st1.trans st2).trans st3) z)
  | nm i =>
    have et : t1 = tVar i := h1
    subst et
    have k0 := Is_bnd h
    unfold hasS at k0
    cases q : e[i]? with
    | none => rw [q] at k0; exact k0.elim
    | some x =>
      cases x with
      | none => rw [q] at k0; exact k0.elim
      | some t0 =>
        rw [q] at k0
        have k1 : (bnd (mPart lo) (fun l => bnd (mPart hi) fun u => bnd (getS i) fun t => ap3 f t l u) e).Is (KE K mg σ H H0 ow Q) (KX K mg W σ H H0 ow) := k0
        obtain ⟨v, hv, _⟩ := s.at_ i t0 q
        refine ⟨v, hv, ?_⟩
        refine hl σ H H0 e ow _ s (Is_imp (Is_bnd k1) (fun l e2 _ k2 => ?_) fun _ _ z => z)
        intro H2 H02 ow2 st2 s2
        refine hh σ H2 H02 e2 ow2 _ s2 (Is_imp (Is_bnd k2) (fun u e3 _ k3 => ?_) fun _ _ z => KX.pull st2 z)
        intro H3 H03 ow3 st3 s3
        have k4 := Is_bnd k3
        unfold getS at k4
        cases q2 : e3[i]? with
        | none => rw [q2] at k4; exact k4.elim
        | some x =>
          cases x with
          | none => rw [q2] at k4; exact k4.elim
          | some t =>
            rw [q2] at k4
            obtain ⟨v', hv', o'⟩ := s3.at_ i t q2
            have ev : v' = v := by rw [hv] at hv'; exact (Option.some.inj (Option.some.inj hv')).symm
            subst ev
            exact sl_end cg s3 o' (Is_imp (show (ap3 f t l u e3).Is _ _ from k4) (fun _ _ _ z => KE.pull (st2.trans st3) z) fun _ _ z => KX.pull (st2.trans st3) z)
def cutD (ds : List D) (lo hi : Option Int) : List D := (ds.drop (HT.sIx ds.length 0 lo)).take (HT.sIx ds.length ds.length hi - HT.sIx ds.length 0 lo)
theorem cut_reps {ds : List D} {vs : List V} {lo hi : Option Int} (r : Reps K mg H0 ds vs) : Reps K mg H0 (cutD ds lo hi) (cutV vs lo hi) := by
  unfold cutD cutV
  rw [r.len]
  exact reps_take _ (reps_drop _ r)
def fSl : D → Option Int → Option Int → Option T
  | .str z, l, u => if z.length ≤ 10000000 then some (.val (.str (cutS z l u))) else none
  | .lst ds, l, u => some (.lst ((cutD ds l u).map T.val))
  | .rol ds, l, u => some (.lst ((cutD ds l u).map T.val))
  | .tup ds, l, u => some (.val (.tup (cutD ds l u)))
  | _, _, _ => none
def rSlAll (K : PySem.W.Frag) : V → Option Int → Option Int → Hp → VK → Prop := fun x lo hi H Q => rSlS x lo hi H Q ∨ rSlL K x lo hi H Q ∨ rSlA K x lo hi H Q
theorem sl_all {X : Cx} : SlR X (rSlAll X.K) := sl_str.or (sl_list.or sl_tupA)
end
theorem cutV_whole {xs : List V} {lo hi : Option Int} (h1 : HT.sIx xs.length 0 lo = 0) (h2 : HT.sIx xs.length xs.length hi = xs.length) : cutV xs lo hi = xs := by
  unfold cutV
  rw [h1, h2]
  simp
end Pf

set_option Elab.async false
set_option linter.all false
set_option maxRecDepth 100000
/-! Pf9: slices' data, isinstance, append, displays of dicts, dicts of the module. -/
namespace Pf
open PySem PySem.Spec PyProof.Rows L2

section
variable {K : PySem.W.Frag} {mg : Str → Option Value} {H H0 H1 H01 : Hp} {σ : L2.St} {e : En} {ow ow1 : Ow} {W : WX}
theorem cg_sl : CG3 K mg (rSlAll K) fSl := by
  intro H H0 d v l u t Q s r hf k
  cases d with
  | str z =>
    have hf : (if z.length ≤ 10000000 then some (T.val (.str (cutS z l u))) else none) = some t := hf
    split at hf
    · rename_i hl
      cases hf
      have r : v = _ := r
      exact .inl ⟨z, r, le_line hl, Kq.here k s rfl⟩
    · cases hf
  | lst ds =>
    cases hf
    obtain ⟨a, vs, e, h1, h2⟩ := r
    exact .inr (.inl ⟨a, vs, e, SqL.of h1, fun p hp => Kq.lst k s hp (cut_reps h2)⟩)
  | rol ds =>
    cases hf
    obtain ⟨a, vs, e, h1, h2⟩ := r
    exact .inr (.inl ⟨a, vs, e, s.seq h1, fun p hp => Kq.lst k s hp (cut_reps h2)⟩)
  | tup ds =>
    cases hf
    obtain ⟨a, vs, e, h1, h2⟩ := r
    have z := cut_reps (lo := l) (hi := u) h2
    refine .inr (.inr ⟨a, vs, e, Same.tup s h1, fun ⟨w1, w2⟩ => ?_, fun _ p hp => Kq.tup k s hp z⟩)
    rw [cutV_whole w1 w2] at z
    exact Kq.here k s ⟨a, vs, rfl, h1, z⟩
  | _ => cases hf
/-! ### isinstance(x, T), T a built-in class -/
def tyN : D → Option String
  | .non => some "NoneType"
  | .bl _ => some "bool"
  | .int _ => some "int"
  | .str _ => some "str"
  | .tup _ => some "tuple"
  | .lst _ => some "list"
  | .rol _ => some "list"
  | .dic _ _ => some "dict"
  | _ => none
def isiT (a b : String) : Bool := a == b || (a == "bool" && b == "int")
def tyNames : List String := ["NoneType", "bool", "int", "str", "tuple", "list", "dict"]
theorem kit_all : (tyNames.all fun a => ["bool", "int", "str", "tuple", "list", "dict"].all fun b => kitB a b == some (isiT a b)) = true := by decide +kernel
theorem kit_of_names {a b : String} (ha : a ∈ tyNames) (hb : b ∈ ["bool", "int", "str", "tuple", "list", "dict"]) : kitB a b = some (isiT a b) := by
  have h := List.all_eq_true.mp (List.all_eq_true.mp kit_all a ha) b hb
  exact eq_of_beq h
def fIsi : List D → Option T
  | [x, .ty b] => if b ∈ ["bool", "int", "str", "tuple", "list", "dict"] then (tyN x).map fun a => T.val (.bl (isiT a b)) else none
  | _ => none
theorem sqL_ty {a : Addr} {vs : List V} (h : SqL K H a vs) : TyX K H (.ref a) (.type "list") := by
  rcases h with (h | ⟨o, h⟩) | ⟨o, its, n, h, c, _⟩
  · exact .base (.lst h)
  · exact .base (.frz h)
  · exact .kList h c
theorem sqT_ty {a : Addr} {vs : List V} (h : SqT K H a vs) : TyX K H (.ref a) (.type "tuple") := by
  rcases h with (h | ⟨o, h⟩) | ⟨o, its, n, h, c, _⟩
  · exact .base (.tup h)
  · exact .fTuple h
  · exact .kTuple h c
theorem tyN_ok {x : D} {v : V} {a : String} (s : Same H0 H) (r : RepS K mg H H0 x v) (h : tyN x = some a) : TyX K H v (.type a) ∧ a ∈ tyNames := by
  cases x with
  | non => cases h; have r : v = _ := r; subst r; exact ⟨.base .non, by simp [tyNames]⟩
  | bl b => cases h; have r : v = _ := r; subst r; exact ⟨.base (.bl b), by simp [tyNames]⟩
  | int i => cases h; have r : v = _ := r; subst r; exact ⟨.base (.int i), by simp [tyNames]⟩
  | str z => cases h; have r : v = _ := r; subst r; exact ⟨.base (.str z), by simp [tyNames]⟩
  | tup ds => cases h; obtain ⟨p, vs, e, h1, _⟩ := r; subst e; exact ⟨sqT_ty (Same.tup s h1), by simp [tyNames]⟩
  | lst ds => cases h; obtain ⟨p, vs, e, h1, _⟩ := r; subst e; exact ⟨sqL_ty (SqL.of h1), by simp [tyNames]⟩
  | rol ds => cases h; obtain ⟨p, vs, e, h1, _⟩ := r; subst e; exact ⟨sqL_ty (s.seq h1), by simp [tyNames]⟩
  | dic ks ds =>
    cases h
    obtain ⟨p, vs, e, h1, _⟩ := r
    subst e
    refine ⟨?_, by simp [tyNames]⟩
    rcases h1 with h1 | ⟨o, h1⟩
    · exact .base (.dK h1)
    · exact .fDict h1
  | _ => cases h
theorem cg_isi : CG K mg (rIsi K) fIsi := by
  intro H H0 ds vs t Q s rs hf k
  unfold fIsi at hf
  split at hf
  · split at hf
    · rename_i x b hb
      obtain ⟨a, ha, et⟩ := Option.map_eq_some_iff.mp hf
      subst et
      obtain ⟨v, w, e, r1, r2⟩ := rs2 rs
      have r2 : w = .ty b := r2
      subst e r2
      obtain ⟨ty, hm⟩ := tyN_ok s r1 ha
      exact ⟨v, .ty b, .type a, .type b, _, rfl, .ty b, ty, kit_ty (kit_of_names hm hb), Kq.here k s rfl⟩
    · cases hf
  · cases hf
/-! ### a slot's own thing is changed -/
theorem Sim.mut (s : Sim K mg H H0 σ e ow) {i : Nat} {v : V} {t : T} {f : List Addr} {H' : Hp} (hi : σ[i]? = some (some v)) (keep : ∀ b o, b ∉ ow i → H b = some o → H' b = some o) (own : Own K mg H' H0 t v f) (nd : f.Nodup) (sep : ∀ a ∈ f, ∀ j, j ≠ i → a ∉ ow j)
    (out : ∀ a ∈ f, H0 a = none) : Sim K mg H' H0 σ (e.set i (some t)) (setO ow i f) where
  sub := fun b o h => keep b o (fun m => by rw [s.out i b m] at h; cases h) (s.sub b o h)
  len := by rw [List.length_set]; exact s.len
  at_ := fun j t' h => by
    by_cases q : j = i
    · subst q
      have hl : j < e.length := by rw [s.len]; exact lt_of_some hi
      rw [List.getElem?_set_self hl] at h
      rw [setO_same]
      cases h
      exact ⟨v, hi, own⟩
    · rw [List.getElem?_set_ne (Ne.symm q)] at h
      rw [setO_ne q]
      obtain ⟨w, h1, h2⟩ := s.at_ j t' h
      exact ⟨w, h1, Own.stay (Same.refl _) (fun a m o z => keep a o (fun y => q (s.dj j i a m y)) z) h2⟩
  emp := fun j h => by
    by_cases q : j = i
    · subst q
      have hl : j < e.length := by rw [s.len]; exact lt_of_some hi
      exact absurd (List.getElem?_set_self hl) (h t)
    · rw [setO_ne q]
      exact s.emp j fun t z => h t (by rw [List.getElem?_set_ne (Ne.symm q)]; exact z)
  nd := fun j => by
    by_cases q : j = i
    · subst q; rw [setO_same]; exact nd
    · rw [setO_ne q]; exact s.nd j
  dj := fun j k a mj mk => by
    by_cases q : j = i
    · by_cases q2 : k = i
      · rw [q, q2]
      · subst q
        rw [setO_same] at mj
        rw [setO_ne q2] at mk
        exact (sep a mj k q2 mk).elim
    · by_cases q2 : k = i
      · subst q2
        rw [setO_same] at mk
        rw [setO_ne q] at mj
        exact (sep a mk j q mj).elim
      · rw [setO_ne q] at mj
        rw [setO_ne q2] at mk
        exact s.dj j k a mj mk
  out := fun j a m => by
    by_cases q : j = i
    · subst q; rw [setO_same] at m; exact out a m
    · rw [setO_ne q] at m; exact s.out j a m
/-- the step of a change within slot i, by a temporary's things -/
theorem step_mut {i : Nat} {f g : List Addr} {P : Addr → Prop} {He H0e H' : Hp} (st : Step He H0e P H H0 (InO ow)) (keep : ∀ b o, b ∉ ow i → H b = some o → H' b = some o) (liv : ∀ b, H b ≠ none → H' b ≠ none) (hf : ∀ a ∈ f, He a = none ∨ P a) (hg : ∀ a ∈ g, a ∈ ow i ∨ a ∈ f) :
    Step He H0e P H' H0 (InO (setO ow i g)) where
  fro := st.fro
  oth := fun b o n h => keep b o (fun m => by
    rcases st.own b ⟨i, m⟩ with z | z
    · exact n z
    · rw [z] at h; cases h) (st.oth b o n h)
  new := st.new
  own := fun b ⟨j, m⟩ => by
    by_cases q : j = i
    · subst q
      rw [setO_same] at m
      rcases hg b m with z | z
      · exact st.own b ⟨j, z⟩
      · exact (hf b z).elim .inr .inl
    · rw [setO_ne q] at m
      exact st.own b ⟨j, m⟩
  liv := fun b h => liv b (st.liv b h)
def isLst : T → Bool
  | .lst _ => true
  | _ => false
def mApp (i : Nat) (m : Mo T) : Mo Fl := bnd (getS i) fun t0 => match isLst t0 with
  | true => bnd m fun t => bnd (getS i) fun t1 => fun e => match t1 with
    | .lst ts => if ts.length ≤ 1000000 then .ok .nx (e.set i (some (.lst (ts ++ [t])))) else .bad
    | _ => .bad
  | false => fail
theorem getS_is {α : Type} {i : Nat} {f : T → Mo α} {P : α → En → Prop} {Xp : Xn → En → Prop} (h : (bnd (getS i) f e).Is P Xp) : ∃ t, e[i]? = some (some t) ∧ (f t e).Is P Xp := by
  have h1 := Is_bnd h
  unfold getS at h1
  cases q : e[i]? with
  | none => rw [q] at h1; exact h1.elim
  | some x =>
    cases x with
    | none => rw [q] at h1; exact h1.elim
    | some t => rw [q] at h1; exact ⟨t, rfl, h1⟩
theorem goodS_app {fx : List Nat} {i : Nat} {te : TE} {m : Mo T} (g : GoodE K mg W te m) : GoodS K mg W fx (tDrop (tBM K "list" rAppend (tVar i) (tCons te tNil))) (mApp i m) := by
  intro D σ H H0 e ow s h
  obtain ⟨t0, q0, h0⟩ := getS_is h
  obtain ⟨v, hv, o0⟩ := s.at_ i t0 q0
  cases t0 with
  | lst ts0 =>
    obtain ⟨a, vs0, f0, ev, ha, _, _⟩ := o0
    subst ev
    refine ⟨.ref a, hv, .inl ⟨rfl, vs0, SqL.of ha⟩, ?_⟩
    refine g σ H H0 e ow _ s (Is_imp (Is_bnd (show (bnd m _ e).Is _ _ from h0)) (fun t e1 _ h1 => ?_) fun _ _ z => KXs.ex z)
    intro y H1 H01 ow1 f st1 s1 o1 tm
    obtain ⟨t1, q1, h2⟩ := getS_is h1
    obtain ⟨v', hv', o2⟩ := s1.at_ i t1 q1
    have ev : v' = .ref a := by rw [hv] at hv'; exact (Option.some.inj (Option.some.inj hv')).symm
    subst ev
    cases t1 with
    | lst ts =>
      obtain ⟨a', vs, f1, ea, hl, os, ef⟩ := o2
      cases ea
      have h2 : (if ts.length ≤ 1000000 then Rs.ok Fl.nx (e1.set i (some (.lst (ts ++ [t])))) else .bad : Rs Fl).Is (KS K mg fx σ H H0 ow D) (KXs K mg W fx σ H H0 ow) := h2
      split at h2
      · rename_i hz
        refine ⟨a, vs, y, rfl, rfl, hl, Nat.lt_of_le_of_lt (Nat.le_of_eq os.len) (Nat.lt_of_le_of_lt hz (by rw [sizeLine_eq]; decide)), ?_⟩
        have ma : a ∈ ow1 i := by rw [ef]; exact List.mem_cons_self
        have ndi := s1.nd i
        rw [ef] at ndi
        have na : a ∉ f1 := (List.nodup_cons.mp ndi).1
        have nf : ∀ b ∈ f, b ≠ a := fun b m z => tm.sep b m ⟨i, by rw [z]; exact ma⟩
        have keep : ∀ b o, b ∉ ow1 i → H1 b = some o → upd H1 a (.lst (vs ++ [y])) b = some o := fun b o nb hb => by
          rw [upd_ne fun z => nb (by rw [z]; exact ma)]; exact hb
        have own' : Own K mg (upd H1 a (.lst (vs ++ [y]))) H01 (.lst (ts ++ [t])) (.ref a) (a :: (f1 ++ f)) := ⟨a, vs ++ [y], f1 ++ f, rfl, upd_same,
          Owns.snoc (Owns.stay (Same.refl _) (fun b m o z => by rw [upd_ne fun y => na (by rw [← y]; exact m)]; exact z) os) (Own.stay (Same.refl _) (fun b m o z => by rw [upd_ne (nf b m)]; exact z) o1), rfl⟩
        have mem : ∀ b ∈ a :: (f1 ++ f), b ∈ ow1 i ∨ b ∈ f := fun b m => by
          rw [ef]
          rcases List.mem_cons.mp m with z | z
          · exact .inl (by rw [z]; exact List.mem_cons_self)
          · rcases List.mem_append.mp z with z | z
            · exact .inl (List.mem_cons_of_mem _ z)
            · exact .inr z
        have s2 := s1.mut (H' := upd H1 a (.lst (vs ++ [y]))) hv' keep own' (by
          show ((a :: f1) ++ f).Nodup
          exact List.nodup_append.mpr ⟨ndi, tm.nd, fun b mb c mc z => tm.sep b (by rw [z]; exact mc) ⟨i, by rw [ef]; exact mb⟩⟩) (fun b m j ne q => by
            rcases mem b m with z | z
            · exact ne (s1.dj j i b q z)
            · exact tm.sep b z ⟨j, q⟩) (fun b m => by
            rcases mem b m with z | z
            · exact s1.out i b z
            · exact tm.out b z)
        exact h2 σ _ H01 _ (step_mut st1 keep (fun b hb => by
          by_cases q : b = a
          · rw [q, upd_same]; exact Option.some_ne_none _
          · rw [upd_ne q]; exact hb) tm.new mem) s2 Fixd.refl
      · exact h2.elim
    | _ => exact h2.elim
  | _ => exact h0.elim
end
/-! ### displays of dicts -/
def inter : List (TE × TE) → TA
  | [] => tNil
  | (k, v) :: r => tCons k (tCons v (inter r))
def pairUp {α : Type} : List α → List (α × α)
  | x :: y :: r => (x, y) :: pairUp r
  | _ => []
theorem tPairs_inter : ∀ (trs : List (TE × TE)) (σ : L2.St) (H : Hp) (Q : List (V × V) → Hp → Prop), tPairs trs σ H Q = inter trs σ H fun vs H' => Q (pairUp vs) H'
  | [], _, _, _ => rfl
  | (k, v) :: r, σ, H, Q => by
    show (k σ H fun x H1 => v σ H1 fun y H2 => tPairs r σ H2 fun ps H3 => Q ((x, y) :: ps) H3) = k σ H fun x H1 => v σ H1 fun y H2 => inter r σ H2 fun ws H3 => Q (pairUp (x :: y :: ws)) H3
    congr
    funext x H1
    congr
    funext y H2
    exact tPairs_inter r σ H2 _
def keysOf : List T → Option (List Key × List T)
  | [] => some ([], [])
  | .val k :: t :: r => match asKey k with
    | some k => match keysOf r with
      | some (ks, ts) => some (k :: ks, t :: ts)
      | none => none
    | none => none
  | _ => none
def mDisp (os : List Op) : Mo T := bnd (mArgs os) fun ts => match keysOf ts with
  | some (ks, vs) => if ks.Nodup then ret (.dic ks vs) else fail
  | none => fail
section
variable {K : PySem.W.Frag} {mg : Str → Option Value} {H H0 H1 H01 : Hp} {σ : L2.St} {e : En} {ow ow1 : Ow} {W : WX}
theorem keysOf_ok : ∀ {ts : List T} {ks : List Key} {vts : List T} {vs : List V} {F : List Addr}, keysOf ts = some (ks, vts) → Owns K mg H H0 ts vs F → ∃ ws, pairUp vs = (ks.zip ws).map (fun p => (kV p.1, p.2)) ∧ ks.length = ws.length ∧ Owns K mg H H0 vts ws F
  | [], ks, vts, vs, F, h, ⟨e1, e2⟩ => by
    cases h
    subst e1 e2
    exact ⟨[], rfl, rfl, rfl, rfl⟩
  | [t], ks, vts, vs, F, h, o => by
    unfold keysOf at h
    split at h <;> simp_all
  | t1 :: t2 :: r, ks, vts, vs, F, h, ⟨v, ws, f, g, e1, o1, ⟨v2, ws2, f2, g2, e2, o2, o3, e3⟩, e4⟩ => by
    unfold keysOf at h
    split at h
    · rename_i q; cases q
    · rename_i k t r' q
      cases q
      split at h
      · rename_i k' hk
        split at h
        · rename_i ks' ts' hr
          cases h
          obtain ⟨ef, rk⟩ := o1
          obtain ⟨ws', p1, p2, p3⟩ := keysOf_ok hr o3
          subst e1 e2 e3 e4 ef
          have ev : v = kV k' := by
            have : RepS K mg H0 H0 k v := Rep.s (Same.refl _) rk
            exact asKey_ok hk this
          subst ev
          refine ⟨v2 :: ws', ?_, by rw [List.length_cons, List.length_cons, p2], v2, ws', f2, g2, rfl, o2, p3, by simp⟩
          show (kV k', v2) :: pairUp ws2 = (kV k', v2) :: _
          rw [p1]
          rfl
        · cases h
      · cases h
    · cases h
theorem merge_new : ∀ {kvs acc : List (Key × V)}, ((acc ++ kvs).map (·.1)).Nodup → mergeK acc kvs = acc ++ kvs
  | [], acc, _ => by simp [mergeK]
  | kv :: r, acc, h => by
    have hn : valV acc kv.1 = none := by
      cases q : valV acc kv.1 with
      | none => rfl
      | some v =>
        have m := valV_in q
        rw [List.map_append, List.map_cons] at h
        have := (List.nodup_append.mp h).2.2 kv.1 m kv.1 List.mem_cons_self
        exact absurd rfl this
    show mergeK (putK acc kv.1 kv.2) r = acc ++ kv :: r
    rw [putK_new kv.2 hn]
    have e : acc ++ [(kv.1, kv.2)] ++ r = acc ++ kv :: r := by simp
    rw [merge_new (by rw [e]; exact h), e]
theorem goodE_disp {trs : List (TE × TE)} {os : List Op} (ga : GoodAs K mg W (inter trs) os) (hx : allEx os = true) (hl : os.length ≤ 30) : GoodE K mg W (tDisp trs) (mDisp os) := by
  intro σ H H0 e ow Q s h p hp
  rw [tPairs_inter]
  have g0 : Gro H H0 (upd H p (.dK [])) H0 := Gro.lay s.sub hp
  refine ga σ _ H0 e ow _ (s.gro g0) (Is_imp (Is_bnd h) (fun ts e1 _ h1 => ?_) fun _ _ z => KX.pull g0.step z)
  intro vs H1 H01 ow1 fo st1 s1 ag tm
  cases q : keysOf ts with
  | none => rw [q] at h1; exact h1.elim
  | some r =>
    obtain ⟨ks, vts⟩ := r
    rw [q] at h1
    have h1 : ((if ks.Nodup then ret (T.dic ks vts) else fail : Mo T) e1).Is (KE K mg σ H H0 ow Q) (KX K mg W σ H H0 ow) := h1
    split at h1
    · rename_i hnd
      obtain ⟨ws, p1, p2, p3⟩ := keysOf_ok q (ag.owns hx)
      have np : ¬ InO ow p := fun ⟨i, m⟩ => s.live m hp
      have hp1 : H1 p = some (.dK []) := st1.oth p _ np upd_same
      have nd : ((ks.zip ws).map (·.1)).Nodup := by
        rw [List.map_fst_zip (by omega)]; exact hnd
      have h0p : H0 p = none := by
        cases q : H0 p with
        | none => rfl
        | some u => rw [s.sub _ _ q] at hp; cases hp
      have lp : upd H p (.dK []) p ≠ none := by rw [upd_same]; exact Option.some_ne_none _
      have h01p : H01 p = none := by
        cases q : H01 p with
        | none => rfl
        | some u =>
          rcases st1.new p (by rw [q]; exact Option.some_ne_none _) with z | z | z
          · exact absurd h0p z
          · exact absurd z lp
          · exact absurd z np
      have np1 : ¬ InO ow1 p := fun z => by
        rcases st1.own p z with y | y
        · exact np y
        · exact lp y
      have npf : ∀ a ∈ flatF os.length fo, a ≠ p := fun a m z => by
        obtain ⟨j, y⟩ := mem_flatF m
        rcases tm.new j a y with w | w
        · rw [z] at w; exact lp w
        · rw [z] at w; exact np w
      refine ⟨hp1, ks.zip ws, p1, ?_, ?_⟩
      · rw [List.length_zip]
        have l1 := p3.len
        have l2 : ks.length ≤ 15 := by
          have := ag.len.1
          have : 2 * ks.length ≤ ts.length := by
            clear h1 h hnd nd p1 p2 p3
            have aux : ∀ (ts : List T) (ks : List Key) (vts : List T), keysOf ts = some (ks, vts) → 2 * ks.length ≤ ts.length := by
              intro ts
              induction ts using keysOf.induct with
              | case1 => intro ks vts h; cases h; simp
              | case2 k t r k' hk ks' ts' hr ih =>
                intro ks vts h
                unfold keysOf at h
                rw [hk] at h
                dsimp only at h
                rw [hr] at h
                cases h
                have := ih _ _ hr
                simp only [List.length_cons]
                omega
              | case3 k t r k' hk hr ih =>
                intro ks vts h
                unfold keysOf at h
                rw [hk] at h
                dsimp only at h
                rw [hr] at h
                cases h
              | case4 k t r hk =>
                intro ks vts h
                unfold keysOf at h
                rw [hk] at h
                cases h
              | case5 ts h1 h2 =>
                intro ks vts h
                unfold keysOf at h
                split at h
                · exact absurd rfl h1
                · rename_i k t r
                  exact absurd rfl (h2 k t r)
                · cases h
            exact aux ts ks vts q
          omega
        omega
      · rw [merge_new (by simpa using nd), List.nil_append]
        refine h1 (.ref p) _ H01 ow1 (p :: flatF os.length fo) ?_ (s1.other h01p np1) ⟨p, ws, _, rfl, upd_same, p2, Owns.stay (Same.refl _) (fun a m u z => by rw [upd_ne (npf a m)]; exact z) p3, rfl⟩ ⟨List.nodup_cons.mpr ⟨fun m => npf p m rfl, nodup_flatF tm.nd tm.dj⟩, fun a m => ?_, fun a m y => ?_, fun a m => ?_⟩
        · exact Step.other (g0.step.trans st1) (.inl hp) (by rw [hp1]; exact Option.some_ne_none _)
        · rcases List.mem_cons.mp m with z | z
          · rw [z]; exact h01p
          · obtain ⟨j, y⟩ := mem_flatF z
            exact tm.out j a y
        · rcases List.mem_cons.mp m with z | z
          · rw [z] at y; exact np1 y
          · obtain ⟨j, w⟩ := mem_flatF z
            exact tm.sep j a w y
        · rcases List.mem_cons.mp m with z | z
          · rw [z]; exact .inl hp
          · obtain ⟨j, w⟩ := mem_flatF z
            rcases tm.new j a w with x | x
            · exact .inl (none_of_liv (same_liv g0.all) x)
            · exact .inr x
    · exact h1.elim
end
end Pf

set_option Elab.async false
set_option linter.all false
set_option maxRecDepth 100000
/-! Pf10: the syntax of Pf8's and Pf9's operations. -/
namespace Pf
open PySem PySem.Spec PyProof.Rows L2

theorem takesF {X : Cx} : Takes X WF := fun _ _ x => by
  obtain ⟨_, _, _, _, _, _, _, _, _, _, _, _, _, _, _, _, z⟩ := x
  exact z.elim
/-- a dict of the module with text keys: what it holds -/
structure MDict (K : PySem.W.Frag) (w : World) (mg : Str → Option Value) (x : Str) (kvs : List (Str × D)) : Prop where
  ex : ∃ a, mg x = some (.ref a) ∧ ∀ z d, kvs.lookup z = some d → ∃ v, KDct K w a z v ∧ ∀ H, Rep K mg H d v
def gdx (kvs : List (Str × D)) : List T → Mo T
  | [.val (.str z)] => match kvs.lookup z with
    | some d => ret (.val d)
    | none => fail
  | _ => fail
def mGdx (kvs : List (Str × D)) (o : Op) : Mo T := bnd (mArgs [o]) (gdx kvs)
section
variable {K : PySem.W.Frag} {mg : Str → Option Value} {H H0 H1 H01 : Hp} {σ : L2.St} {e : En} {ow ow1 : Ow} {W : WX}
theorem goodE_gdx {w : World} {a : Addr} {kvs : List (Str × D)} {o : Op} {tb : TE} (hk : ∀ z d, kvs.lookup z = some d → ∃ v, KDct K w a z v ∧ ∀ H, Rep K mg H d v) (ho : GoodO K mg W tb o) : GoodE K mg W (tOp (rIxD K w) (tC (.ref a)) tb) (mGdx kvs o) := by
  intro σ H H0 e ow Q s h
  refine goodAs_cons (te := tb) (t := tNil) ho goodAs_nil σ H H0 e ow (fun vs H2 => match vs with | [y] => rIxD K w (.ref a) y H2 Q | _ => False) s (Is_imp (Is_bnd h) (fun ts e1 _ h1 => ?_) fun _ _ z => z)
  intro vs H1 H01 ow1 fo st1 s1 ag tm
  unfold gdx at h1
  split at h1
  · rename_i z _
    have h1 : ((match kvs.lookup z with | some d => ret (T.val d) | none => fail : Mo T) e1).Is (KE K mg σ H H0 ow Q) (KX K mg W σ H H0 ow) := h1
    cases hd : kvs.lookup z with
    | none => rw [hd] at h1; exact h1.elim
    | some d =>
      rw [hd] at h1
      obtain ⟨v, hv, rv⟩ := hk z d hd
      have r := ag.peeks s1 (ds := [.str z]) rfl
      obtain ⟨y, e1, r1⟩ := rs1 r
      have r1 : y = .str z := r1
      subst e1 r1
      exact ⟨a, z, v, rfl, rfl, hv, KE.here (KE.pull st1 h1) s1 (rv _)⟩
  · exact h1.elim
end
section
variable {X : Cx} {W : WX} {fx : List Nat} {a b e o : Expr} {es : List Expr} {m : Mo T} {pos : Pos}
theorem pm_gdx {x : Str} {p : Pos} {kvs : List (Str × D)} {o1 : Op} (M : MDict X.K X.w X.mg x kvs) (h : PO X W b o1) (hg : Gl X x := by rfl) (hs : PlainIx b := by exact fun _ _ => rfl) (hd : (x == ("__debug__" : Str)) = false := by decide) : PM X W (.Subscript (.Name x p) b pos) (mGdx kvs o1) := by
  obtain ⟨ad, hm, hk⟩ := M.ex
  obtain ⟨t, q, g⟩ := h
  exact PM.mk ⟨_, pe_ix ix_kdict (pe_glob (v := .ref ad) hg hm rfl hd) q hs, goodE_gdx hk g⟩
theorem pm_m1 {id : String} {name : Str} {apos : Pos} {r : V → List V → Hp → VK → Prop} {f : List D → Option T} {o1 o2 : Op} (slot : Slot "str" name id) (ty : typeOf (.builtin id) = pure (.type "method_descriptor")) (rule : MtR X id r) (cg : CG X.K X.mg (rm1 r) f) (h1 : PO X W o o1) (h2 : PO X W e o2)
    (hs : starEach [e] X.env = [(false, eval e X.env)] := by rfl) (hbase : attributeBase o name X.env (eval o X.env) = eval o X.env := by rfl) (hline : (apos.endLine == pos.line) = true := by rfl) : PM X W (.Call (.Attribute o name apos) [e] [] pos) (mM1 f o1 o2) := by
  obtain ⟨t1, p1, g1⟩ := h1
  obtain ⟨t2, p2, g2⟩ := h2
  exact PM.mk ⟨_, pe_m1 slot ty rule p1 p2 hs hbase hline, goodE_m1 g1 g2 cg⟩
theorem pm_join {apos : Pos} {o1 o2 : Op} (h1 : PO X W o o1) (h2 : PO X W e o2) (hs : starEach [e] X.env = [(false, eval e X.env)] := by rfl) (hbase : attributeBase o "join" X.env (eval o X.env) = eval o X.env := by rfl) (hline : (apos.endLine == pos.line) = true := by rfl) :
    PM X W (.Call (.Attribute o "join" apos) [e] [] pos) (mM1 fJoin o1 o2) := pm_m1 F.slot_str_join F.type_str_join mt_join cg_join h1 h2 hs hbase hline
def PPt (X : Cx) (W : WX) (o : Option Expr) (p : Pt) : Prop := ∃ t, L2.PO X o t ∧ GoodPt X.K X.mg W t p
theorem ppt_no : PPt X W none .no := ⟨_, po_none, goodPt_no⟩
theorem ppt_so (h : PM X W e m) : PPt X W (some e) (.so m) := by
  obtain ⟨t, p, g⟩ := h.out
  exact ⟨_, po_some p, goodPt_so g⟩
theorem pm_sl {lo hi : Option Expr} {pl ph : Pt} {o1 : Op} {p2 : Pos} (h1 : PO X W a o1) (hl : PPt X W lo pl) (hh : PPt X W hi ph) : PM X W (.Subscript a (.Slice lo hi none p2) pos) (mSl fSl o1 pl ph) := by
  obtain ⟨t1, p1, g1⟩ := h1
  obtain ⟨t2, q2, g2⟩ := hl
  obtain ⟨t3, q3, g3⟩ := hh
  exact PM.mk ⟨_, pe_slice sl_all p1 q2 q3, goodE_sl g1 g2 g3 cg_sl⟩
theorem pm_dx {o1 o2 : Op} (hu : X.A.units + 1 < cLine) (h1 : PO X W a o1) (h2 : PO X W b o2) (hs : NoSl b := by exact fun _ _ => rfl) : PM X W (.Subscript a b pos) (mB fDx [o1, o2]) := by
  obtain ⟨t1, p1, g1⟩ := h1
  obtain ⟨t2, p2, g2⟩ := h2
  exact PM.mk ⟨_, pe_dget hu p1 p2 hs, goodE_op (r := rDx) g1 g2 cg_dx⟩
def tyE (T : String) : Op := .ex (ret (.val (.ty T)))
theorem po_ty {T : String} {x : Str} {p : Pos} (hm : X.mg x = none) (hv : bootBuiltins x = some (.type T)) (hg : Gl X x := by rfl) (hn : x ≠ "__name__" := by decide) (hd : (x == ("__debug__" : Str)) = false := by decide) : PO X W (.Name x p) (tyE T) :=
  po_ex (PM.mk ⟨_, pe_bltn (v := .ty T) hg hm hv rfl hn hd, goodE_c fun _ => rfl⟩)
theorem psm_app {i : Nat} {x : Str} {px apos spos : Pos} (he : PM X W e m) (hi : X.N[i]? = some x := by rfl) (hv : Vis X.env.scope x := by first | exact Or.inl rfl | exact Or.inr (Or.inl rfl) | exact Or.inr (Or.inr rfl)) (hd : (x == ("__debug__" : Str)) = false := by decide) (hcd : (x == ("__classdict__" : Str)) = false := by decide)
    (hs : swapsWith (.Call (.Attribute (.Name x px) "append" apos) [e] [] pos) none spos.line X.env = pure false := by rfl)
    (hbase : attributeBase (.Name x px) "append" X.env (eval (.Name x px) X.env) = eval (.Name x px) X.env := by rfl)
    (hfew : ((backTo pos (starEach [e] X.env)).all (fun x => !x.1) && (backToKw pos (keywordEach [] X.env)).all (fun x => x.1.isSome)
      && decide (([e] : List Expr).length + ([] : List Keyword).length + (if ([] : List Keyword).isEmpty then 0 else 1) < 30)) = true := by rfl)
    (hline : (apos.endLine == pos.line) = true := by rfl) (hse : starEach [e] X.env = (false, eval e X.env) :: starEach [] X.env := by rfl) :
    PSm X W fx (.Expr (.Call (.Attribute (.Name x px) "append" apos) [e] [] pos) spos) (mApp i m) := by
  obtain ⟨t, p, g⟩ := he.out
  exact PSm.mk ⟨_, ps_expr (pe_bm PySem.F.plainAttrs_list PySem.F.slot_list_append PySem.F.type_list_append mt_append (pe_var hi hv hd hcd) (pa_cons p pa_nil hse) hbase hfew hline hse) hs, goodS_app g⟩
def PPm (X : Cx) (W : WX) (pos : Pos) (keys : List (Option Expr)) (vals : List Expr) (os : List Op) : Prop := ∃ trs, PPs X pos keys vals trs ∧ GoodAs X.K X.mg W (inter trs) os
theorem ppm_nil : PPm X W pos [] [] [] := ⟨[], pps_nil, goodAs_nil⟩
theorem ppm_cons {k v : Expr} {ks : List (Option Expr)} {vs : List Expr} {os : List Op} {o1 o2 : Op} (hk : PO X W k o1) (hv : PO X W v o2) (hr : PPm X W pos ks vs os) : PPm X W pos (some k :: ks) (v :: vs) (o1 :: o2 :: os) := by
  obtain ⟨t1, p1, g1⟩ := hk
  obtain ⟨t2, p2, g2⟩ := hv
  obtain ⟨trs, p3, g3⟩ := hr
  exact ⟨_, pps_cons p1 p2 p3, goodAs_cons g1 (goodAs_cons g2 g3)⟩
theorem pm_disp {keys : List (Option Expr)} {values : List Expr} {os : List Op} (h : PPm X W pos keys values os) (hx : allEx os = true := by rfl) (hl2 : os.length ≤ 30 := by decide) (hall : keys.all (·.isSome) = true := by rfl) (hl : keys.length = values.length := by rfl) (h0 : keys ≠ [] := by exact List.cons_ne_nil _ _)
    (h15 : keys.length ≤ 15 := by decide) : PM X W (.Dict keys values pos) (mDisp os) := by
  obtain ⟨trs, p, g⟩ := h
  exact PM.mk ⟨_, pe_disp p hall hl h0 h15, goodE_disp g hx hl2⟩
end
end Pf

set_option Elab.async false
set_option linter.all false
set_option maxRecDepth 100000
/-! Pf11: x[i] = e of a list with an owner. -/
namespace Pf
open PySem PySem.Spec PyProof.Rows L2

def setIx (i : Nat) (t : T) (k : T) : Mo Fl := fun e => match e[i]? with
  | some (some (.lst ts)) => match k with
    | .val (.int j) => match ixN ts.length j with
      | some n => .ok .nx (e.set i (some (.lst (ts.set n t))))
      | none => .bad
    | _ => .bad
  | _ => .bad
def mSetIx (i : Nat) (mi me : Mo T) : Mo Fl := bnd me fun t => bnd (hasS i) fun _ => bnd mi fun k => setIx i t k
section
variable {K : PySem.W.Frag} {mg : Str → Option Value} {H H0 H1 H01 : Hp} {σ : L2.St} {e : En} {ow ow1 : Ow} {W : WX} {fx : List Nat}
theorem Owns.set : ∀ {ts : List T} {vs : List V} {F f : List Addr} {t : T} {y : V} (n : Nat), Owns K mg H H0 ts vs F → Own K mg H H0 t y f → F.Nodup → f.Nodup → (∀ a ∈ f, ¬ a ∈ F) → n < ts.length →
    ∃ F', Owns K mg H H0 (ts.set n t) (vs.set n y) F' ∧ F'.Nodup ∧ ∀ a ∈ F', a ∈ F ∨ a ∈ f
  | [], _, _, _, _, _, n, _, _, _, _, _, h => by simp at h
  | t0 :: ts, _, _, f, t, y, 0, ⟨v, ws, f1, g, e1, o1, o2, e2⟩, o, n1, n2, d, _ => by
    subst e1 e2
    refine ⟨f ++ g, ⟨y, ws, f, g, rfl, o, o2, rfl⟩, ?_, fun a m => ?_⟩
    · exact List.nodup_append.mpr ⟨n2, (List.nodup_append.mp n1).2.1, fun a ma b mb z => d a ma (List.mem_append_right _ (by rw [z]; exact mb))⟩
    · rcases List.mem_append.mp m with z | z
      · exact .inr z
      · exact .inl (List.mem_append_right _ z)
  | t0 :: ts, _, _, f, t, y, n + 1, ⟨v, ws, f1, g, e1, o1, o2, e2⟩, o, n1, n2, d, h => by
    subst e1 e2
    obtain ⟨F', q1, q2, q3⟩ := Owns.set n o2 o (List.nodup_append.mp n1).2.1 n2 (fun a m z => d a m (List.mem_append_right _ z)) (by simpa using h)
    refine ⟨f1 ++ F', ⟨v, ws.set n y, f1, F', rfl, o1, q1, rfl⟩, ?_, fun a m => ?_⟩
    · refine List.nodup_append.mpr ⟨(List.nodup_append.mp n1).1, q2, fun a ma b mb z => ?_⟩
      subst z
      rcases q3 a mb with w | w
      · exact (List.nodup_append.mp n1).2.2 a ma a w rfl
      · exact d a w (List.mem_append_left _ ma)
    · rcases List.mem_append.mp m with z | z
      · exact .inl (List.mem_append_left _ z)
      · rcases q3 a z with w | w
        · exact .inl (List.mem_append_right _ w)
        · exact .inr w
theorem hasS_is {α : Type} {i : Nat} {f : Unit → Mo α} {P : α → En → Prop} {Xp : Xn → En → Prop} (h : (bnd (hasS i) f e).Is P Xp) : ∃ t, e[i]? = some (some t) ∧ (f () e).Is P Xp := by
  have h1 := Is_bnd h
  unfold hasS at h1
  cases q : e[i]? with
  | none => rw [q] at h1; exact h1.elim
  | some x =>
    cases x with
    | none => rw [q] at h1; exact h1.elim
    | some t => rw [q] at h1; exact ⟨t, rfl, h1⟩
theorem goodS_setIx {i : Nat} {te ti : TE} {me mi : Mo T} (g : GoodE K mg W te me) (gi : GoodE K mg W ti mi) : GoodS K mg W fx (tAsg te (gSub (tVar i) ti rSetL)) (mSetIx i mi me) := by
  intro D σ H H0 e ow s h
  refine g σ H H0 e ow _ s (Is_imp (Is_bnd h) (fun t e1 _ h1 => ?_) fun _ _ z => KXs.ex z)
  intro y H1 H01 ow1 f st1 s1 o1 tm
  obtain ⟨t0, q0, h2⟩ := hasS_is h1
  obtain ⟨v, hv, _⟩ := s1.at_ i t0 q0
  refine ⟨v, hv, ?_⟩
  refine gi σ H1 H01 e1 ow1 _ s1 (Is_imp (Is_bnd h2) (fun k e2 _ h3 => ?_) fun _ _ z => KX.pull st1 (KXs.ex z))
  intro w H2 H02 ow2 f2 st2 s2 ok tm2
  obtain ⟨o1', n1', p1'⟩ := Tmp.stay tm o1 st2
  unfold setIx at h3
  split at h3
  · rename_i ts q
    split at h3
    · rename_i j _
      split at h3
      · rename_i n hn
        have ew : w = .int j := ok.2
        subst ew
        obtain ⟨v', hv', a, vs, f1, ev, hl, os, ef⟩ := s2.at_ i _ q
        have ev2 : v' = v := by rw [hv] at hv'; exact (Option.some.inj (Option.some.inj hv')).symm
        subst ev2 ev
        refine ⟨a, vs, j, n, rfl, rfl, hl, by rw [os.len]; exact hn, ?_⟩
        have hlt : n < ts.length := (ixN_seq hn).2.1
        have ma : a ∈ ow2 i := by rw [ef]; exact List.mem_cons_self
        have ndi := s2.nd i
        rw [ef] at ndi
        have na : a ∉ f1 := (List.nodup_cons.mp ndi).1
        have nf : ∀ b ∈ f, b ≠ a := fun b m z => p1' b m ⟨i, by rw [z]; exact ma⟩
        have keep : ∀ b o, b ∉ ow2 i → H2 b = some o → upd H2 a (.lst (vs.set n y)) b = some o := fun b o nb hb => by
          rw [upd_ne fun z => nb (by rw [z]; exact ma)]; exact hb
        obtain ⟨F', q1, q2, q3⟩ := Owns.set n (Owns.stay (H' := upd H2 a (.lst (vs.set n y))) (Same.refl _) (fun b m o z => by rw [upd_ne fun y => na (by rw [← y]; exact m)]; exact z) os)
          (Own.stay (H' := upd H2 a (.lst (vs.set n y))) (Same.refl _) (fun b m o z => by rw [upd_ne (nf b m)]; exact z) o1') (List.nodup_cons.mp ndi).2 tm.nd (fun b m z => p1' b m ⟨i, by rw [ef]; exact List.mem_cons_of_mem _ z⟩) hlt
        have mem : ∀ b ∈ a :: F', b ∈ ow2 i ∨ b ∈ f := fun b m => by
          rw [ef]
          rcases List.mem_cons.mp m with z | z
          · exact .inl (by rw [z]; exact List.mem_cons_self)
          · rcases q3 b z with z | z
            · exact .inl (List.mem_cons_of_mem _ z)
            · exact .inr z
        have s3 := s2.mut (H' := upd H2 a (.lst (vs.set n y))) hv' keep (show Own K mg _ H02 (.lst (ts.set n t)) (.ref a) (a :: F') from ⟨a, vs.set n y, F', rfl, upd_same, q1, rfl⟩) (List.nodup_cons.mpr ⟨fun m => by
            rcases q3 a m with z | z
            · exact na z
            · exact nf a z rfl, q2⟩) (fun b m j ne q => by
            rcases mem b m with z | z
            · exact ne (s2.dj j i b q z)
            · exact p1' b z ⟨j, q⟩) (fun b m => by
            rcases mem b m with z | z
            · exact s2.out i b z
            · exact n1' b z)
        exact h3 σ _ H02 _ (step_mut (st1.trans st2) keep (fun b hb => by
          by_cases q : b = a
          · rw [q, upd_same]; exact Option.some_ne_none _
          · rw [upd_ne q]; exact hb) tm.new mem) s3 Fixd.refl
      · exact h3.elim
    · exact h3.elim
  · exact h3.elim
end
section
variable {X : Cx} {W : WX} {fx : List Nat} {e k : Expr} {m mi : Mo T} {pos tpos : Pos}
theorem psm_setIx (i : Nat) {x : Str} {px : Pos} (he : PM X W e m) (hk : PM X W k mi) (hi : X.N[i]? = some x := by rfl) (hv : Vis X.env.scope x := by first | exact Or.inl rfl | exact Or.inr (Or.inl rfl) | exact Or.inr (Or.inr rfl)) (hd : (x == ("__debug__" : Str)) = false := by decide)
    (hcd : (x == ("__classdict__" : Str)) = false := by decide)
    (ha : ∀ v, assign (.Subscript (.Name x px) k tpos) X.env v = (do
      let ov ← holding [v] (eval (.Name x px) X.env)
      let iv ← holding [v, ov] (eval k X.env)
      standAt tpos
      holding [v, ov, iv] (setItem ov iv v)
      release [v, ov, iv] []) := by intro _; rfl)
    (hs : swapsWithSole [.Subscript (.Name x px) k tpos] e pos.line X.env = pure false := by rfl) (hw : swappedStores [.Subscript (.Name x px) k tpos] e X.env = pure none := by rfl)
    (h1 : (assignEach [.Subscript (.Name x px) k tpos] X.env).map (·.2) = [assign (.Subscript (.Name x px) k tpos) X.env] := by rfl) : PSm X W fx (.Assign [.Subscript (.Name x px) k tpos] e pos) (mSetIx i mi m) := by
  obtain ⟨t, p, g⟩ := he.out
  obtain ⟨t2, p2, g2⟩ := hk.out
  exact PSm.mk ⟨_, ps_asg p (pg_sub (pe_var hi hv hd hcd) p2 set_list ha) hs hw h1, goodS_setIx g g2⟩
end
end Pf

set_option Elab.async false
set_option linter.all false
set_option maxRecDepth 100000
/-! Pf12: a def's promise at a higher level; a def of which nothing is promised. -/
namespace Pf
open PySem PySem.Spec PyProof.Rows L2
section
variable {P : Program} {w : World} {K : PySem.W.Frag} {mg : Str → Option Value} {base : Heap}
theorem Callee.mono {j k : Nat} {x : Str} {ps : List Str} {F : List T → Rs T} (C : Callee P w K mg base j x ps F) (h : j ≤ k) : Callee P w K mg base k x ps F := by
  obtain ⟨f, fd, a, b, c, d⟩ := C.ex
  exact ⟨f, fd, a, b, c, d.mono h⟩
theorem callee_bad {x qual y : Str} {st : Stmt} {f : Addr} {fd : FuncData} {ps : List Str} {k : Nat} (F : Fun K x qual st f fd) (gy : mg y = some (.ref f)) (hb : Binds K fd ps []) : Callee P w K mg base k y ps (fun _ => .bad) :=
  ⟨f, fd, gy, F.kp, hb, ⟨fun vs H Q E ⟨_, _, _, hl, _⟩ => hl, fun A outer s H args us vs Q E hr he hbt hv ⟨_, _, _, _, _, h⟩ => h.elim⟩⟩
end
end Pf

set_option Elab.async false
set_option linter.all false
set_option maxRecDepth 100000
/-! PfW: what a mirror's run answers, by what follows (Ok). -/
namespace Pf
open PySem PySem.Spec L2
variable {α β : Type}
/-- what follows, hidden from simp -/
class Kt (γ : Type) : Type where
  k : γ
def Ok (r : Rs α) [q : Kt (α → En → Prop)] : Prop := match r with
  | .ok a e => q.k a e
  | _ => False
theorem Ok.mono {r : Rs α} {Q Q' : α → En → Prop} (h : @Ok _ r ⟨Q⟩) (k : ∀ a e, Q a e → Q' a e) : @Ok _ r ⟨Q'⟩ := by
  cases r with
  | ok a e => exact k a e h
  | err x e => exact h.elim
  | bad => exact h.elim
theorem Ok_ext {r : Rs α} {Q Q' : α → En → Prop} (h : ∀ a e, Q a e = Q' a e) : @Ok _ r ⟨Q⟩ = @Ok _ r ⟨Q'⟩ := by
  cases r with
  | ok a e => exact h a e
  | err x e => rfl
  | bad => rfl
theorem Ok.ex {r : Rs α} {Q : α → En → Prop} (h : @Ok _ r ⟨Q⟩) : ∃ a e, r = .ok a e ∧ Q a e := by
  cases r with
  | ok a e => exact ⟨a, e, rfl, h⟩
  | err x e => exact h.elim
  | bad => exact h.elim
theorem Ok_ok {a : α} {e : En} {Q : α → En → Prop} : @Ok _ (.ok a e) ⟨Q⟩ = Q a e := rfl
/-- one of two -/
def Br (c : Bool) [a : Kt Prop] [b : Kt Prop] : Prop := match c with
  | true => a.k
  | false => b.k
theorem Br_t {a b : Prop} : @Br true ⟨a⟩ ⟨b⟩ = a := rfl
theorem Br_f {a b : Prop} : @Br false ⟨a⟩ ⟨b⟩ = b := rfl
theorem Br_intro {c : Bool} {a b : Prop} (h : c = true → a) (k : c = false → b) : @Br c ⟨a⟩ ⟨b⟩ := by
  cases c with
  | true => exact h rfl
  | false => exact k rfl
def Nd (c : Prop) [a : Kt Prop] : Prop := c ∧ a.k
theorem Nd_t {a : Prop} : @Nd True ⟨a⟩ = a := by unfold Nd; simp
theorem Nd_mk {c a : Prop} (h : c) (k : a) : @Nd c ⟨a⟩ := ⟨h, k⟩
theorem Ok_ret {a : α} {e : En} {Q : α → En → Prop} : @Ok _ (ret a e) ⟨Q⟩ = Q a e := rfl
theorem Ok_fail {e : En} {Q : α → En → Prop} : @Ok _ (fail e) ⟨Q⟩ = False := rfl
theorem Ok_bad {Q : α → En → Prop} : @Ok _ Rs.bad ⟨Q⟩ = False := rfl
theorem Ok_bnd {m : Mo α} {f : α → Mo β} {e : En} {Q : β → En → Prop} : @Ok _ (bnd m f e) ⟨Q⟩ = @Ok _ (m e) ⟨fun a e' => @Ok _ (f a e') ⟨Q⟩⟩ := by
  unfold bnd
  cases m e <;> rfl
theorem Ok_if {c : Prop} [Decidable c] {r s : Rs α} {Q : α → En → Prop} : @Ok _ (if c then r else s) ⟨Q⟩ = if c then @Ok _ r ⟨Q⟩ else @Ok _ s ⟨Q⟩ := by
  by_cases h : c
  · rw [if_pos h, if_pos h]
  · rw [if_neg h, if_neg h]
/-- how a block goes on -/
def Go (Q : Fl → En → Prop) (n : En → Prop) : Fl → En → Prop
  | .nx, e => n e
  | f, e => Q f e
theorem Go_nx {Q : Fl → En → Prop} {n : En → Prop} {e : En} : Go Q n .nx e = n e := rfl
theorem Go_ret {Q : Fl → En → Prop} {n : En → Prop} {e : En} {t : T} : Go Q n (.ret t) e = Q (.ret t) e := rfl
theorem Go_bk {Q : Fl → En → Prop} {n : En → Prop} {e : En} : Go Q n .bk e = Q .bk e := rfl
theorem Go_ct {Q : Fl → En → Prop} {n : En → Prop} {e : En} : Go Q n .ct e = Q .ct e := rfl
theorem Ok_seq {a b : Mo Fl} {e : En} {Q : Fl → En → Prop} : @Ok _ (mSeq a b e) ⟨Q⟩ = @Ok _ (a e) ⟨Go Q fun e' => @Ok _ (b e') ⟨Q⟩⟩ := by
  unfold mSeq
  rw [Ok_bnd]
  refine Ok_ext fun f e' => ?_
  cases f <;> rfl
theorem Ok_nx {e : En} {Q : Fl → En → Prop} : @Ok _ (mNx e) ⟨Q⟩ = Q .nx e := rfl
theorem Ok_asg {i : Nat} {m : Mo T} {e : En} {Q : Fl → En → Prop} : @Ok _ (mAsg i m e) ⟨Q⟩ = @Ok _ (m e) ⟨fun t e' => Q .nx (e'.set i (some t))⟩ := Ok_bnd
theorem Ok_mRet {m : Mo T} {e : En} {Q : Fl → En → Prop} : @Ok _ (mRet m e) ⟨Q⟩ = @Ok _ (m e) ⟨fun t e' => Q (.ret t) e'⟩ := Ok_bnd
theorem Ok_mRetN {e : En} {Q : Fl → En → Prop} : @Ok _ (mRetN e) ⟨Q⟩ = Q (.ret (.val .non)) e := rfl
theorem Ok_drop {m : Mo T} {e : En} {Q : Fl → En → Prop} : @Ok _ (mDrop m e) ⟨Q⟩ = @Ok _ (m e) ⟨fun t e' => Q .nx e'⟩ := Ok_bnd
theorem Ok_ifS {c : Mo Bool} {a b : Mo Fl} {e : En} {Q : Fl → En → Prop} : @Ok _ (mIfS c a b e) ⟨Q⟩ = @Ok _ (c e) ⟨fun c e' => @Br c ⟨@Ok _ (a e') ⟨Q⟩⟩ ⟨@Ok _ (b e') ⟨Q⟩⟩⟩ := by
  unfold mIfS
  rw [Ok_bnd]
  refine Ok_ext fun c e' => ?_
  cases c <;> rfl
theorem Ok_mIf {c : Mo Bool} {a b : Mo T} {e : En} {Q : T → En → Prop} : @Ok _ (mIf c a b e) ⟨Q⟩ = @Ok _ (c e) ⟨fun c e' => @Br c ⟨@Ok _ (a e') ⟨Q⟩⟩ ⟨@Ok _ (b e') ⟨Q⟩⟩⟩ := by
  unfold mIf
  rw [Ok_bnd]
  refine Ok_ext fun c e' => ?_
  cases c <;> rfl
theorem Ok_and {a b : Mo Bool} {e : En} {Q : Bool → En → Prop} : @Ok _ (mAnd a b e) ⟨Q⟩ = @Ok _ (a e) ⟨fun c e' => @Br c ⟨@Ok _ (b e') ⟨Q⟩⟩ ⟨Q false e'⟩⟩ := by
  unfold mAnd
  rw [Ok_bnd]
  refine Ok_ext fun c e' => ?_
  cases c <;> rfl
theorem Ok_or {a b : Mo Bool} {e : En} {Q : Bool → En → Prop} : @Ok _ (mOr a b e) ⟨Q⟩ = @Ok _ (a e) ⟨fun c e' => @Br c ⟨Q true e'⟩ ⟨@Ok _ (b e') ⟨Q⟩⟩⟩ := by
  unfold mOr
  rw [Ok_bnd]
  refine Ok_ext fun c e' => ?_
  cases c <;> rfl
theorem Ok_not {a : Mo Bool} {e : En} {Q : Bool → En → Prop} : @Ok _ (mNot a e) ⟨Q⟩ = @Ok _ (a e) ⟨fun c e' => Q (!c) e'⟩ := Ok_bnd
theorem asB_bl {b : Bool} : asB (.val (.bl b)) = ret b := rfl
theorem Ok_tr {m : Mo T} {e : En} {Q : Bool → En → Prop} : @Ok _ (mTr m e) ⟨Q⟩ = @Ok _ (m e) ⟨fun t e' => @Ok _ (asB t e') ⟨Q⟩⟩ := Ok_bnd
theorem Ok_mB {f : List D → Option T} {os : List Op} {e : En} {Q : T → En → Prop} : @Ok _ (mB f os e) ⟨Q⟩ = @Ok _ (mArgs os e) ⟨fun ts e' => @Ok _ (ap f ts e') ⟨Q⟩⟩ := Ok_bnd
/-- what f gives is what follows -/
def Got (o : Option T) [q : Kt (T → Prop)] : Prop := match o with
  | some t => q.k t
  | none => False
theorem Got_some {t : T} {Q : T → Prop} : @Got (some t) ⟨Q⟩ = Q t := rfl
theorem Got_none {Q : T → Prop} : @Got none ⟨Q⟩ = False := rfl
theorem Got_if {c : Prop} [Decidable c] {a : Option T} {Q : T → Prop} : @Got (if c then a else none) ⟨Q⟩ = @Nd c ⟨@Got a ⟨Q⟩⟩ := by
  by_cases h : c
  · rw [if_pos h, eq_true h, Nd_t]
  · rw [if_neg h, eq_false h]
    unfold Nd
    simp [Got_none]
def GotL (o : Option (List D)) [q : Kt (List D → Prop)] : Prop := match o with
  | some t => q.k t
  | none => False
theorem GotL_some {t : List D} {Q : List D → Prop} : @GotL (some t) ⟨Q⟩ = Q t := rfl
theorem Ok_ap {f : List D → Option T} {ts : List T} {e : En} {Q : T → En → Prop} : @Ok _ (ap f ts e) ⟨Q⟩ = @GotL (peeks ts) ⟨fun ds => @Got (f ds) ⟨fun t => Q t e⟩⟩ := by
  unfold ap
  cases peeks ts with
  | none => rfl
  | some ds =>
    show @Ok _ ((match f ds with | some t => ret t | none => fail : Mo T) e) ⟨Q⟩ = @Got (f ds) ⟨_⟩
    cases f ds <;> rfl
theorem peek_val {d : D} : T.peek (.val d) = some d := rfl
theorem vals_map (ds : List D) : T.vals (ds.map T.val) = some ds := by
  induction ds with
  | nil => rfl
  | cons d ds ih =>
    show (match T.vals (ds.map T.val) with | some ds' => some (d :: ds') | none => none) = _
    rw [ih]
theorem vals_nil : T.vals [] = some [] := rfl
theorem vals_cons {d : D} {ts : List T} : T.vals (.val d :: ts) = (T.vals ts).map (d :: ·) := by
  show (match T.vals ts with | some ds => some (d :: ds) | none => none) = _
  cases T.vals ts <;> rfl
theorem peek_lst {ts : List T} : T.peek (.lst ts) = (T.vals ts).map D.lst := by
  show (match T.vals ts with | some ds => some (D.lst ds) | none => none) = _
  cases T.vals ts <;> rfl
theorem peeks_nil : peeks [] = some [] := rfl
theorem peeks_cons {t : T} {ts : List T} : peeks (t :: ts) = (t.peek).bind fun d => (peeks ts).map (d :: ·) := by
  show (match t.peek with | some d => (match peeks ts with | some ds => some (d :: ds) | none => none) | none => none) = _
  cases t.peek with
  | none => rfl
  | some d => cases peeks ts <;> rfl
theorem Ok_args_nil {e : En} {Q : List T → En → Prop} : @Ok _ (mArgs [] e) ⟨Q⟩ = Q [] e := rfl
theorem Ok_args_ex {m : Mo T} {os : List Op} {e : En} {Q : List T → En → Prop} : @Ok _ (mArgs (.ex m :: os) e) ⟨Q⟩ = @Ok _ (m e) ⟨fun t e1 => @Ok _ (mArgs os e1) ⟨fun ts e2 => Q (t :: ts) e2⟩⟩ := Ok_bnd.trans (Ok_ext fun t e1 => Ok_bnd)
theorem Ok_args_nm {i : Nat} {os : List Op} {e : En} {Q : List T → En → Prop} : @Ok _ (mArgs (.nm i :: os) e) ⟨Q⟩ = @Ok _ (hasS i e) ⟨fun _ e1 => @Ok _ (mArgs os e1) ⟨fun ts e2 => @Ok _ (getS i e2) ⟨fun t e3 => Q (t :: ts) e3⟩⟩⟩ := Ok_bnd.trans (Ok_ext fun _ e1 => Ok_bnd.trans (Ok_ext fun ts e2 => Ok_bnd))
def GotS (o : Option (Option T)) [q : Kt (T → Prop)] : Prop := match o with
  | some (some t) => q.k t
  | _ => False
theorem GotS_some {t : T} {Q : T → Prop} : @GotS (some (some t)) ⟨Q⟩ = Q t := rfl
theorem Ok_has {i : Nat} {e : En} {Q : Unit → En → Prop} : @Ok _ (hasS i e) ⟨Q⟩ = @GotS e[i]? ⟨fun _ => Q () e⟩ := by
  unfold hasS
  split
  · rename_i t h
    rw [h]; rfl
  · rename_i h
    unfold GotS
    split
    · rename_i t z
      exact (h t z).elim
    · rfl
theorem Ok_get {i : Nat} {e : En} {Q : T → En → Prop} : @Ok _ (getS i e) ⟨Q⟩ = @GotS e[i]? ⟨fun t => Q t e⟩ := by
  unfold getS
  split
  · rename_i t h
    rw [h]; rfl
  · rename_i h
    unfold GotS
    split
    · rename_i t z
      exact (h t z).elim
    · rfl
theorem Ok_mv {i : Nat} {e : En} {Q : T → En → Prop} : @Ok _ (mMv i e) ⟨Q⟩ = @GotS e[i]? ⟨fun t => Q t (e.set i none)⟩ := by
  unfold mMv
  split
  · rename_i t h
    rw [h]; rfl
  · rename_i h
    unfold GotS
    split
    · rename_i t z
      exact (h t z).elim
    · rfl
theorem Ok_cp {i : Nat} {e : En} {Q : T → En → Prop} : @Ok _ (mCp i e) ⟨Q⟩ = @GotS e[i]? ⟨fun t => Q (.val t.toD) (e.set i (some (.val t.toD)))⟩ := by
  unfold mCp
  split
  · rename_i t h
    rw [h]; rfl
  · rename_i h
    unfold GotS
    split
    · rename_i t z
      exact (h t z).elim
    · rfl
theorem Ok_tup {os : List Op} {e : En} {Q : T → En → Prop} : @Ok _ (mTup os e) ⟨Q⟩ = @Ok _ (mArgs os e) ⟨fun ts e' => Q (.val (.tup (T.toDs ts))) e'⟩ := Ok_bnd
theorem Ok_lst {os : List Op} {e : En} {Q : T → En → Prop} : @Ok _ (mLst os e) ⟨Q⟩ = @Ok _ (mArgs os e) ⟨fun ts e' => Q (.lst ts) e'⟩ := Ok_bnd
theorem toDs_nil' : T.toDs [] = [] := by simp [T.toDs]
theorem toDs_cons' {t : T} {ts : List T} : T.toDs (t :: ts) = t.toD :: T.toDs ts := by simp [T.toDs]
theorem toD_val' {d : D} : T.toD (.val d) = d := by simp [T.toD]
theorem toD_lst' {ts : List T} : T.toD (.lst ts) = .lst (T.toDs ts) := by simp [T.toD]
theorem toDs_map' {ds : List D} : T.toDs (ds.map T.val) = ds := toDs_val ds
theorem Ok_call {F : List T → Rs T} {os : List Op} {e : En} {Q : T → En → Prop} : @Ok _ (mCall F os e) ⟨Q⟩ = @Ok _ (mArgs os e) ⟨fun ts e' => @Nd (noDup os ts = true) ⟨@Ok _ (F ts) ⟨fun t outs => Q t (putO os ts outs 0 e')⟩⟩⟩ := by
  unfold mCall
  rw [Ok_bnd]
  refine Ok_ext fun ts e' => ?_
  cases noDup os ts with
  | false => simp [Nd, Ok_bnd, Ok_ret, Ok_fail, Ok_bad, Ok_ok, Got_none]
  | true =>
    simp only [Nd, true_and]
    cases F ts <;> rfl
def FinK (fx : List Nat) (np : Nat) (Q : T → En → Prop) : Fl → En → Prop
  | .ret t, e => Q t (outs fx np 0 e)
  | .nx, e => Q (.val .non) (outs fx np 0 e)
  | _, _ => False
theorem FinK_ret {fx : List Nat} {np : Nat} {Q : T → En → Prop} {t : T} {e : En} : FinK fx np Q (.ret t) e = Q t (outs fx np 0 e) := rfl
theorem FinK_nx {fx : List Nat} {np : Nat} {Q : T → En → Prop} {e : En} : FinK fx np Q .nx e = Q (.val .non) (outs fx np 0 e) := rfl
theorem Ok_runDef {n np : Nat} {fx : List Nat} {m : Mo Fl} {ts : List T} {Q : T → En → Prop} : @Ok _ (runDef n np fx m ts) ⟨Q⟩ = @Ok _ (m (ts.map some ++ List.replicate (n - np) none)) ⟨FinK fx np Q⟩ := by
  unfold runDef
  cases m (ts.map some ++ List.replicate (n - np) none) with
  | ok f e' => cases f <;> rfl
  | err x e' => rfl
  | bad => rfl
theorem noDup_nm {i : Nat} {os : List Op} {t : T} {ts : List T} : noDup (.nm i :: os) (t :: ts) = ((t.isVal || !nmIn i os) && noDup os ts) := rfl
theorem noDup_ex {m : Mo T} {os : List Op} {t : T} {ts : List T} : noDup (.ex m :: os) (t :: ts) = noDup os ts := rfl
theorem noDup_nil {ts : List T} : noDup [] ts = true := rfl
theorem nmIn_nil {i : Nat} : nmIn i [] = false := rfl
theorem nmIn_nm {i k : Nat} {os : List Op} : nmIn i (.nm k :: os) = (k == i || nmIn i os) := rfl
theorem nmIn_ex {i : Nat} {m : Mo T} {os : List Op} : nmIn i (.ex m :: os) = nmIn i os := rfl
theorem isVal_val {d : D} : T.isVal (.val d) = true := rfl
theorem isVal_lst {ts : List T} : T.isVal (.lst ts) = false := rfl
theorem isVal_dic {ks : List L2.Key} {ts : List T} : T.isVal (.dic ks ts) = false := rfl
def pick (outs : En) (x : Option T) : Option Nat → Option T
  | some j => outs.getD j none
  | none => x
theorem pick_some {outs : En} {x : Option T} {j : Nat} : pick outs x (some j) = outs.getD j none := rfl
theorem pick_none {outs : En} {x : Option T} : pick outs x none = x := rfl
theorem putO_nil {os : List Op} {ts : List T} {outs : En} {i : Nat} : putO os ts outs i [] = [] := rfl
theorem putO_cons {os : List Op} {ts : List T} {outs : En} {i : Nat} {x : Option T} {r : En} : putO os ts outs i (x :: r) = pick outs x (tgt os ts i 0) :: putO os ts outs (i + 1) r := rfl
theorem tgt_nm {k : Nat} {os : List Op} {t : T} {ts : List T} {i j : Nat} : tgt (.nm k :: os) (t :: ts) i j = if k = i ∧ t.isVal = false then some j else tgt os ts i (j + 1) := rfl
theorem tgt_ex {m : Mo T} {os : List Op} {t : T} {ts : List T} {i j : Nat} : tgt (.ex m :: os) (t :: ts) i j = tgt os ts i (j + 1) := rfl
theorem tgt_nil {ts : List T} {i j : Nat} : tgt [] ts i j = none := rfl
theorem outs_zero {fx : List Nat} {i : Nat} {e : En} : outs fx 0 i e = [] := rfl
theorem outs_succ {fx : List Nat} {k i : Nat} {e : En} : outs fx (k + 1) i e = (if fx.contains i then e.getD i none else none) :: outs fx k (i + 1) e := rfl
/-! ### targets -/
theorem Ok_gN {i : Nat} {d : D} {e : En} {Q : Unit → En → Prop} : @Ok _ (mgN i d e) ⟨Q⟩ = Q () (e.set i (some (.val d))) := rfl
theorem Ok_gNil {e : En} {Q : Unit → En → Prop} : @Ok _ (mgNil [] e) ⟨Q⟩ = Q () e := rfl
theorem Ok_gCons {a : D → Mo Unit} {b : List D → Mo Unit} {d : D} {ds : List D} {e : En} {Q : Unit → En → Prop} : @Ok _ (mgCons a b (d :: ds) e) ⟨Q⟩ = @Ok _ (a d e) ⟨fun _ e' => @Ok _ (b ds e') ⟨Q⟩⟩ := Ok_bnd
theorem Ok_gT {n : Nat} {b : List D → Mo Unit} {ds : List D} {e : En} {Q : Unit → En → Prop} : @Ok _ (mgT n b (.tup ds) e) ⟨Q⟩ = @Nd (ds.length = n) ⟨@Ok _ (b ds e) ⟨Q⟩⟩ := by
  show @Ok _ ((if ds.length = n then b ds else fail) e) ⟨Q⟩ = _
  by_cases h : ds.length = n
  · rw [if_pos h]; simp [h, Nd, Ok_bnd, Ok_ret, Ok_fail, Ok_bad, Ok_ok, Got_none]
  · rw [if_neg h]; simp [h, Nd, Ok_bnd, Ok_ret, Ok_fail, Ok_bad, Ok_ok, Got_none]
def AsgK (g : D → Mo Unit) (Q : Fl → En → Prop) : T → En → Prop
  | .val d, e => @Ok _ (g d e) ⟨fun _ e2 => Q .nx e2⟩
  | _, _ => False
theorem AsgK_val {g : D → Mo Unit} {Q : Fl → En → Prop} {d : D} {e : En} : AsgK g Q (.val d) e = @Ok _ (g d e) ⟨fun _ e2 => Q .nx e2⟩ := rfl
theorem Ok_asgG {g : D → Mo Unit} {m : Mo T} {e : En} {Q : Fl → En → Prop} : @Ok _ (mAsgG g m e) ⟨Q⟩ = @Ok _ (m e) ⟨AsgK g Q⟩ := by
  unfold mAsgG
  refine Ok_bnd.trans (Ok_ext fun t e' => ?_)
  cases t with
  | val d => exact Ok_bnd
  | _ => rfl
/-! ### sources, loops -/
theorem Ok_chk {p : En → Prop} {e : En} {Q : Unit → En → Prop} : @Ok _ (chk p e) ⟨Q⟩ = @Nd (p e) ⟨Q () e⟩ := by
  unfold chk
  by_cases h : p e
  · rw [if_pos h]; simp [h, Nd, Ok_bnd, Ok_ret, Ok_fail, Ok_bad, Ok_ok, Got_none]
  · rw [if_neg h]; simp [h, Nd, Ok_bnd, Ok_ret, Ok_fail, Ok_bad, Ok_ok, Got_none]
def R1K (Q : Src → En → Prop) : List T → En → Prop
  | [.val (.int j)], e => @Nd (j < 1000000 ∧ -1000000 < j) ⟨Q ⟨rangeD 0 j.toNat, fun _ => True⟩ e⟩
  | _, _ => False
theorem R1K_int {Q : Src → En → Prop} {j : Int} {e : En} : R1K Q [.val (.int j)] e = @Nd (j < 1000000 ∧ -1000000 < j) ⟨Q ⟨rangeD 0 j.toNat, fun _ => True⟩ e⟩ := rfl
theorem Ok_rng1 {os : List Op} {e : En} {Q : Src → En → Prop} : @Ok _ (mRng1 os e) ⟨Q⟩ = @Ok _ (mArgs os e) ⟨R1K Q⟩ := by
  unfold mRng1
  rw [Ok_bnd]
  refine Ok_ext fun ts e' => ?_
  split
  · rename_i j
    show @Ok _ ((if j < 1000000 ∧ -1000000 < j then ret _ else fail : Mo Src) e') ⟨Q⟩ = @Nd _ ⟨_⟩
    by_cases h : j < 1000000 ∧ -1000000 < j
    · rw [if_pos h]; simp [h, Nd, Ok_bnd, Ok_ret, Ok_fail, Ok_bad, Ok_ok, Got_none]
    · rw [if_neg h]; simp [h, Nd, Ok_bnd, Ok_ret, Ok_fail, Ok_bad, Ok_ok, Got_none]
  · rename_i h
    unfold R1K
    split
    · rename_i j
      exact (h j rfl).elim
    · rfl
def R2K (Q : Src → En → Prop) : List T → En → Prop
  | [.val (.int i), .val (.int j)], e => @Nd ((i < 1000000 ∧ -1000000 < i) ∧ (j < 1000000 ∧ -1000000 < j)) ⟨Q ⟨rangeD i (j - i).toNat, fun _ => True⟩ e⟩
  | _, _ => False
theorem R2K_int {Q : Src → En → Prop} {i j : Int} {e : En} : R2K Q [.val (.int i), .val (.int j)] e = @Nd ((i < 1000000 ∧ -1000000 < i) ∧ (j < 1000000 ∧ -1000000 < j)) ⟨Q ⟨rangeD i (j - i).toNat, fun _ => True⟩ e⟩ := rfl
theorem Ok_rng2 {os : List Op} {e : En} {Q : Src → En → Prop} : @Ok _ (mRng2 os e) ⟨Q⟩ = @Ok _ (mArgs os e) ⟨R2K Q⟩ := by
  unfold mRng2
  rw [Ok_bnd]
  refine Ok_ext fun ts e' => ?_
  split
  · rename_i i j
    show @Ok _ ((if (i < 1000000 ∧ -1000000 < i) ∧ (j < 1000000 ∧ -1000000 < j) then ret _ else fail : Mo Src) e') ⟨Q⟩ = @Nd _ ⟨_⟩
    by_cases h : (i < 1000000 ∧ -1000000 < i) ∧ (j < 1000000 ∧ -1000000 < j)
    · rw [if_pos h]; simp [h, Nd, Ok_bnd, Ok_ret, Ok_fail, Ok_bad, Ok_ok, Got_none]
    · rw [if_neg h]; simp [h, Nd, Ok_bnd, Ok_ret, Ok_fail, Ok_bad, Ok_ok, Got_none]
  · rename_i h
    unfold R2K
    split
    · rename_i i j
      exact (h i j rfl).elim
    · rfl
theorem Ok_seq_nm {i : Nat} {e : En} {Q : Src → En → Prop} : @Ok _ (mSeqS (.nm i) e) ⟨Q⟩ = @GotS e[i]? ⟨fun t => @GotL t.items ⟨fun ds => Q ⟨ds, fun e => e[i]? = some (some t)⟩ e⟩⟩ := by
  unfold mSeqS
  rw [Ok_bnd, Ok_get]
  cases e[i]? with
  | none => rfl
  | some o => cases o with
    | none => rfl
    | some t =>
      show @Ok _ ((match t.items with | some ds => ret _ | none => fail : Mo Src) e) ⟨Q⟩ = @GotL t.items ⟨_⟩
      cases t.items <;> rfl
theorem Ok_seq_ex {m : Mo T} {e : En} {Q : Src → En → Prop} : @Ok _ (mSeqS (.ex m) e) ⟨Q⟩ = @Ok _ (m e) ⟨fun t e' => @GotL t.items ⟨fun ds => Q ⟨ds, fun _ => True⟩ e'⟩⟩ := by
  unfold mSeqS
  rw [Ok_bnd]
  refine Ok_ext fun t e' => ?_
  cases t.items <;> rfl
theorem items_tup {ds : List D} : T.items (.val (.tup ds)) = some ds := rfl
theorem items_vlst {ds : List D} : T.items (.val (.lst ds)) = some ds := rfl
theorem items_rol {ds : List D} : T.items (.val (.rol ds)) = some ds := rfl
theorem items_lst {ds : List D} : T.items (.lst (ds.map T.val)) = some ds := by
  unfold T.items T.itemsL
  rw [peek_lst, vals_map]
  rfl
theorem Ok_for {ms : Mo Src} {g : D → Mo Unit} {b : Mo Fl} {e : En} {Q : Fl → En → Prop} : @Ok _ (mFor ms g b e) ⟨Q⟩ = @Ok _ (ms e) ⟨fun S e' => @Ok _ (forL S.inv g b S.ds e') ⟨Q⟩⟩ := Ok_bnd
def Lp (Q : Fl → En → Prop) (n : En → Prop) : Fl → En → Prop
  | .nx, e => n e
  | .ct, e => n e
  | .bk, e => Q .nx e
  | .ret t, e => Q (.ret t) e
theorem Lp_nx {Q : Fl → En → Prop} {n : En → Prop} {e : En} : Lp Q n .nx e = n e := rfl
theorem Lp_ct {Q : Fl → En → Prop} {n : En → Prop} {e : En} : Lp Q n .ct e = n e := rfl
theorem Lp_bk {Q : Fl → En → Prop} {n : En → Prop} {e : En} : Lp Q n .bk e = Q .nx e := rfl
theorem Lp_ret {Q : Fl → En → Prop} {n : En → Prop} {e : En} {t : T} : Lp Q n (.ret t) e = Q (.ret t) e := rfl
theorem Ok_forL_nil {inv : En → Prop} {g : D → Mo Unit} {b : Mo Fl} {e : En} {Q : Fl → En → Prop} : @Ok _ (forL inv g b [] e) ⟨Q⟩ = (inv e ∧ Q .nx e) := by
  unfold forL
  rw [Ok_bnd, Ok_chk]
  rfl
theorem Ok_forL_cons {inv : En → Prop} {g : D → Mo Unit} {b : Mo Fl} {d : D} {ds : List D} {e : En} {Q : Fl → En → Prop} : @Ok _ (forL inv g b (d :: ds) e) ⟨Q⟩ = (inv e ∧ @Ok _ (g d e) ⟨fun _ e1 => @Ok _ (b e1) ⟨Lp Q fun e2 => @Ok _ (forL inv g b ds e2) ⟨Q⟩⟩⟩) := by
  rw [forL, Ok_bnd, Ok_chk]
  show (_ ∧ _) = _
  congr 1
  exact Ok_bnd.trans (Ok_ext fun _ e1 => Ok_bnd.trans (Ok_ext fun f e2 => by cases f <;> rfl))
theorem forL_ok {inv : En → Prop} {g : D → Mo Unit} {b : Mo Fl} {Q : Fl → En → Prop} (I : Nat → En → Prop) : ∀ (ds : List D) (n : Nat) (e : En), I n e →
    (∀ k d e, ds[k]? = some d → I (n + k) e → inv e ∧ @Ok _ (g d e) ⟨fun _ e1 => @Ok _ (b e1) ⟨Lp Q fun e2 => I (n + k + 1) e2⟩⟩) → (∀ e, I (n + ds.length) e → inv e ∧ Q .nx e) → @Ok _ (forL inv g b ds e) ⟨Q⟩
  | [], n, e, h, _, hend => by
    rw [Ok_forL_nil]
    exact hend e h
  | d :: ds, n, e, h, step, hend => by
    rw [Ok_forL_cons]
    obtain ⟨h1, h2⟩ := step 0 d e rfl h
    refine ⟨h1, h2.mono fun _ e1 h3 => h3.mono fun f e2 h4 => ?_⟩
    have go : I (n + 1) e2 → @Ok _ (forL inv g b ds e2) ⟨Q⟩ := fun h5 => forL_ok I ds (n + 1) e2 h5 (fun k d e hk hI => by
      have := step (k + 1) d e hk (by rw [show n + (k + 1) = n + 1 + k by omega]; exact hI)
      rw [show n + 1 + k + 1 = n + (k + 1) + 1 by omega]
      exact this) (fun e he => hend e (by rw [List.length_cons, show n + (ds.length + 1) = n + 1 + ds.length by omega]; exact he))
    cases f with
    | nx => exact go h4
    | ct => exact go h4
    | bk => exact h4
    | ret t => exact h4
theorem Ok_lc {ms : Mo Src} {g : D → Mo Unit} {tt : Mo Bool} {te : Mo T} {vs : List Nat} {e : En} {Q : T → En → Prop} : @Ok _ (mLc ms g tt te vs e) ⟨Q⟩ = @Ok _ (ms e) ⟨fun S e1 => @Nd (okv e1 vs = true ∧ S.ds.length ≤ 100000) ⟨@Ok _ (lcL S.inv g tt te vs S.ds (wipeE vs e1)) ⟨fun ts e2 => Q (.lst ts) (backE vs e1 e2)⟩⟩⟩ := by
  unfold mLc
  rw [Ok_bnd]
  refine Ok_ext fun S e1 => ?_
  by_cases h : okv e1 vs = true ∧ S.ds.length ≤ 100000
  · rw [if_pos h, eq_true h, Nd_t]
    cases lcL S.inv g tt te vs S.ds (wipeE vs e1) <;> rfl
  · rw [if_neg h, eq_false h]
    unfold Nd
    simp [Ok_bnd, Ok_ret, Ok_fail, Ok_bad, Ok_ok, Got_none]
theorem Ok_lcL_nil {inv : En → Prop} {g : D → Mo Unit} {tt : Mo Bool} {te : Mo T} {vs : List Nat} {e : En} {Q : List T → En → Prop} : @Ok _ (lcL inv g tt te vs [] e) ⟨Q⟩ = (inv e ∧ Q [] e) := by
  unfold lcL
  rw [Ok_bnd, Ok_chk]
  rfl
theorem Ok_lcL_cons {inv : En → Prop} {g : D → Mo Unit} {tt : Mo Bool} {te : Mo T} {vs : List Nat} {d : D} {ds : List D} {e : En} {Q : List T → En → Prop} : @Ok _ (lcL inv g tt te vs (d :: ds) e) ⟨Q⟩ = (inv e ∧ @Ok _ (g d e) ⟨fun _ e1 => @Ok _ (tt e1) ⟨fun c e2 =>
    @Br c ⟨@Ok _ (te e2) ⟨fun t e3 => @Ok _ (lcL inv g tt te vs ds (wipeE vs e3)) ⟨fun ts e4 => Q (t :: ts) e4⟩⟩⟩ ⟨@Ok _ (lcL inv g tt te vs ds (wipeE vs e2)) ⟨Q⟩⟩⟩⟩) := by
  rw [lcL, Ok_bnd, Ok_chk]
  show (_ ∧ _) = _
  congr 1
  refine Ok_bnd.trans (Ok_ext fun _ e1 => Ok_bnd.trans (Ok_ext fun c e2 => ?_))
  cases c with
  | true => exact Ok_bnd.trans (Ok_ext fun t e3 => Ok_bnd.trans Ok_bnd)
  | false => exact Ok_bnd
theorem lcL_ok {inv : En → Prop} {g : D → Mo Unit} {tt : Mo Bool} {te : Mo T} {vs : List Nat} (I : Nat → List T → En → Prop) : ∀ (ds : List D) (n : Nat) (us : List T) (e : En) (Q : List T → En → Prop), I n us e →
    (∀ k d us e, ds[k]? = some d → I (n + k) us e → inv e ∧ @Ok _ (g d e) ⟨fun _ e1 => @Ok _ (tt e1) ⟨fun c e2 => @Br c ⟨@Ok _ (te e2) ⟨fun t e3 => I (n + k + 1) (us ++ [t]) (wipeE vs e3)⟩⟩ ⟨I (n + k + 1) us (wipeE vs e2)⟩⟩⟩) →
    (∀ us e, I (n + ds.length) us e → inv e ∧ Q us e) → @Ok _ (lcL inv g tt te vs ds e) ⟨fun ts e => Q (us ++ ts) e⟩
  | [], n, us, e, Q, h, _, hend => by
    rw [Ok_lcL_nil, List.append_nil]
    exact hend us e h
  | d :: ds, n, us, e, Q, h, step, hend => by
    rw [Ok_lcL_cons]
    obtain ⟨h1, h2⟩ := step 0 d us e rfl h
    have go : ∀ us' e2, I (n + 1) us' e2 → @Ok _ (lcL inv g tt te vs ds e2) ⟨fun ts e => Q (us' ++ ts) e⟩ := fun us' e2 h5 => lcL_ok I ds (n + 1) us' e2 Q h5 (fun k d us e hk hI => by
      have := step (k + 1) d us e hk (by rw [show n + (k + 1) = n + 1 + k by omega]; exact hI)
      rw [show n + 1 + k + 1 = n + (k + 1) + 1 by omega]
      exact this) (fun us e he => hend us e (by rw [List.length_cons, show n + (ds.length + 1) = n + 1 + ds.length by omega]; exact he))
    refine ⟨h1, h2.mono fun _ e1 h3 => h3.mono fun c e2 h4 => ?_⟩
    cases c with
    | true =>
      refine Ok.mono h4 fun t e3 h5 => ?_
      refine (go _ _ h5).mono fun ts e4 h6 => ?_
      rw [List.append_assoc] at h6
      exact h6
    | false =>
      exact go _ _ h4
/-! ### operations -/
theorem Ok_m1 {f : List D → Option T} {m : Mo T} {o2 : Op} {e : En} {Q : T → En → Prop} : @Ok _ (mM1 f (.ex m) o2 e) ⟨Q⟩ = @Ok _ (m e) ⟨fun t e1 => @Nd (isS t = true) ⟨@Ok _ (mArgs [o2] e1) ⟨fun ts e2 => @Ok _ (ap f (t :: ts) e2) ⟨Q⟩⟩⟩⟩ := by
  unfold mM1
  rw [Ok_bnd]
  refine Ok_ext fun t e1 => ?_
  cases isS t with
  | true => rw [eq_true (rfl : true = true), Nd_t]; exact Ok_bnd
  | false => simp [Nd, Ok_bnd, Ok_ret, Ok_fail, Ok_bad, Ok_ok, Got_none]
theorem isS_str2 {x : Str} : isS (.val (.str x)) = true := rfl
theorem Ok_part_no {e : En} {Q : Option Int → En → Prop} : @Ok _ (mPart .no e) ⟨Q⟩ = Q none e := rfl
theorem Ok_part_so {m : Mo T} {e : En} {Q : Option Int → En → Prop} : @Ok _ (mPart (.so m) e) ⟨Q⟩ = @Ok _ (m e) ⟨fun t e' => @Ok _ (asI t e') ⟨Q⟩⟩ := Ok_bnd
theorem asI_int {i : Int} : asI (.val (.int i)) = ret (some i) := rfl
def Got3 (f : D → Option Int → Option Int → Option T) (l u : Option Int) (Q : T → Prop) : List D → Prop
  | [d] => @Got (f d l u) ⟨Q⟩
  | _ => False
theorem Got3_one {f : D → Option Int → Option Int → Option T} {l u : Option Int} {Q : T → Prop} {d : D} : Got3 f l u Q [d] = @Got (f d l u) ⟨Q⟩ := rfl
theorem Ok_ap3 {f : D → Option Int → Option Int → Option T} {t : T} {l u : Option Int} {e : En} {Q : T → En → Prop} : @Ok _ (ap3 f t l u e) ⟨Q⟩ = @GotL (peeks [t]) ⟨Got3 f l u fun t => Q t e⟩ := by
  unfold ap3
  rw [peeks_cons, peeks_nil]
  cases t.peek with
  | none => rfl
  | some d =>
    show @Ok _ ((match f d l u with | some t' => ret t' | none => fail : Mo T) e) ⟨Q⟩ = @Got (f d l u) ⟨_⟩
    cases f d l u <;> rfl
theorem Ok_sl_ex {f : D → Option Int → Option Int → Option T} {m : Mo T} {lo hi : Pt} {e : En} {Q : T → En → Prop} : @Ok _ (mSl f (.ex m) lo hi e) ⟨Q⟩ = @Ok _ (m e) ⟨fun t e1 => @Ok _ (mPart lo e1) ⟨fun l e2 => @Ok _ (mPart hi e2) ⟨fun u e3 => @Ok _ (ap3 f t l u e3) ⟨Q⟩⟩⟩⟩ := by
  unfold mSl
  exact Ok_bnd.trans (Ok_ext fun t e1 => Ok_bnd.trans (Ok_ext fun l e2 => Ok_bnd))
theorem Ok_sl_nm {f : D → Option Int → Option Int → Option T} {i : Nat} {lo hi : Pt} {e : En} {Q : T → En → Prop} : @Ok _ (mSl f (.nm i) lo hi e) ⟨Q⟩ = @Ok _ (hasS i e) ⟨fun _ e1 => @Ok _ (mPart lo e1) ⟨fun l e2 => @Ok _ (mPart hi e2) ⟨fun u e3 => @Ok _ (getS i e3) ⟨fun t e4 => @Ok _ (ap3 f t l u e4) ⟨Q⟩⟩⟩⟩⟩ := by
  unfold mSl
  exact Ok_bnd.trans (Ok_ext fun _ e1 => Ok_bnd.trans (Ok_ext fun l e2 => Ok_bnd.trans (Ok_ext fun u e3 => Ok_bnd)))
def GotN (o : Option Nat) [q : Kt (Nat → Prop)] : Prop := match o with
  | some n => q.k n
  | none => False
theorem GotN_some {n : Nat} {Q : Nat → Prop} : @GotN (some n) ⟨Q⟩ = Q n := rfl
def SetK (i : Nat) (t : T) (j : Int) (e : En) (Q : Fl → En → Prop) : T → Prop
  | .lst ts => @GotN (L2.ixN ts.length j) ⟨fun n => Q .nx (e.set i (some (.lst (ts.set n t))))⟩
  | _ => False
theorem SetK_lst {i : Nat} {t : T} {j : Int} {e : En} {Q : Fl → En → Prop} {ts : List T} : SetK i t j e Q (.lst ts) = @GotN (L2.ixN ts.length j) ⟨fun n => Q .nx (e.set i (some (.lst (ts.set n t))))⟩ := rfl
theorem fAdd_int {i j : Int} : fAdd [.int i, .int j] = some (.val (.int (i + j))) := rfl
theorem fAdd_str {x y : Str} : fAdd [.str x, .str y] = if x.length + y.length ≤ 10000000 then some (.val (.str (x ++ y))) else none := rfl
theorem fAdd_tup {a b : List D} : fAdd [.tup a, .tup b] = if a.length + b.length ≤ 1000000 then some (.val (.tup (a ++ b))) else none := rfl
theorem fAdd_lst {a b : List D} : fAdd [.lst a, .lst b] = if a.length + b.length ≤ 1000000 then some (.lst ((a ++ b).map T.val)) else none := rfl
theorem fII_int {c : Int → Int → Bool} {g : Int → Int → D} {i j : Int} : fII c g [.int i, .int j] = if c i j = true then some (.val (g i j)) else none := by
  show (match c i j with | true => some (T.val (g i j)) | false => none) = _
  cases c i j <;> rfl
theorem fII0_int {g : Int → Int → D} {i j : Int} : fII0 g [.int i, .int j] = some (.val (g i j)) := rfl
theorem p64 : (2 : Int) ^ 64 = 18446744073709551616 := by decide +kernel
theorem cMul_r {i : Int} {j : Int} : cMul i j = ((decide (-18446744073709551616 < i) && decide (i < 18446744073709551616)) || (decide (-18446744073709551616 < j) && decide (j < 18446744073709551616))) := by
  unfold cMul
  rw [p64]
theorem fEq_int {i j : Int} : fEq [.int i, .int j] = some (.val (.bl (decide (i = j)))) := rfl
theorem fEq_str {i j : Str} : fEq [.str i, .str j] = some (.val (.bl (decide (i = j)))) := rfl
theorem fNe_int {i j : Int} : fNe [.int i, .int j] = some (.val (.bl (!decide (i = j)))) := rfl
theorem fNe_str {i j : Str} : fNe [.str i, .str j] = some (.val (.bl (!decide (i = j)))) := rfl
theorem fIx_lst {ds : List D} {i : Int} : fIx [.lst ds, .int i] = (L2.atI ds i).map T.val := rfl
theorem fIx_rol {ds : List D} {i : Int} : fIx [.rol ds, .int i] = (L2.atI ds i).map T.val := rfl
theorem fIx_tup {ds : List D} {i : Int} : fIx [.tup ds, .int i] = (L2.atI ds i).map T.val := rfl
theorem fLen_lst {ds : List D} : fLen [.lst ds] = some (.val (.int ds.length)) := rfl
theorem fLen_rol {ds : List D} : fLen [.rol ds] = some (.val (.int ds.length)) := rfl
theorem fLen_tup {ds : List D} : fLen [.tup ds] = some (.val (.int ds.length)) := rfl
theorem fAbs_int {i : Int} : fAbs [.int i] = some (.val (.int (if i < 0 then -i else i))) := rfl
theorem fMax2_int {i j : Int} : fMax2 [.int i, .int j] = some (.val (.int (if j > i then j else i))) := rfl
theorem fMin2_int {i j : Int} : fMin2 [.int i, .int j] = some (.val (.int (if j < i then j else i))) := rfl
theorem fTuple_lst {ds : List D} : fTuple [.lst ds] = some (.val (.tup ds)) := rfl
theorem fTuple_tup {ds : List D} : fTuple [.tup ds] = some (.val (.tup ds)) := rfl
theorem fList_lst {ds : List D} : fList [.lst ds] = some (.lst (ds.map T.val)) := rfl
theorem fList_tup {ds : List D} : fList [.tup ds] = some (.lst (ds.map T.val)) := rfl
theorem setIx_at {i : Nat} {t : T} {j : Int} {e : En} {Q : Fl → En → Prop} : @Ok _ (setIx i t (.val (.int j)) e) ⟨Q⟩ = @GotS e[i]? ⟨SetK i t j e Q⟩ := by
  unfold setIx
  cases e[i]? with
  | none => rfl
  | some o => cases o with
    | none => rfl
    | some u => cases u with
      | lst ts =>
        show @Ok _ (match ixN ts.length j with | some n => _ | none => _) ⟨Q⟩ = @GotN (ixN ts.length j) ⟨_⟩
        cases ixN ts.length j <;> rfl
      | _ => rfl
theorem Ok_setIx {i : Nat} {mi me : Mo T} {e : En} {Q : Fl → En → Prop} : @Ok _ (mSetIx i mi me e) ⟨Q⟩ = @Ok _ (me e) ⟨fun t e1 => @Ok _ (hasS i e1) ⟨fun _ e2 => @Ok _ (mi e2) ⟨fun k e3 => @Ok _ (setIx i t k e3) ⟨Q⟩⟩⟩⟩ := by
  unfold mSetIx
  exact Ok_bnd.trans (Ok_ext fun t e1 => Ok_bnd.trans (Ok_ext fun _ e2 => Ok_bnd))
end Pf

set_option Elab.async false
set_option linter.all false
set_option maxRecDepth 100000
/-! PfX: indices by literals, and the run of mirrors as one tactic, walk_at "wp". -/
namespace Pf
open PySem PySem.Spec L2
theorem atI_nat {α : Type} (ds : List α) (k : Nat) : atI ds (k : Int) = ds[k]? := by
  unfold atI ixN
  rw [if_pos (Int.natCast_nonneg k)]
  by_cases h : k < ds.length
  · rw [if_pos (by omega)]; simp
  · rw [if_neg (by omega)]
    simp only [Option.bind_none]
    rw [List.getElem?_eq_none (by omega)]
theorem atI_0 {α : Type} {ds : List α} : atI ds 0 = ds[0]? := atI_nat ds 0
theorem atI_1 {α : Type} {ds : List α} : atI ds 1 = ds[1]? := atI_nat ds 1
theorem atI_2 {α : Type} {ds : List α} : atI ds 2 = ds[2]? := atI_nat ds 2
theorem atI_3 {α : Type} {ds : List α} : atI ds 3 = ds[3]? := atI_nat ds 3
theorem atI_4 {α : Type} {ds : List α} : atI ds 4 = ds[4]? := atI_nat ds 4
theorem atI_5 {α : Type} {ds : List α} : atI ds 5 = ds[5]? := atI_nat ds 5
theorem ixN_0 {n : Nat} : ixN (n + 1) 0 = some 0 := by
  unfold ixN
  rw [if_pos (by omega), if_pos (by omega)]; rfl
theorem ixN_1 {n : Nat} : ixN (n + 1 + 1) 1 = some 1 := by
  unfold ixN
  rw [if_pos (by omega), if_pos (by omega)]; rfl
/-- an index drawn: some item -/
theorem atI_in {α : Type} {ds : List α} {i : Int} (h0 : 0 ≤ i) (h1 : i < ds.length) : ∃ d, atI ds i = some d ∧ d ∈ ds := by
  obtain ⟨k, rfl⟩ := Int.eq_ofNat_of_zero_le h0
  have hk : k < ds.length := by omega
  exact ⟨ds[k], by rw [atI_nat]; exact List.getElem?_eq_getElem hk, List.getElem_mem hk⟩
theorem atI_map' {α β : Type} {f : α → β} {xs : List α} {i : Int} : atI (xs.map f) i = (atI xs i).map f := by
  unfold atI
  rw [List.length_map]
  cases ixN xs.length i with
  | none => rfl
  | some j => simp
def okSlot : Option (Option T) → Bool
  | some (some t) => t.isVal
  | _ => true
theorem okv_nil {e : En} : okv e [] = true := rfl
theorem okv_cons {e : En} {v : Nat} {vs : List Nat} : okv e (v :: vs) = (okSlot e[v]? && okv e vs) := by
  unfold okv
  rw [List.all_cons]
  congr 1
theorem okSlot_none : okSlot (some none) = true := rfl
theorem okSlot_some {t : T} : okSlot (some (some t)) = t.isVal := rfl
theorem wipeE_nil {e : En} : wipeE [] e = e := rfl
theorem wipeE_cons {v : Nat} {vs : List Nat} {e : En} : wipeE (v :: vs) e = (wipeE vs e).set v none := rfl
theorem backE_nil {e e' : En} : backE [] e e' = e' := rfl
theorem backE_cons {v : Nat} {vs : List Nat} {e e' : En} : backE (v :: vs) e e' = (backE vs e e').set v ((e[v]?).getD none) := rfl
theorem rangeD_len {lo : Int} {n : Nat} : (rangeD lo n).length = n := by
  unfold rangeD
  rw [List.length_map, List.length_range]
theorem rangeD_at {lo : Int} {n k : Nat} {d : D} (h : (rangeD lo n)[k]? = some d) : k < n ∧ d = .int (lo + k) := by
  unfold rangeD at h
  rw [List.getElem?_map] at h
  cases q : (List.range n)[k]? with
  | none => rw [q] at h; cases h
  | some j =>
    rw [q] at h
    obtain ⟨h1, h2⟩ := List.getElem?_eq_some_iff.mp q
    rw [List.length_range] at h1
    rw [List.getElem_range] at h2
    subst h2
    exact ⟨h1, (Option.some.inj h).symm⟩
theorem lcL_ok0 {inv : En → Prop} {g : D → Mo Unit} {tt : Mo Bool} {te : Mo T} {vs : List Nat} {ds : List D} {e : En} {Q : List T → En → Prop} (I : Nat → List T → En → Prop) (h : I 0 [] e)
    (step : ∀ k d us e, ds[k]? = some d → I k us e → inv e ∧ @Ok _ (g d e) ⟨fun _ e1 => @Ok _ (tt e1) ⟨fun c e2 => @Br c ⟨@Ok _ (te e2) ⟨fun t e3 => I (k + 1) (us ++ [t]) (wipeE vs e3)⟩⟩ ⟨I (k + 1) us (wipeE vs e2)⟩⟩⟩)
    (hend : ∀ us e, I ds.length us e → inv e ∧ Q us e) : @Ok _ (lcL inv g tt te vs ds e) ⟨Q⟩ :=
  lcL_ok I ds 0 [] e Q h (fun k d us e hk hI => by
    have := step k d us e hk (by rwa [Nat.zero_add] at hI)
    rw [Nat.zero_add]
    exact this) (fun us e hI => hend us e (by rwa [Nat.zero_add] at hI))
theorem forL_ok0 {inv : En → Prop} {g : D → Mo Unit} {b : Mo Fl} {ds : List D} {e : En} {Q : Fl → En → Prop} (I : Nat → En → Prop) (h : I 0 e)
    (step : ∀ k d e, ds[k]? = some d → I k e → inv e ∧ @Ok _ (g d e) ⟨fun _ e1 => @Ok _ (b e1) ⟨Lp Q fun e2 => I (k + 1) e2⟩⟩) (hend : ∀ e, I ds.length e → inv e ∧ Q .nx e) : @Ok _ (forL inv g b ds e) ⟨Q⟩ :=
  forL_ok I ds 0 e h (fun k d e hk hI => by
    have := step k d e hk (by rwa [Nat.zero_add] at hI)
    rw [Nat.zero_add]
    exact this) (fun e hI => hend e (by rwa [Nat.zero_add] at hI))
def AppE (i : Nat) (t : T) (e : En) (Q : Fl → En → Prop) : T → Prop
  | .lst ts => @Nd (ts.length ≤ 1000000) ⟨Q .nx (e.set i (some (.lst (ts ++ [t]))))⟩
  | _ => False
theorem Ok_app {i : Nat} {m : Mo T} {e : En} {Q : Fl → En → Prop} : @Ok _ (mApp i m e) ⟨Q⟩ = @GotS e[i]? ⟨fun t0 => @Nd (isLst t0 = true) ⟨@Ok _ (m e) ⟨fun t e1 => @GotS e1[i]? ⟨AppE i t e1 Q⟩⟩⟩⟩ := by
  unfold mApp
  rw [Ok_bnd, Ok_get]
  cases e[i]? with
  | none => rfl
  | some o => cases o with
    | none => rfl
    | some t0 =>
      show @Ok _ ((match isLst t0 with | true => _ | false => _ : Mo Fl) e) ⟨Q⟩ = @Nd (isLst t0 = true) ⟨_⟩
      cases isLst t0 with
      | false => unfold Nd; simp [Ok_fail]
      | true =>
        rw [eq_true (rfl : true = true), Nd_t]
        show @Ok _ (bnd m _ e) ⟨Q⟩ = _
        refine Ok_bnd.trans (Ok_ext fun t e1 => ?_)
        rw [Ok_bnd, Ok_get]
        cases e1[i]? with
        | none => rfl
        | some o => cases o with
          | none => rfl
          | some t1 => cases t1 with
            | lst ts =>
              show @Ok _ (if ts.length ≤ 1000000 then _ else _) ⟨Q⟩ = @Nd (ts.length ≤ 1000000) ⟨_⟩
              by_cases h : ts.length ≤ 1000000
              · rw [if_pos h, eq_true h, Nd_t]; rfl
              · rw [if_neg h, eq_false h]; unfold Nd; simp [Ok_bad]
            | _ => rfl
theorem isLst_lst {ts : List T} : isLst (.lst ts) = true := rfl
theorem AppE_lst {i : Nat} {t : T} {e : En} {Q : Fl → En → Prop} {ts : List T} : AppE i t e Q (.lst ts) = @Nd (ts.length ≤ 1000000) ⟨Q .nx (e.set i (some (.lst (ts ++ [t]))))⟩ := rfl
theorem join_eq (a : Str) (ys : List Str) : Txt.join a ys = Str.join a ys := by
  show Builtin.Str.glued a ys = _
  rw [StrLaws.glued_eq_join]
theorem join_nil (a : Str) : Txt.join a [] = Str.empty := by rw [join_eq]; rfl
theorem join_one (a x : Str) : Txt.join a [x] = x := by rw [join_eq]; rfl
theorem join_cons (a x y : Str) (r : List Str) : Txt.join a (x :: y :: r) = x ++ a ++ Txt.join a (y :: r) := by
  rw [join_eq, join_eq]
  rfl
theorem join_le (a : Str) : ∀ ys : List Str, (Txt.join a ys).length ≤ (ys.map (·.length)).sum + ys.length * a.length
  | [] => by
    rw [join_nil]
    exact Nat.zero_le _
  | [x] => by
    rw [join_one]
    simp
  | x :: y :: r => by
    rw [join_cons, Str.length_append, Str.length_append]
    have := join_le a (y :: r)
    simp only [List.map_cons, List.sum_cons, List.length_cons] at this ⊢
    rw [Nat.add_mul (r.length + 1) 1 a.length]
    omega
theorem sum_le {α : Type} (f : α → Nat) (B : Nat) : ∀ ys : List α, (∀ y ∈ ys, f y ≤ B) → (ys.map f).sum ≤ ys.length * B
  | [], _ => by simp
  | x :: r, h => by
    rw [List.map_cons, List.sum_cons, List.length_cons, Nat.add_mul]
    have := sum_le f B r fun y m => h y (List.mem_cons_of_mem _ m)
    have := h x List.mem_cons_self
    omega
theorem strsD_map : ∀ xs : List Str, strsD (xs.map D.str) = some xs
  | [] => rfl
  | x :: xs => by
    show (strsD (xs.map D.str)).map (x :: ·) = _
    rw [strsD_map xs]
    rfl
theorem fJoin_lst {a : Str} {xs : List Str} : fJoin [.str a, .lst (xs.map D.str)] = if (xs.map (·.length)).sum + xs.length * a.length ≤ 10000000 then some (.val (.str (Txt.join a xs))) else none := by
  show (match strsD (xs.map D.str) with | some ys => _ | none => _) = _
  rw [strsD_map]
theorem fJoin_tup {a : Str} {xs : List Str} : fJoin [.str a, .tup (xs.map D.str)] = if (xs.map (·.length)).sum + xs.length * a.length ≤ 10000000 then some (.val (.str (Txt.join a xs))) else none := by
  show (match strsD (xs.map D.str) with | some ys => _ | none => _) = _
  rw [strsD_map]
theorem fSl_str {z : Str} {l u : Option Int} : fSl (.str z) l u = if z.length ≤ 10000000 then some (.val (.str (cutS z l u))) else none := rfl
theorem fSl_tup {z : List D} {l u : Option Int} : fSl (.tup z) l u = some (.val (.tup (cutD z l u))) := rfl
theorem fSl_lst {z : List D} {l u : Option Int} : fSl (.lst z) l u = some (.lst ((cutD z l u).map T.val)) := rfl
theorem peek_dic {ks : List Key} {ts : List T} : T.peek (.dic ks ts) = (T.vals ts).map (D.dic ks) := by
  show (match T.vals ts with | some ds => some (D.dic ks ds) | none => none) = _
  cases T.vals ts <;> rfl
theorem peek_dit {ks : List (List Key)} {ts : List T} : T.peek (.dit ks ts) = (T.vals ts).map (D.dit ks) := by
  show (match T.vals ts with | some ds => some (D.dit ks ds) | none => none) = _
  cases T.vals ts <;> rfl
end Pf

set_option Elab.async false
set_option linter.all false
set_option maxRecDepth 100000
/-! PfH: the head's facts for Pf, the end of a law. -/
namespace Pf
open PySem PySem.Spec PyProof.Rows L2
abbrev AlX := He.AlT × Bool
def obsX (fa : List He.Fa) (fn : List He.DefD) (ts : List He.Tab) (ck : PySem.W.Frag → Bool) (K : PySem.W.Frag) : AlX := (He.obsT fa fn ts K, ck K)
def valX (fn : List He.DefD) (ts : List He.Tab) (w : World) : AlX := (He.valT fn ts w, true)
def SaysX (fa : List He.Fa) (fn : List He.DefD) (ts : List He.Tab) (ck : PySem.W.Frag → Bool) (w : World) (K : PySem.W.Frag) : Prop := obsX fa fn ts ck K = valX fn ts w
def obsXG (as : (Addr → Option Obj) → List Addr) (fa : List He.Fa) (fn : List He.DefD) (ts : List He.Tab) (ck : PySem.W.Frag → Bool) (g : Addr → Option Obj) : AlX := obsX fa fn ts ck (He.frG g (as g))
def hookX (as : (Addr → Option Obj) → List Addr) (fa : List He.Fa) (fn : List He.DefD) (ts : List He.Tab) (ck : PySem.W.Frag → Bool) : PySem.W.Hook where
  α := AlX
  obs := fun s => obsXG as fa fn ts ck s.heap.get?
  val := fun w => valX fn ts w
  says := fun w h => ∃ K : PySem.W.Frag, K.In h ∧ SaysX fa fn ts ck w K
  of := fun _ _ e => ⟨_, He.frG_in, e⟩
  keeps := fun _ _ _ ⟨K, hK, c⟩ k => ⟨K, PySem.W.Frag.In.keeps hK k, c⟩
section
variable {as : (Addr → Option Obj) → List Addr} {fa : List He.Fa} {fn : List He.DefD} {ts : List He.Tab} {ck : PySem.W.Frag → Bool} {w : World} {K : PySem.W.Frag} {mg : Str → Option Value}
theorem obsXG_eq {g : Addr → Option Obj} {s : Shared} (h : ∀ a, g a = s.heap.get? a) : obsXG as fa fn ts ck g = (hookX as fa fn ts ck).obs s := by
  have e : g = s.heap.get? := funext h
  rw [e] <;> rfl
theorem SaysX.t (c : SaysX fa fn ts ck w K) : He.SaysT fa fn ts w K := congrArg (fun z : AlX => z.1) c
theorem SaysX.chk (c : SaysX fa fn ts ck w K) : ck K = true := congrArg (fun z : AlX => z.2) c
theorem fun_ofD {x q : Str} {st : Stmt} {f : Addr} {fd : FuncData} {kws : List (Str × V)} (F : FunD K x q (defArgs st) (defBody st) (defScope st) [] kws f fd) : Fun K x q st f fd := by
  obtain ⟨oc, od, dV, kV, doc, pm, an, cdv, ct, osl, e, l, c, d, _⟩ := F.ex
  rcases d with ⟨_, d⟩ | ⟨d, _⟩
  · subst d
    exact ⟨⟨oc, od, kV, doc, pm, an, cdv, ct, osl, e, l, c⟩, F.kp⟩
  · exact (d rfl).elim
def dvD : He.Dv → Option D
  | .non => some .non
  | .bl b => some (.bl b)
  | .int i => some (.int i)
  | .str x => some (.str x)
  | _ => none
theorem lookup_dv {z : Str} {d : D} : ∀ {kv : List (Str × He.Dv)} {kvs : List (Str × D)}, kv.map (fun q => (q.1, dvD q.2)) = kvs.map (fun q => (q.1, some q.2)) → kvs.lookup z = some d → ∃ dv, (z, dv) ∈ kv ∧ dvD dv = some d
  | [], [], _, h => nomatch h
  | [], _ :: _, e, _ => nomatch e
  | _ :: _, [], e, _ => nomatch e
  | (k, v) :: r, (k2, d2) :: r2, e, h => by
    rw [List.map_cons, List.map_cons, List.cons.injEq, Prod.mk.injEq] at e
    obtain ⟨⟨e1, e2⟩, e3⟩ := e
    have e1 : k = k2 := e1
    have e2 : dvD v = some d2 := e2
    subst e1
    rw [List.lookup_cons] at h
    cases q : z == k with
    | true =>
      rw [q] at h
      have hz := eq_of_beq q
      subst hz
      cases h
      exact ⟨v, List.mem_cons_self, e2⟩
    | false =>
      rw [q] at h
      obtain ⟨dv, m, e4⟩ := lookup_dv e3 h
      exact ⟨dv, List.mem_cons_of_mem _ m, e4⟩
theorem mdict_of {x : Str} {kv : List (Str × He.Dv)} {kvs : List (Str × D)} {es : Array DictEntry} {n : Nat} (hm : mg x = some (.ref (He.ga K x))) (D : KDict K w (He.ga K x) es n) (hv : He.valsB K (He.ga K x) kv = true) (hd : kv.map (fun q => (q.1, dvD q.2)) = kvs.map (fun q => (q.1, some q.2))) : MDict K w mg x kvs := by
  refine ⟨_, hm, fun z d h => ?_⟩
  obtain ⟨dv, m, e⟩ := lookup_dv hd h
  obtain ⟨u, hu, ru⟩ := He.valsB_ok hv m
  refine ⟨_, ⟨es, n, u, D.at_, D.lit, hu, ru⟩, fun H => ?_⟩
  cases dv <;> first | (cases e; done) | (cases e; exact rfl)
end
theorem walk_mine {l : PySem.W.OpenLaw} {n k : Nat} {q : Program} {loose : List Str} {XP : (Str → Option Value) → Heap → Prop} {YP : World → Heap → Prop} {d : DefRec} {CC : World → CXT} {x : Str}
    (hn : l.most = some n) (hn2 : n ≤ sizeLine) (hdf : d.params.defaults = []) (hr : Room k callerA)
    (F : ∀ (w : World) (mg : Str → Option Value) (fa : Addr) (h : Heap), YP w h → h.Ns mainGlobals mg → mg d.name = some (.ref fa) → ∃ (K : PySem.W.Frag) (fd : FuncData) (sp : Sp), K.In h ∧ (∀ (s : Shared) (u : Value), BindsTo s fd ⟨[u], []⟩ [(x, u)]) ∧
      (∀ (H : Hp) (a : Addr) (ns : List Int), ns.length ≤ n → Only H → SqL K H a (ns.map V.int) → sp [.ref a] H (fun v _ => v = .bl true) fun _ _ _ => False) ∧ ∀ base : Heap, K.In base → base.Ns mainGlobals mg → FnOk l.prog w K mg base (CC w) k fa fd [x] sp)
    (hC : ∀ (w : World) (H : Hp) (s : Shared) (e : Value) (s' : Shared), CC w [] H s (fun _ _ _ => False) e s' → False) : PySem.W.WalkO q loose XP YP l.row.toRowW d [] (fun f vs => PySem.call f vs) := by
  refine Att.attach_call hn hdf fun w0 sa sb gm bm fad ob pmod code dc adr vals nums GG YY HO HD HC HM HB HI HL HG => ?_
  obtain ⟨KK, fdd, spp, inK, bind, post, ok⟩ := F w0 gm fad _ YY GG.T.g HM
  exact law_call inK GG.T.g GG.T.b GG.T.builtins GG.T.nolimit HG HB HI (Nat.le_trans HL hn2) hr ok bind (fun H hO hS => post H adr nums HL hO hS) fun H e s' => hC w0 H sb e s'
theorem reps_ints {K : PySem.W.Frag} {mg : Str → Option Value} {H : Hp} : ∀ ns : List Int, Reps K mg H (ns.map D.int) (ns.map V.int)
  | [] => rfl
  | n :: ns => ⟨_, _, rfl, rfl, reps_ints ns⟩
theorem post_of {K : PySem.W.Frag} {mg : Str → Option Value} {F : List T → Rs T} {H : Hp} {a : Addr} {ns : List Int} (hS : SqL K H a (ns.map V.int)) (hF : @Ok _ (F [.val (.rol (ns.map D.int))]) ⟨fun t _ => t = .val (.bl true)⟩) : spF K mg 1 F [.ref a] H (fun v _ => v = .bl true) fun _ _ _ => False := by
  obtain ⟨t, e, he, rfl⟩ := Ok.ex hF
  refine ⟨H, [.val (.rol (ns.map D.int))], fun _ => [], rfl, ⟨Same.refl _, rfl, fun i t h => ?_, fun _ _ => rfl, fun _ => List.nodup_nil, fun _ _ _ m => (nomatch m), fun _ _ m => (nomatch m)⟩, ?_⟩
  · cases i with
    | zero =>
      have h : some (some (T.val (.rol (ns.map D.int)))) = some (some t) := h
      cases h
      exact ⟨_, rfl, rfl, a, _, rfl, hS, reps_ints ns⟩
    | succ i => simp at h
  · rw [he]
    exact fun v H' H0' ow' f _ _ o _ => o.2
theorem cx_end {P : Program} (w : World) (H : Hp) (s : Shared) (e : Value) (s' : Shared) (h : L2.CX P w [] H s (fun _ _ _ => False) e s') : False := by
  obtain ⟨_, _, _, _, _, _, _, _, _, _, _, _, z⟩ := h
  exact z
end Pf

set_option Elab.async false
set_option linter.all false
set_option maxRecDepth 100000
set_option maxHeartbeats 4000000
namespace My
open PySem PySem.Spec PyProof.Rows L2 Pf
def top (i : Nat) : Stmt := PySem.Challenge.pw_stampcourse_k77_pages_written.main.body.getD i (.Pass ⟨0, 0, 0, 0⟩)
local macro_rules | `(tactic| walk_at "lv") => `(tactic| decide)
def dict_BRACKETS : List (Str × D) := [(("row" : Str), .str "()"), (("fork" : Str), .str "{}"), (("free" : Str), .str "<>")]
/-- what the top has left: the defs, the constants, the built-ins' names -/
structure TX (w : World) (K : PySem.W.Frag) (mg : Str → Option Value) : Prop where
  b_abs : mg "abs" = none
  b_isinstance : mg "isinstance" = none
  b_len : mg "len" = none
  b_list : mg "list" = none
  b_max : mg "max" = none
  b_min : mg "min" = none
  b_range : mg "range" = none
  b_str : mg "str" = none
  b_tuple : mg "tuple" = none
  d_BRACKETS : MDict K w mg "BRACKETS" dict_BRACKETS
  f__law_take : ∃ f fd, Fun K "_law_take" "_law_take" (top 10) f fd ∧ mg "_law_take" = some (.ref f) ∧ Binds K fd ["pen", "many"] []
  f__law_names : ∃ f fd, Fun K "_law_names" "_law_names" (top 11) f fd ∧ mg "_law_names" = some (.ref f) ∧ Binds K fd ["pen", "many"] []
  f__law_pen : ∃ f fd, Fun K "_law_pen" "_law_pen" (top 9) f fd ∧ mg "_law_pen" = some (.ref f) ∧ Binds K fd ["script", "k"] []
  f__law_number : ∃ f fd, Fun K "_law_number" "_law_number" (top 13) f fd ∧ mg "_law_number" = some (.ref f) ∧ Binds K fd ["pen"] []
  f__law_shape : ∃ f fd, Fun K "_law_shape" "_law_shape" (top 12) f fd ∧ mg "_law_shape" = some (.ref f) ∧ Binds K fd ["pen", "names", "deep"] []
  f__law_page : ∃ f fd, Fun K "_law_page" "_law_page" (top 14) f fd ∧ mg "_law_page" = some (.ref f) ∧ Binds K fd ["pen", "names"] []
  f_show_shape : ∃ f fd, Fun K "show_shape" "show_shape" (top 3) f fd ∧ mg "show_shape" = some (.ref f) ∧ Binds K fd ["shape"] []
  f_show_course : ∃ f fd, Fun K "show_course" "show_course" (top 4) f fd ∧ mg "show_course" = some (.ref f) ∧ Binds K fd ["course"] []
  f_show_number : ∃ f fd, Fun K "show_number" "show_number" (top 2) f fd ∧ mg "show_number" = some (.ref f) ∧ Binds K fd ["number"] []
  f_show_part : ∃ f fd, Fun K "show_part" "show_part" (top 6) f fd ∧ mg "show_part" = some (.ref f) ∧ Binds K fd ["part"] []
  f_show_page : ∃ f fd, Fun K "show_page" "show_page" (top 7) f fd ∧ mg "show_page" = some (.ref f) ∧ Binds K fd ["page"] []
  f__law_shape_text : ∃ f fd, Fun K "_law_shape_text" "_law_shape_text" (top 16) f fd ∧ mg "_law_shape_text" = some (.ref f) ∧ Binds K fd ["shape"] []
  f__law_figures : ∃ f fd, Fun K "_law_figures" "_law_figures" (top 15) f fd ∧ mg "_law_figures" = some (.ref f) ∧ Binds K fd ["number"] []
  f__law_text : ∃ f fd, Fun K "_law_text" "_law_text" (top 17) f fd ∧ mg "_law_text" = some (.ref f) ∧ Binds K fd ["page"] []
  f_law : ∃ f fd, Fun K "law" "law" (top 18) f fd ∧ mg "law" = some (.ref f) ∧ Binds K fd ["script"] []
abbrev recFuel : Nat := 9
section
variable {P : Program} {w : World} {K : PySem.W.Frag} {mg : Str → Option Value} {base : Heap}
abbrev s__law_take : Stmt := top 10
theorem sc__law_take : FnScope ["pen", "many", "digit", "second"] ["pen", "many"] (defScope s__law_take) := ⟨rfl, rfl, rfl, by decide +kernel, rfl, by decide +kernel, by decide +kernel⟩
noncomputable def m__law_take : Mo Fl :=
  mSeq (mIfS (mAnd (mTr (mB fEq [.ex (mB fIx [.nm 0, .ex (ret (.val (.int 1)))]), .ex (ret (.val (.int 0)))])) (mTr (mB fGt [.ex (mB fIx [.nm 0, .ex (ret (.val (.int 0)))]), .ex (ret (.val (.int 0)))]))) (mSeq (mAsg 2 (mB fMod [.ex (mB fIx [.nm 0, .ex (ret (.val (.int 0)))]), .nm 1]))
  (mSeq (mSetIx 0 (ret (.val (.int 0))) (mB fDiv [.ex (mB fIx [.nm 0, .ex (ret (.val (.int 0)))]), .nm 1]))
  (mRet (mMv 2)))) (mNx))
  (mSeq (mIfS (mTr (mB fEq [.ex (mB fIx [.nm 0, .ex (ret (.val (.int 1)))]), .ex (ret (.val (.int 0)))])) (mSeq (mSetIx 0 (ret (.val (.int 0))) (ret (.val (.int 65537))))
  (mSetIx 0 (ret (.val (.int 1))) (ret (.val (.int 1))))) (mNx))
  (mSeq (mSetIx 0 (ret (.val (.int 0))) (mB fMod [.ex (mB fAdd [.ex (mB fMul [.ex (mB fIx [.nm 0, .ex (ret (.val (.int 0)))]), .ex (ret (.val (.int 69621)))]), .ex (ret (.val (.int 12345)))]), .ex (ret (.val (.int 2147483629)))]))
  (mSeq (mAsg 3 (mB fMod [.ex (mB fMul [.ex (mB fIx [.nm 0, .ex (ret (.val (.int 0)))]), .ex (mB fAdd [.ex (mB fMod [.ex (mB fIx [.nm 0, .ex (ret (.val (.int 0)))]), .ex (ret (.val (.int 65519)))]), .ex (ret (.val (.int 3)))])]), .ex (ret (.val (.int 2147483587)))]))
  (mRet (mB fMod [.ex (mB fDiv [.nm 3, .ex (ret (.val (.int 7)))]), .nm 1])))))
noncomputable def F__law_take : List T → Rs T := runDef 4 2 [0, 1] m__law_take
theorem ok__law_take (T : TX w K mg) : Callee P w K mg base 1 "_law_take" ["pen", "many"] F__law_take := by
  obtain ⟨f, fd, F, gy, hb⟩ := T.f__law_take
  exact callee_of (k := 0) F gy hb sc__law_take rfl rfl (fun cdv A outer s H E hr tk hp => by
    have nd := sc__law_take.nd
    exact (psm_cons (psm_if (pb_w (pbw_and (pb_cmp op_eq cg_eq (po_ex (pm_ix ix_seq cg_ix (po_nm 0) (po_ex pm_int))) (po_ex pm_int) (nomark _)) (pbw_and1 (pb_cmp op_gt cg_gt (po_ex (pm_ix ix_seq cg_ix (po_nm 0) (po_ex pm_int))) (po_ex pm_int) (nomark _))))) (psm_cons (psm_set 2 nd (pm_bin op_mod cg_mod (po_ex (pm_ix ix_seq cg_ix (po_nm 0) (po_ex pm_int))) (po_nm 1)))
      (psm_cons (psm_setIx 0 (pm_bin op_fdiv cg_div (po_ex (pm_ix ix_seq cg_ix (po_nm 0) (po_ex pm_int))) (po_nm 1)) pm_int)
      (psm_one (psm_ret (pm_mv 2))))) psm_nil)
      (psm_cons (psm_if (pb_cmp op_eq cg_eq (po_ex (pm_ix ix_seq cg_ix (po_nm 0) (po_ex pm_int))) (po_ex pm_int) (nomark _)) (psm_cons (psm_setIx 0 pm_int pm_int)
      (psm_one (psm_setIx 0 pm_int pm_int))) psm_nil)
      (psm_cons (psm_setIx 0 (pm_bin op_mod cg_mod (po_ex (pm_bin op_addAll cg_add (po_ex (pm_bin op_mul cg_mul (po_ex (pm_ix ix_seq cg_ix (po_nm 0) (po_ex pm_int))) (po_ex pm_int))) (po_ex pm_int))) (po_ex pm_int)) pm_int)
      (psm_cons (psm_set 3 nd (pm_bin op_mod cg_mod (po_ex (pm_bin op_mul cg_mul (po_ex (pm_ix ix_seq cg_ix (po_nm 0) (po_ex pm_int))) (po_ex (pm_bin op_addAll cg_add (po_ex (pm_bin op_mod cg_mod (po_ex (pm_ix ix_seq cg_ix (po_nm 0) (po_ex pm_int))) (po_ex pm_int))) (po_ex pm_int))))) (po_ex pm_int)))
      (psm_one (psm_ret (pm_bin op_mod cg_mod (po_ex (pm_bin op_fdiv cg_div (po_nm 3) (po_ex pm_int))) (po_nm 1)))))))))
abbrev s__law_names : Stmt := top 11
theorem sc__law_names : FnScope ["pen", "many", "letters", "way", "base", "k", "size", "spot", "first", "names", "sign"] ["pen", "many"] (defScope s__law_names) := ⟨rfl, rfl, rfl, by decide +kernel, rfl, by decide +kernel, by decide +kernel⟩
noncomputable def m__law_names : Mo Fl :=
  mSeq (mAsg 2 (ret (.val (.str "abcdefghijklmnopqrstuvwxyz"))))
  (mSeq (mAsg 3 (mCall F__law_take [.nm 0, .ex (ret (.val (.int 2)))]))
  (mSeq (mAsg 4 (mM1 fJoin (.ex (ret (.val (.str "")))) (.ex (mLc (mRng1 [.ex (ret (.val (.int 8)))]) (mgN 5) (ret true) (mB fIx [.nm 2, .ex (mCall F__law_take [.nm 0, .ex (ret (.val (.int 26)))])]) [5]))))
  (mSeq (mAsg 6 (mB fAdd [.ex (ret (.val (.int 1))), .ex (mCall F__law_take [.nm 0, .ex (ret (.val (.int 8)))])]))
  (mSeq (mAsg 7 (mCall F__law_take [.nm 0, .nm 6]))
  (mSeq (mAsg 8 (mCall F__law_take [.nm 0, .ex (ret (.val (.int 26)))]))
  (mSeq (mAsg 9 (mLst []))
  (mSeq (mFor (mRng1 [.nm 1]) (mgN 5) (mIfS (mTr (mB fEq [.nm 3, .ex (ret (.val (.int 1)))])) (mApp 9 (mSl fSl (.nm 4) .no (.so (mB fAdd [.ex (ret (.val (.int 1))), .ex (mB fMod [.ex (mB fAdd [.nm 6, .nm 5]), .ex (ret (.val (.int 8)))])])))) (mSeq (mAsg 10 (mB fIx [.nm 2, .ex (mB fMod [.ex (mB fAdd [.nm 8, .nm 5]), .ex (ret (.val (.int 26)))])]))
  (mApp 9 (mB fAdd [.ex (mB fAdd [.ex (mSl fSl (.nm 4) .no (.so (mCp 7))), .nm 10]), .ex (mSl fSl (.nm 4) (.so (mB fAdd [.nm 7, .ex (ret (.val (.int 1)))])) (.so (mCp 6)))])))))
  (mRet (mMv 9)))))))))
noncomputable def F__law_names : List T → Rs T := runDef 11 2 [0, 1] m__law_names
theorem ok__law_names (T : TX w K mg) : Callee P w K mg base 2 "_law_names" ["pen", "many"] F__law_names := by
  obtain ⟨f, fd, F, gy, hb⟩ := T.f__law_names
  exact callee_of (k := 1) F gy hb sc__law_names rfl rfl (fun cdv A outer s H E hr tk hp => by
    have nd := sc__law_names.nd
    exact (psm_cons (psm_set 2 nd pm_str)
      (psm_cons (psm_set 3 nd (pm_call tk (ok__law_take T) (hr.mono (by first | decide | omega)) (pag_cons (po_nm 0) (pag_cons (po_ex pm_int) pag_nil))))
      (psm_cons (psm_set 4 nd (pm_join (po_ex pm_str) (po_ex (pm_lc (own := [("k", 5)]) (n := 11) nd (pim_rng1 T.b_range (pag_cons (po_ex pm_int) pag_nil)) (fun _ _ _ _ _ => (pgm_name 5 nd)) (fun _ _ _ _ _ => ptsm_nil) (fun _ _ _ _ _ => (pm_ix ix_seq cg_ix (po_nm 2) (po_ex (pm_call takesF (ok__law_take T) (hr.mono (by first | decide | omega)) (pag_cons (po_nm 0) (pag_cons (po_ex pm_int) pag_nil)))))) (blkOk_by (own := [("k", 5)]) (N := ["pen", "many", "letters", "way", "base", "k", "size", "spot", "first", "names", "sign"]) (sc := defScope s__law_names) (by decide +kernel))))))
      (psm_cons (psm_set 6 nd (pm_bin op_addAll cg_add (po_ex pm_int) (po_ex (pm_call tk (ok__law_take T) (hr.mono (by first | decide | omega)) (pag_cons (po_nm 0) (pag_cons (po_ex pm_int) pag_nil))))))
      (psm_cons (psm_set 7 nd (pm_call tk (ok__law_take T) (hr.mono (by first | decide | omega)) (pag_cons (po_nm 0) (pag_cons (po_nm 6) pag_nil))))
      (psm_cons (psm_set 8 nd (pm_call tk (ok__law_take T) (hr.mono (by first | decide | omega)) (pag_cons (po_nm 0) (pag_cons (po_ex pm_int) pag_nil))))
      (psm_cons (psm_set 9 nd (pm_lst pag_nil))
      (psm_cons (psm_for hp (pim_rng1 T.b_range (pag_cons (po_nm 1) pag_nil)) (pgm_name 5 nd) (psm_one (psm_if (pb_cmp op_eq cg_eq (po_nm 3) (po_ex pm_int) (nomark _)) (psm_one (psm_app (i := 9) (pm_sl (po_nm 4) ppt_no (ppt_so (pm_bin op_addAll cg_add (po_ex pm_int) (po_ex (pm_bin op_mod cg_mod (po_ex (pm_bin op_addAll cg_add (po_nm 6) (po_nm 5))) (po_ex pm_int)))))))) (psm_cons (psm_set 10 nd (pm_ix ix_seq cg_ix (po_nm 2) (po_ex (pm_bin op_mod cg_mod (po_ex (pm_bin op_addAll cg_add (po_nm 8) (po_nm 5))) (po_ex pm_int)))))
      (psm_one (psm_app (i := 9) (pm_bin op_addAll cg_add (po_ex (pm_bin op_addAll cg_add (po_ex (pm_sl (po_nm 4) ppt_no (ppt_so (pm_cp 7)))) (po_nm 10))) (po_ex (pm_sl (po_nm 4) (ppt_so (pm_bin op_addAll cg_add (po_nm 7) (po_ex pm_int))) (ppt_so (pm_cp 6)))))))))))
      (psm_one (psm_ret (pm_mv 9))))))))))))
abbrev s__law_pen : Stmt := top 9
theorem sc__law_pen : FnScope ["script", "k", "cell"] ["script", "k"] (defScope s__law_pen) := ⟨rfl, rfl, rfl, by decide +kernel, rfl, by decide +kernel, by decide +kernel⟩
noncomputable def m__law_pen : Mo Fl :=
  mSeq (mAsg 2 (mB fAdd [.ex (ret (.val (.int 7))), .ex (mB fMul [.ex (ret (.val (.int 31))), .nm 1])]))
  (mSeq (mIfS (mTr (mB fLt [.nm 1, .ex (mB fLen [.nm 0])])) (mAsg 2 (mB fIx [.nm 0, .nm 1])) (mNx))
  (mSeq (mIfS (mTr (mB fGe [.nm 2, .ex (mB fPow [.ex (ret (.val (.int 10))), .ex (ret (.val (.int 18)))])])) (mRet (mLst [.ex (mB fSub [.nm 2, .ex (mB fPow [.ex (ret (.val (.int 10))), .ex (ret (.val (.int 18)))])]), .ex (ret (.val (.int 0)))])) (mNx))
  (mRet (mLst [.ex (mB fMod [.ex (mB fMul [.ex (mB fAdd [.ex (mB fAdd [.ex (mB fMod [.nm 2, .ex (ret (.val (.int 2147483629)))]), .ex (mB fMul [.ex (ret (.val (.int 40503))), .nm 1])]), .ex (ret (.val (.int 1)))]), .ex (ret (.val (.int 48271)))]), .ex (ret (.val (.int 2147483647)))]), .ex (ret (.val (.int 1)))]))))
noncomputable def F__law_pen : List T → Rs T := runDef 3 2 [0, 1] m__law_pen
theorem ok__law_pen (T : TX w K mg) : Callee P w K mg base 1 "_law_pen" ["script", "k"] F__law_pen := by
  obtain ⟨f, fd, F, gy, hb⟩ := T.f__law_pen
  exact callee_of (k := 0) F gy hb sc__law_pen rfl rfl (fun cdv A outer s H E hr tk hp => by
    have nd := sc__law_pen.nd
    exact (psm_cons (psm_set 2 nd (pm_bin op_addAll cg_add (po_ex pm_int) (po_ex (pm_bin op_mul cg_mul (po_ex pm_int) (po_nm 1)))))
      (psm_cons (psm_if (pb_cmp op_lt cg_lt (po_nm 1) (po_ex (pm_callB call_lenAll cg_len (by rfl) T.b_len (by decide +kernel) (pag_cons (po_nm 0) pag_nil))) (nomark _)) (psm_one (psm_set 2 nd (pm_ix ix_seq cg_ix (po_nm 0) (po_nm 1)))) psm_nil)
      (psm_cons (psm_if (pb_cmp op_ge cg_ge (po_nm 2) (po_ex (pm_bin op_pow cg_pow (po_ex pm_int) (po_ex pm_int))) (nomark _)) (psm_one (psm_ret (pm_lst (pag_cons (po_ex (pm_bin op_sub cg_sub (po_nm 2) (po_ex (pm_bin op_pow cg_pow (po_ex pm_int) (po_ex pm_int))))) (pag_cons (po_ex pm_int) pag_nil))))) psm_nil)
      (psm_one (psm_ret (pm_lst (pag_cons (po_ex (pm_bin op_mod cg_mod (po_ex (pm_bin op_mul cg_mul (po_ex (pm_bin op_addAll cg_add (po_ex (pm_bin op_addAll cg_add (po_ex (pm_bin op_mod cg_mod (po_nm 2) (po_ex pm_int))) (po_ex (pm_bin op_mul cg_mul (po_ex pm_int) (po_nm 1))))) (po_ex pm_int))) (po_ex pm_int))) (po_ex pm_int))) (pag_cons (po_ex pm_int) pag_nil)))))))))
abbrev s__law_number : Stmt := top 13
theorem sc__law_number : FnScope ["pen", "way"] ["pen"] (defScope s__law_number) := ⟨rfl, rfl, rfl, by decide +kernel, rfl, by decide +kernel, by decide +kernel⟩
noncomputable def m__law_number : Mo Fl :=
  mSeq (mAsg 1 (mCall F__law_take [.nm 0, .ex (ret (.val (.int 4)))]))
  (mSeq (mIfS (mTr (mB fLt [.nm 1, .ex (ret (.val (.int 2)))])) (mRet (mB fSub [.ex (mCall F__law_take [.nm 0, .ex (ret (.val (.int 9)))]), .ex (mB fMul [.ex (ret (.val (.int 4))), .nm 1])])) (mNx))
  (mRet (mB fMul [.ex (mB fSub [.ex (mB fSub [.ex (mB fPow [.ex (ret (.val (.int 10))), .ex (ret (.val (.int 30)))]), .ex (ret (.val (.int 1)))]), .ex (mCall F__law_take [.nm 0, .ex (ret (.val (.int 9)))])]), .ex (mB fSub [.ex (mB fMul [.ex (ret (.val (.int 2))), .nm 1]), .ex (ret (.val (.int 5)))])])))
noncomputable def F__law_number : List T → Rs T := runDef 2 1 [0] m__law_number
theorem ok__law_number (T : TX w K mg) : Callee P w K mg base 2 "_law_number" ["pen"] F__law_number := by
  obtain ⟨f, fd, F, gy, hb⟩ := T.f__law_number
  exact callee_of (k := 1) F gy hb sc__law_number rfl rfl (fun cdv A outer s H E hr tk hp => by
    have nd := sc__law_number.nd
    exact (psm_cons (psm_set 1 nd (pm_call tk (ok__law_take T) (hr.mono (by first | decide | omega)) (pag_cons (po_nm 0) (pag_cons (po_ex pm_int) pag_nil))))
      (psm_cons (psm_if (pb_cmp op_lt cg_lt (po_nm 1) (po_ex pm_int) (nomark _)) (psm_one (psm_ret (pm_bin op_sub cg_sub (po_ex (pm_call tk (ok__law_take T) (hr.mono (by first | decide | omega)) (pag_cons (po_nm 0) (pag_cons (po_ex pm_int) pag_nil)))) (po_ex (pm_bin op_mul cg_mul (po_ex pm_int) (po_nm 1)))))) psm_nil)
      (psm_one (psm_ret (pm_bin op_mul cg_mul (po_ex (pm_bin op_sub cg_sub (po_ex (pm_bin op_sub cg_sub (po_ex (pm_bin op_pow cg_pow (po_ex pm_int) (po_ex pm_int))) (po_ex pm_int))) (po_ex (pm_call tk (ok__law_take T) (hr.mono (by first | decide | omega)) (pag_cons (po_nm 0) (pag_cons (po_ex pm_int) pag_nil)))))) (po_ex (pm_bin op_sub cg_sub (po_ex (pm_bin op_mul cg_mul (po_ex pm_int) (po_nm 1))) (po_ex pm_int)))))))))
abbrev s__law_shape : Stmt := top 12
theorem sc__law_shape : FnScope ["pen", "names", "deep", "way", "many", "k"] ["pen", "names", "deep"] (defScope s__law_shape) := ⟨rfl, rfl, rfl, by decide +kernel, rfl, by decide +kernel, by decide +kernel⟩
noncomputable def m__law_shape (self : List T → Rs T) : Mo Fl :=
  mSeq (mAsg 3 (mCall F__law_take [.nm 0, .ex (ret (.val (.int 6)))]))
  (mSeq (mIfS (mOr (mTr (mB fLt [.nm 2, .ex (ret (.val (.int 2)))])) (mTr (mB fLt [.nm 3, .ex (ret (.val (.int 2)))]))) (mSeq (mIfS (mTr (mB fEq [.ex (mCall F__law_take [.nm 0, .ex (ret (.val (.int 4)))]), .ex (ret (.val (.int 0)))])) (mSeq (mAsg 4 (mB fAdd [.ex (ret (.val (.int 2))), .ex (mCall F__law_take [.nm 0, .ex (ret (.val (.int 2)))])]))
  (mRet (mTup [.ex (ret (.val (.str "free"))), .ex (mB fTuple [.ex (mLc (mRng1 [.nm 4]) (mgN 5) (ret true) (mB fIx [.nm 1, .ex (mCall F__law_take [.nm 0, .ex (mB fLen [.nm 1])])]) [5])])]))) (mNx))
  (mRet (mTup [.ex (ret (.val (.str "post"))), .ex (mB fIx [.nm 1, .ex (mCall F__law_take [.nm 0, .ex (mB fLen [.nm 1])])])]))) (mNx))
  (mSeq (mIfS (mTr (mB fEq [.nm 3, .ex (ret (.val (.int 5)))])) (mRet (mTup [.ex (ret (.val (.str "fork"))), .ex (mB fTuple [.ex (mLc (mRng1 [.ex (mB fAdd [.ex (ret (.val (.int 1))), .ex (mCall F__law_take [.nm 0, .ex (ret (.val (.int 2)))])])]) (mgN 5) (ret true) (mCall self [.nm 0, .nm 1, .ex (mB fSub [.nm 2, .ex (ret (.val (.int 1)))])]) [5])])])) (mNx))
  (mRet (mTup [.ex (ret (.val (.str "row"))), .ex (mB fTuple [.ex (mLc (mRng1 [.ex (mCall F__law_take [.nm 0, .ex (ret (.val (.int 3)))])]) (mgN 5) (ret true) (mCall self [.nm 0, .nm 1, .ex (mB fSub [.nm 2, .ex (ret (.val (.int 1)))])]) [5])])]))))
noncomputable def F__law_shape : Nat → List T → Rs T
  | 0 => fun _ => .bad
  | k + 1 => runDef 6 3 [0, 1, 2] (m__law_shape (F__law_shape k))
theorem ok__law_shape (T : TX w K mg) : ∀ k : Nat, Callee P w K mg base (k + 1) "_law_shape" ["pen", "names", "deep"] (F__law_shape k)
  | 0 => by
    obtain ⟨f, fd, F, gy, hb⟩ := T.f__law_shape
    exact callee_bad F gy hb
  | k + 1 => by
    have ih := ok__law_shape T k
    obtain ⟨f, fd, F, gy, hb⟩ := T.f__law_shape
    refine (callee_of (k := k + 1) F gy hb sc__law_shape rfl rfl (fun cdv A outer s H E hr tk hp => by
      have nd := sc__law_shape.nd
      exact (psm_cons (psm_set 3 nd (pm_call tk (ok__law_take T) (hr.mono (by first | decide | omega)) (pag_cons (po_nm 0) (pag_cons (po_ex pm_int) pag_nil))))
        (psm_cons (psm_if (pb_w (pbw_or (pb_cmp op_lt cg_lt (po_nm 2) (po_ex pm_int) (nomark _)) (pbw_or1 (pb_cmp op_lt cg_lt (po_nm 3) (po_ex pm_int) (nomark _))))) (psm_cons (psm_if (pb_cmp op_eq cg_eq (po_ex (pm_call tk (ok__law_take T) (hr.mono (by first | decide | omega)) (pag_cons (po_nm 0) (pag_cons (po_ex pm_int) pag_nil)))) (po_ex pm_int) (nomark _)) (psm_cons (psm_set 4 nd (pm_bin op_addAll cg_add (po_ex pm_int) (po_ex (pm_call tk (ok__law_take T) (hr.mono (by first | decide | omega)) (pag_cons (po_nm 0) (pag_cons (po_ex pm_int) pag_nil))))))
        (psm_one (psm_ret (pm_tup (pag_cons (po_ex pm_str) (pag_cons (po_ex (pm_callTy call_tuple_of cg_tuple (by rfl) T.b_tuple (by decide +kernel) (pag_cons (po_ex (pm_lc (own := [("k", 5)]) (n := 6) nd (pim_rng1 T.b_range (pag_cons (po_nm 4) pag_nil)) (fun _ _ _ _ _ => (pgm_name 5 nd)) (fun _ _ _ _ _ => ptsm_nil) (fun _ _ _ _ _ => (pm_ix ix_seq cg_ix (po_nm 1) (po_ex (pm_call takesF (ok__law_take T) (hr.mono (by first | decide | omega)) (pag_cons (po_nm 0) (pag_cons (po_ex (pm_callB call_lenAll cg_len (by rfl) T.b_len (by decide +kernel) (pag_cons (po_nm 1) pag_nil))) pag_nil)))))) (blkOk_by (own := [("k", 5)]) (N := ["pen", "names", "deep", "way", "many", "k"]) (sc := defScope s__law_shape) (by decide +kernel)))) pag_nil))) pag_nil)))))) psm_nil)
        (psm_one (psm_ret (pm_tup (pag_cons (po_ex pm_str) (pag_cons (po_ex (pm_ix ix_seq cg_ix (po_nm 1) (po_ex (pm_call tk (ok__law_take T) (hr.mono (by first | decide | omega)) (pag_cons (po_nm 0) (pag_cons (po_ex (pm_callB call_lenAll cg_len (by rfl) T.b_len (by decide +kernel) (pag_cons (po_nm 1) pag_nil))) pag_nil)))))) pag_nil)))))) psm_nil)
        (psm_cons (psm_if (pb_cmp op_eq cg_eq (po_nm 3) (po_ex pm_int) (nomark _)) (psm_one (psm_ret (pm_tup (pag_cons (po_ex pm_str) (pag_cons (po_ex (pm_callTy call_tuple_of cg_tuple (by rfl) T.b_tuple (by decide +kernel) (pag_cons (po_ex (pm_lc (own := [("k", 5)]) (n := 6) nd (pim_rng1 T.b_range (pag_cons (po_ex (pm_bin op_addAll cg_add (po_ex pm_int) (po_ex (pm_call tk (ok__law_take T) (hr.mono (by first | decide | omega)) (pag_cons (po_nm 0) (pag_cons (po_ex pm_int) pag_nil)))))) pag_nil)) (fun _ _ _ _ _ => (pgm_name 5 nd)) (fun _ _ _ _ _ => ptsm_nil) (fun _ _ _ _ _ => (pm_call takesF ih (hr.mono (by omega)) (pag_cons (po_nm 0) (pag_cons (po_nm 1) (pag_cons (po_ex (pm_bin op_sub cg_sub (po_nm 2) (po_ex pm_int))) pag_nil))))) (blkOk_by (own := [("k", 5)]) (N := ["pen", "names", "deep", "way", "many", "k"]) (sc := defScope s__law_shape) (by decide +kernel)))) pag_nil))) pag_nil))))) psm_nil)
        (psm_one (psm_ret (pm_tup (pag_cons (po_ex pm_str) (pag_cons (po_ex (pm_callTy call_tuple_of cg_tuple (by rfl) T.b_tuple (by decide +kernel) (pag_cons (po_ex (pm_lc (own := [("k", 5)]) (n := 6) nd (pim_rng1 T.b_range (pag_cons (po_ex (pm_call tk (ok__law_take T) (hr.mono (by first | decide | omega)) (pag_cons (po_nm 0) (pag_cons (po_ex pm_int) pag_nil)))) pag_nil)) (fun _ _ _ _ _ => (pgm_name 5 nd)) (fun _ _ _ _ _ => ptsm_nil) (fun _ _ _ _ _ => (pm_call takesF ih (hr.mono (by omega)) (pag_cons (po_nm 0) (pag_cons (po_nm 1) (pag_cons (po_ex (pm_bin op_sub cg_sub (po_nm 2) (po_ex pm_int))) pag_nil))))) (blkOk_by (own := [("k", 5)]) (N := ["pen", "names", "deep", "way", "many", "k"]) (sc := defScope s__law_shape) (by decide +kernel)))) pag_nil))) pag_nil)))))))))).mono (by omega)
abbrev s__law_page : Stmt := top 14
theorem sc__law_page : FnScope ["pen", "names", "kind", "one", "other", "low", "place", "most", "team", "k", "course", "some"] ["pen", "names"] (defScope s__law_page) := ⟨rfl, rfl, rfl, by decide +kernel, rfl, by decide +kernel, by decide +kernel⟩
noncomputable def m__law_page : Mo Fl :=
  mSeq (mAsg 2 (mCall F__law_take [.nm 0, .ex (ret (.val (.int 11)))]))
  (mSeq (mAsg 3 (mB fIx [.nm 1, .ex (mCall F__law_take [.nm 0, .ex (ret (.val (.int 8)))])]))
  (mSeq (mAsg 4 (mB fIx [.nm 1, .ex (mCall F__law_take [.nm 0, .ex (ret (.val (.int 8)))])]))
  (mSeq (mAsg 5 (mCall F__law_number [.nm 0]))
  (mSeq (mAsg 6 (mB fMul [.ex (mCall F__law_take [.nm 0, .ex (ret (.val (.int 3)))]), .ex (mCall F__law_take [.nm 0, .ex (ret (.val (.int 20)))])]))
  (mSeq (mAsg 7 (mB fIx [.ex (mLst [.ex (ret (.val .non)), .ex (mB fAbs [.nm 5]), .ex (mB fSub [.ex (mB fPow [.ex (ret (.val (.int 10))), .ex (ret (.val (.int 30)))]), .ex (ret (.val (.int 1)))])]), .ex (mCall F__law_take [.nm 0, .ex (ret (.val (.int 3)))])]))
  (mSeq (mAsg 8 (mB fTuple [.ex (mLc (mRng1 [.ex (mB fAdd [.ex (ret (.val (.int 1))), .ex (mCall F__law_take [.nm 0, .ex (ret (.val (.int 4)))])])]) (mgN 9) (ret true) (mB fIx [.nm 1, .ex (mCall F__law_take [.nm 0, .ex (ret (.val (.int 8)))])]) [9])]))
  (mSeq (mAsg 10 (mTup [.ex (mB fIx [.nm 1, .ex (ret (.val (.int 0)))]), .ex (mCall (F__law_shape recFuel) [.nm 0, .ex (mSl fSl (.nm 1) (.so (ret (.val (.int 2)))) .no), .ex (ret (.val (.int 3)))]), .ex (mB fIx [.nm 1, .ex (ret (.val (.int 1)))])]))
  (mSeq (mAsg 11 (mLst [.ex (mTup [.ex (ret (.val (.str "course"))), .ex (mCp 3), .ex (mCp 10)]), .ex (mTup [.ex (ret (.val (.str "runner"))), .ex (mCp 3), .ex (mCp 4)]), .ex (mTup [.ex (ret (.val (.str "stamp"))), .ex (mCp 3), .ex (mCp 4), .ex (mCp 5)])]))
  (mSeq (mAsg 11 (mB fAdd [.nm 11, .ex (mLst [.ex (mTup [.ex (ret (.val (.str "sworn"))), .ex (mCp 3), .ex (mCp 4), .ex (mCp 5), .ex (mCp 6)]), .ex (mTup [.ex (ret (.val (.str "cut"))), .ex (mCp 3), .ex (mCp 6)]), .ex (mTup [.ex (ret (.val (.str "dead"))), .ex (mCp 3)]), .ex (mTup [.ex (ret (.val (.str "mended"))), .ex (mCp 3)])])]))
  (mSeq (mAsg 11 (mB fAdd [.nm 11, .ex (mLst [.ex (mTup [.ex (ret (.val (.str "leg"))), .ex (mCp 3), .ex (mCp 4), .ex (mB fAbs [.nm 5]), .ex (mCp 7)]), .ex (mTup [.ex (ret (.val (.str "calm"))), .ex (mCp 3), .ex (mCp 4)])])]))
  (mSeq (mAsg 11 (mB fAdd [.nm 11, .ex (mLst [.ex (mTup [.ex (ret (.val (.str "watch"))), .ex (mCp 3), .ex (mCp 5), .ex (mB fMax2 [.nm 5, .nm 6])]), .ex (mTup [.ex (ret (.val (.str "team"))), .ex (mCp 3), .ex (mCp 8)])])]))
  (mRet (mB fIx [.nm 11, .nm 2])))))))))))))
noncomputable def F__law_page : List T → Rs T := runDef 12 2 [0, 1] m__law_page
theorem ok__law_page (T : TX w K mg) : Callee P w K mg base 12 "_law_page" ["pen", "names"] F__law_page := by
  obtain ⟨f, fd, F, gy, hb⟩ := T.f__law_page
  exact callee_of (k := 11) F gy hb sc__law_page rfl rfl (fun cdv A outer s H E hr tk hp => by
    have nd := sc__law_page.nd
    exact (psm_cons (psm_set 2 nd (pm_call tk (ok__law_take T) (hr.mono (by first | decide | omega)) (pag_cons (po_nm 0) (pag_cons (po_ex pm_int) pag_nil))))
      (psm_cons (psm_set 3 nd (pm_ix ix_seq cg_ix (po_nm 1) (po_ex (pm_call tk (ok__law_take T) (hr.mono (by first | decide | omega)) (pag_cons (po_nm 0) (pag_cons (po_ex pm_int) pag_nil))))))
      (psm_cons (psm_set 4 nd (pm_ix ix_seq cg_ix (po_nm 1) (po_ex (pm_call tk (ok__law_take T) (hr.mono (by first | decide | omega)) (pag_cons (po_nm 0) (pag_cons (po_ex pm_int) pag_nil))))))
      (psm_cons (psm_set 5 nd (pm_call tk (ok__law_number T) (hr.mono (by first | decide | omega)) (pag_cons (po_nm 0) pag_nil)))
      (psm_cons (psm_set 6 nd (pm_bin op_mul cg_mul (po_ex (pm_call tk (ok__law_take T) (hr.mono (by first | decide | omega)) (pag_cons (po_nm 0) (pag_cons (po_ex pm_int) pag_nil)))) (po_ex (pm_call tk (ok__law_take T) (hr.mono (by first | decide | omega)) (pag_cons (po_nm 0) (pag_cons (po_ex pm_int) pag_nil))))))
      (psm_cons (psm_set 7 nd (pm_ix ix_seq cg_ix (po_ex (pm_lst (pag_cons (po_ex pm_non) (pag_cons (po_ex (pm_callB call_abs cg_abs (by rfl) T.b_abs (by decide +kernel) (pag_cons (po_nm 5) pag_nil))) (pag_cons (po_ex (pm_bin op_sub cg_sub (po_ex (pm_bin op_pow cg_pow (po_ex pm_int) (po_ex pm_int))) (po_ex pm_int))) pag_nil))))) (po_ex (pm_call tk (ok__law_take T) (hr.mono (by first | decide | omega)) (pag_cons (po_nm 0) (pag_cons (po_ex pm_int) pag_nil))))))
      (psm_cons (psm_set 8 nd (pm_callTy call_tuple_of cg_tuple (by rfl) T.b_tuple (by decide +kernel) (pag_cons (po_ex (pm_lc (own := [("k", 9)]) (n := 12) nd (pim_rng1 T.b_range (pag_cons (po_ex (pm_bin op_addAll cg_add (po_ex pm_int) (po_ex (pm_call tk (ok__law_take T) (hr.mono (by first | decide | omega)) (pag_cons (po_nm 0) (pag_cons (po_ex pm_int) pag_nil)))))) pag_nil)) (fun _ _ _ _ _ => (pgm_name 9 nd)) (fun _ _ _ _ _ => ptsm_nil) (fun _ _ _ _ _ => (pm_ix ix_seq cg_ix (po_nm 1) (po_ex (pm_call takesF (ok__law_take T) (hr.mono (by first | decide | omega)) (pag_cons (po_nm 0) (pag_cons (po_ex pm_int) pag_nil)))))) (blkOk_by (own := [("k", 9)]) (N := ["pen", "names", "kind", "one", "other", "low", "place", "most", "team", "k", "course", "some"]) (sc := defScope s__law_page) (by decide +kernel)))) pag_nil)))
      (psm_cons (psm_set 10 nd (pm_tup (pag_cons (po_ex (pm_ix ix_seq cg_ix (po_nm 1) (po_ex pm_int))) (pag_cons (po_ex (pm_call tk (ok__law_shape T recFuel) (hr.mono (by first | decide | omega)) (pag_cons (po_nm 0) (pag_cons (po_ex (pm_sl (po_nm 1) (ppt_so pm_int) ppt_no)) (pag_cons (po_ex pm_int) pag_nil))))) (pag_cons (po_ex (pm_ix ix_seq cg_ix (po_nm 1) (po_ex pm_int))) pag_nil)))))
      (psm_cons (psm_set 11 nd (pm_lst (pag_cons (po_ex (pm_tup (pag_cons (po_ex pm_str) (pag_cons (po_ex (pm_cp 3)) (pag_cons (po_ex (pm_cp 10)) pag_nil))))) (pag_cons (po_ex (pm_tup (pag_cons (po_ex pm_str) (pag_cons (po_ex (pm_cp 3)) (pag_cons (po_ex (pm_cp 4)) pag_nil))))) (pag_cons (po_ex (pm_tup (pag_cons (po_ex pm_str) (pag_cons (po_ex (pm_cp 3)) (pag_cons (po_ex (pm_cp 4)) (pag_cons (po_ex (pm_cp 5)) pag_nil)))))) pag_nil)))))
      (psm_cons (psm_set 11 nd (pm_bin op_addAll cg_add (po_nm 11) (po_ex (pm_lst (pag_cons (po_ex (pm_tup (pag_cons (po_ex pm_str) (pag_cons (po_ex (pm_cp 3)) (pag_cons (po_ex (pm_cp 4)) (pag_cons (po_ex (pm_cp 5)) (pag_cons (po_ex (pm_cp 6)) pag_nil))))))) (pag_cons (po_ex (pm_tup (pag_cons (po_ex pm_str) (pag_cons (po_ex (pm_cp 3)) (pag_cons (po_ex (pm_cp 6)) pag_nil))))) (pag_cons (po_ex (pm_tup (pag_cons (po_ex pm_str) (pag_cons (po_ex (pm_cp 3)) pag_nil)))) (pag_cons (po_ex (pm_tup (pag_cons (po_ex pm_str) (pag_cons (po_ex (pm_cp 3)) pag_nil)))) pag_nil))))))))
      (psm_cons (psm_set 11 nd (pm_bin op_addAll cg_add (po_nm 11) (po_ex (pm_lst (pag_cons (po_ex (pm_tup (pag_cons (po_ex pm_str) (pag_cons (po_ex (pm_cp 3)) (pag_cons (po_ex (pm_cp 4)) (pag_cons (po_ex (pm_callB call_abs cg_abs (by rfl) T.b_abs (by decide +kernel) (pag_cons (po_nm 5) pag_nil))) (pag_cons (po_ex (pm_cp 7)) pag_nil))))))) (pag_cons (po_ex (pm_tup (pag_cons (po_ex pm_str) (pag_cons (po_ex (pm_cp 3)) (pag_cons (po_ex (pm_cp 4)) pag_nil))))) pag_nil))))))
      (psm_cons (psm_set 11 nd (pm_bin op_addAll cg_add (po_nm 11) (po_ex (pm_lst (pag_cons (po_ex (pm_tup (pag_cons (po_ex pm_str) (pag_cons (po_ex (pm_cp 3)) (pag_cons (po_ex (pm_cp 5)) (pag_cons (po_ex (pm_callB (call_max2 rfl) cg_max2 (by rfl) T.b_max (by decide +kernel) (pag_cons (po_nm 5) (pag_cons (po_nm 6) pag_nil)))) pag_nil)))))) (pag_cons (po_ex (pm_tup (pag_cons (po_ex pm_str) (pag_cons (po_ex (pm_cp 3)) (pag_cons (po_ex (pm_cp 8)) pag_nil))))) pag_nil))))))
      (psm_one (psm_ret (pm_ix ix_seq cg_ix (po_nm 11) (po_nm 2)))))))))))))))))
abbrev s_show_shape : Stmt := top 3
theorem sc_show_shape : FnScope ["shape", "word", "parts", "words", "part"] ["shape"] (defScope s_show_shape) := ⟨rfl, rfl, rfl, by decide +kernel, rfl, by decide +kernel, by decide +kernel⟩
noncomputable def m_show_shape (self : List T → Rs T) : Mo Fl :=
  mSeq (mAsgG (mgT 2 (mgCons (mgN 1) (mgCons (mgN 2) (mgNil)))) (mCp 0))
  (mSeq (mIfS (mTr (mB fEq [.nm 1, .ex (ret (.val (.str "post")))])) (mRet (mMv 2)) (mNx))
  (mSeq (mAsg 3 (mB fList [.nm 2]))
  (mSeq (mIfS (mTr (mB fNe [.nm 1, .ex (ret (.val (.str "free")))])) (mAsg 3 (mLc (mSeqS (.nm 2)) (mgN 4) (ret true) (mCall self [.nm 4]) [4])) (mNx))
  (mRet (mB fAdd [.ex (mB fAdd [.ex (mB fIx [.ex (mGdx dict_BRACKETS (.nm 1)), .ex (ret (.val (.int 0)))]), .ex (mM1 fJoin (.ex (ret (.val (.str " ")))) (.nm 3))]), .ex (mB fIx [.ex (mGdx dict_BRACKETS (.nm 1)), .ex (ret (.val (.int 1)))])])))))
noncomputable def F_show_shape : Nat → List T → Rs T
  | 0 => fun _ => .bad
  | k + 1 => runDef 5 1 [0] (m_show_shape (F_show_shape k))
theorem ok_show_shape (T : TX w K mg) : ∀ k : Nat, Callee P w K mg base (k + 0) "show_shape" ["shape"] (F_show_shape k)
  | 0 => by
    obtain ⟨f, fd, F, gy, hb⟩ := T.f_show_shape
    exact callee_bad F gy hb
  | k + 1 => by
    have ih := ok_show_shape T k
    obtain ⟨f, fd, F, gy, hb⟩ := T.f_show_shape
    refine (callee_of (k := k + 0) F gy hb sc_show_shape rfl rfl (fun cdv A outer s H E hr tk hp => by
      have nd := sc_show_shape.nd
      exact (psm_cons (psm_asg (pm_cp 0) (pgm_tup (pgsm_cons (pgm_name 1 nd) (pgsm_cons (pgm_name 2 nd) pgsm_nil))))
        (psm_cons (psm_if (pb_cmp op_eq cg_eq (po_nm 1) (po_ex pm_str) (nomark _)) (psm_one (psm_ret (pm_mv 2))) psm_nil)
        (psm_cons (psm_set 3 nd (pm_callTy call_list_of cg_list (by rfl) T.b_list (by decide +kernel) (pag_cons (po_nm 2) pag_nil)))
        (psm_cons (psm_if (pb_cmp op_ne cg_ne (po_nm 1) (po_ex pm_str) (nomark _)) (psm_one (psm_setLc 3 (own := [("part", 4)]) (n := 5) nd (pim_seq (po_nm 2)) (fun _ _ _ _ _ => (pgm_name 4 nd)) (fun _ _ _ _ _ => ptsm_nil) (fun _ _ _ _ _ => (pm_call takesF ih (hr.mono (by omega)) (pag_cons (po_nm 4) pag_nil))) (blkOk_by (own := [("part", 4)]) (N := ["shape", "word", "parts", "words", "part"]) (sc := defScope s_show_shape) (by decide +kernel)) (sw_true rfl rfl rfl (by decide +kernel)))) psm_nil)
        (psm_one (psm_ret (pm_bin op_addAll cg_add (po_ex (pm_bin op_addAll cg_add (po_ex (pm_ix ix_seq cg_ix (po_ex (pm_gdx T.d_BRACKETS (po_nm 1))) (po_ex pm_int))) (po_ex (pm_join (po_ex pm_str) (po_nm 3))))) (po_ex (pm_ix ix_seq cg_ix (po_ex (pm_gdx T.d_BRACKETS (po_nm 1))) (po_ex pm_int)))))))))))).mono (by omega)
abbrev s_show_course : Stmt := top 4
theorem sc_show_course : FnScope ["course"] ["course"] (defScope s_show_course) := ⟨rfl, rfl, rfl, by decide +kernel, rfl, by decide +kernel, by decide +kernel⟩
noncomputable def m_show_course : Mo Fl :=
  mRet (mB fAdd [.ex (mB fAdd [.ex (mB fAdd [.ex (mB fAdd [.ex (mB fIx [.nm 0, .ex (ret (.val (.int 0)))]), .ex (ret (.val (.str " ")))]), .ex (mCall (F_show_shape recFuel) [.ex (mB fIx [.nm 0, .ex (ret (.val (.int 1)))])])]), .ex (ret (.val (.str " ")))]), .ex (mB fIx [.nm 0, .ex (ret (.val (.int 2)))])])
noncomputable def F_show_course : List T → Rs T := runDef 1 1 [0] m_show_course
theorem ok_show_course (T : TX w K mg) : Callee P w K mg base 11 "show_course" ["course"] F_show_course := by
  obtain ⟨f, fd, F, gy, hb⟩ := T.f_show_course
  exact callee_of (k := 10) F gy hb sc_show_course rfl rfl (fun cdv A outer s H E hr tk hp => by
    have nd := sc_show_course.nd
    exact (psm_one (psm_ret (pm_bin op_addAll cg_add (po_ex (pm_bin op_addAll cg_add (po_ex (pm_bin op_addAll cg_add (po_ex (pm_bin op_addAll cg_add (po_ex (pm_ix ix_seq cg_ix (po_nm 0) (po_ex pm_int))) (po_ex pm_str))) (po_ex (pm_call tk (ok_show_shape T recFuel) (hr.mono (by first | decide | omega)) (pag_cons (po_ex (pm_ix ix_seq cg_ix (po_nm 0) (po_ex pm_int))) pag_nil))))) (po_ex pm_str))) (po_ex (pm_ix ix_seq cg_ix (po_nm 0) (po_ex pm_int)))))))
abbrev s_show_number : Stmt := top 2
theorem sc_show_number : FnScope ["number"] ["number"] (defScope s_show_number) := ⟨rfl, rfl, rfl, by decide +kernel, rfl, by decide +kernel, by decide +kernel⟩
noncomputable def m_show_number : Mo Fl :=
  mRet (mB fStr [.nm 0])
noncomputable def F_show_number : List T → Rs T := runDef 1 1 [0] m_show_number
theorem ok_show_number (T : TX w K mg) : Callee P w K mg base 1 "show_number" ["number"] F_show_number := by
  obtain ⟨f, fd, F, gy, hb⟩ := T.f_show_number
  exact callee_of (k := 0) F gy hb sc_show_number rfl rfl (fun cdv A outer s H E hr tk hp => by
    have nd := sc_show_number.nd
    exact (psm_one (psm_ret (pm_callTy call_str_int cg_str (by rfl) T.b_str (by decide +kernel) (pag_cons (po_nm 0) pag_nil)))))
abbrev s_show_part : Stmt := top 6
theorem sc_show_part : FnScope ["part"] ["part"] (defScope s_show_part) := ⟨rfl, rfl, rfl, by decide +kernel, rfl, by decide +kernel, by decide +kernel⟩
noncomputable def m_show_part : Mo Fl :=
  mSeq (mIfS (mTr (mB fIsN [.nm 0, .ex (ret (.val .non))])) (mRet (ret (.val (.str "-")))) (mNx))
  (mSeq (mIfS (mTr (mB fIsi [.nm 0, tyE "str"])) (mRet (mMv 0)) (mNx))
  (mRet (mCall F_show_number [.nm 0])))
noncomputable def F_show_part : List T → Rs T := runDef 1 1 [0] m_show_part
theorem ok_show_part (T : TX w K mg) : Callee P w K mg base 2 "show_part" ["part"] F_show_part := by
  obtain ⟨f, fd, F, gy, hb⟩ := T.f_show_part
  exact callee_of (k := 1) F gy hb sc_show_part rfl rfl (fun cdv A outer s H E hr tk hp => by
    have nd := sc_show_part.nd
    exact (psm_cons (psm_if (pb_cmp op_isN cg_isN (po_nm 0) (po_ex pm_non) (nomark _)) (psm_one (psm_ret pm_str)) psm_nil)
      (psm_cons (psm_if (pb_val (pm_callB call_isi cg_isi (by rfl) T.b_isinstance (by decide +kernel) (pag_cons (po_nm 0) (pag_cons (po_ty T.b_str (by decide +kernel)) pag_nil)))) (psm_one (psm_ret (pm_mv 0))) psm_nil)
      (psm_one (psm_ret (pm_call tk (ok_show_number T) (hr.mono (by first | decide | omega)) (pag_cons (po_nm 0) pag_nil)))))))
abbrev s_show_page : Stmt := top 7
theorem sc_show_page : FnScope ["page", "part"] ["page"] (defScope s_show_page) := ⟨rfl, rfl, rfl, by decide +kernel, rfl, by decide +kernel, by decide +kernel⟩
noncomputable def m_show_page : Mo Fl :=
  mSeq (mIfS (mTr (mB fEq [.ex (mB fIx [.nm 0, .ex (ret (.val (.int 0)))]), .ex (ret (.val (.str "course")))])) (mRet (mB fAdd [.ex (mB fAdd [.ex (mB fAdd [.ex (mB fAdd [.ex (mB fIx [.nm 0, .ex (ret (.val (.int 0)))]), .ex (ret (.val (.str " ")))]), .ex (mB fIx [.nm 0, .ex (ret (.val (.int 1)))])]), .ex (ret (.val (.str " ")))]), .ex (mCall F_show_course [.ex (mB fIx [.nm 0, .ex (ret (.val (.int 2)))])])])) (mNx))
  (mSeq (mIfS (mTr (mB fEq [.ex (mB fIx [.nm 0, .ex (ret (.val (.int 0)))]), .ex (ret (.val (.str "team")))])) (mRet (mM1 fJoin (.ex (ret (.val (.str " ")))) (.ex (mB fAdd [.ex (mSl fSl (.nm 0) .no (.so (ret (.val (.int 2))))), .ex (mB fIx [.nm 0, .ex (ret (.val (.int 2)))])])))) (mNx))
  (mRet (mM1 fJoin (.ex (ret (.val (.str " ")))) (.ex (mLc (mSeqS (.nm 0)) (mgN 1) (ret true) (mCall F_show_part [.nm 1]) [1])))))
noncomputable def F_show_page : List T → Rs T := runDef 2 1 [0] m_show_page
theorem ok_show_page (T : TX w K mg) : Callee P w K mg base 12 "show_page" ["page"] F_show_page := by
  obtain ⟨f, fd, F, gy, hb⟩ := T.f_show_page
  exact callee_of (k := 11) F gy hb sc_show_page rfl rfl (fun cdv A outer s H E hr tk hp => by
    have nd := sc_show_page.nd
    exact (psm_cons (psm_if (pb_cmp op_eq cg_eq (po_ex (pm_ix ix_seq cg_ix (po_nm 0) (po_ex pm_int))) (po_ex pm_str) (nomark _)) (psm_one (psm_ret (pm_bin op_addAll cg_add (po_ex (pm_bin op_addAll cg_add (po_ex (pm_bin op_addAll cg_add (po_ex (pm_bin op_addAll cg_add (po_ex (pm_ix ix_seq cg_ix (po_nm 0) (po_ex pm_int))) (po_ex pm_str))) (po_ex (pm_ix ix_seq cg_ix (po_nm 0) (po_ex pm_int))))) (po_ex pm_str))) (po_ex (pm_call tk (ok_show_course T) (hr.mono (by first | decide | omega)) (pag_cons (po_ex (pm_ix ix_seq cg_ix (po_nm 0) (po_ex pm_int))) pag_nil)))))) psm_nil)
      (psm_cons (psm_if (pb_cmp op_eq cg_eq (po_ex (pm_ix ix_seq cg_ix (po_nm 0) (po_ex pm_int))) (po_ex pm_str) (nomark _)) (psm_one (psm_ret (pm_join (po_ex pm_str) (po_ex (pm_bin op_addAll cg_add (po_ex (pm_sl (po_nm 0) ppt_no (ppt_so pm_int))) (po_ex (pm_ix ix_seq cg_ix (po_nm 0) (po_ex pm_int)))))))) psm_nil)
      (psm_one (psm_ret (pm_join (po_ex pm_str) (po_ex (pm_lc (own := [("part", 1)]) (n := 2) nd (pim_seq (po_nm 0)) (fun _ _ _ _ _ => (pgm_name 1 nd)) (fun _ _ _ _ _ => ptsm_nil) (fun _ _ _ _ _ => (pm_call takesF (ok_show_part T) (hr.mono (by first | decide | omega)) (pag_cons (po_nm 1) pag_nil))) (blkOk_by (own := [("part", 1)]) (N := ["page", "part"]) (sc := defScope s_show_page) (by decide +kernel))))))))))
abbrev s__law_shape_text : Stmt := top 16
theorem sc__law_shape_text : FnScope ["shape", "word", "parts", "some", "inner", "first", "last"] ["shape"] (defScope s__law_shape_text) := ⟨rfl, rfl, rfl, by decide +kernel, rfl, by decide +kernel, by decide +kernel⟩
noncomputable def m__law_shape_text (self : List T → Rs T) : Mo Fl :=
  mSeq (mAsgG (mgT 2 (mgCons (mgN 1) (mgCons (mgN 2) (mgNil)))) (mCp 0))
  (mSeq (mIfS (mTr (mB fEq [.nm 1, .ex (ret (.val (.str "post")))])) (mRet (mMv 2)) (mNx))
  (mSeq (mAsg 3 (mB fList [.nm 2]))
  (mSeq (mIfS (mTr (mB fNe [.nm 1, .ex (ret (.val (.str "free")))])) (mAsg 3 (mLc (mSeqS (.nm 2)) (mgN 4) (ret true) (mCall self [.nm 4]) [4])) (mNx))
  (mSeq (mAsgG (mgT 2 (mgCons (mgN 5) (mgCons (mgN 6) (mgNil)))) (mB fDx [.ex (mDisp [.ex (ret (.val (.str "row"))), .ex (mTup [.ex (ret (.val (.str "("))), .ex (ret (.val (.str ")")))]), .ex (ret (.val (.str "fork"))), .ex (mTup [.ex (ret (.val (.str "{"))), .ex (ret (.val (.str "}")))]), .ex (ret (.val (.str "free"))), .ex (mTup [.ex (ret (.val (.str "<"))), .ex (ret (.val (.str ">")))])]), .nm 1]))
  (mRet (mB fAdd [.ex (mB fAdd [.nm 5, .ex (mM1 fJoin (.ex (ret (.val (.str " ")))) (.nm 3))]), .nm 6]))))))
noncomputable def F__law_shape_text : Nat → List T → Rs T
  | 0 => fun _ => .bad
  | k + 1 => runDef 7 1 [0] (m__law_shape_text (F__law_shape_text k))
theorem ok__law_shape_text (T : TX w K mg) : ∀ k : Nat, Callee P w K mg base (k + 0) "_law_shape_text" ["shape"] (F__law_shape_text k)
  | 0 => by
    obtain ⟨f, fd, F, gy, hb⟩ := T.f__law_shape_text
    exact callee_bad F gy hb
  | k + 1 => by
    have ih := ok__law_shape_text T k
    obtain ⟨f, fd, F, gy, hb⟩ := T.f__law_shape_text
    refine (callee_of (k := k + 0) F gy hb sc__law_shape_text rfl rfl (fun cdv A outer s H E hr tk hp => by
      have nd := sc__law_shape_text.nd
      exact (psm_cons (psm_asg (pm_cp 0) (pgm_tup (pgsm_cons (pgm_name 1 nd) (pgsm_cons (pgm_name 2 nd) pgsm_nil))))
        (psm_cons (psm_if (pb_cmp op_eq cg_eq (po_nm 1) (po_ex pm_str) (nomark _)) (psm_one (psm_ret (pm_mv 2))) psm_nil)
        (psm_cons (psm_set 3 nd (pm_callTy call_list_of cg_list (by rfl) T.b_list (by decide +kernel) (pag_cons (po_nm 2) pag_nil)))
        (psm_cons (psm_if (pb_cmp op_ne cg_ne (po_nm 1) (po_ex pm_str) (nomark _)) (psm_one (psm_setLc 3 (own := [("inner", 4)]) (n := 7) nd (pim_seq (po_nm 2)) (fun _ _ _ _ _ => (pgm_name 4 nd)) (fun _ _ _ _ _ => ptsm_nil) (fun _ _ _ _ _ => (pm_call takesF ih (hr.mono (by omega)) (pag_cons (po_nm 4) pag_nil))) (blkOk_by (own := [("inner", 4)]) (N := ["shape", "word", "parts", "some", "inner", "first", "last"]) (sc := defScope s__law_shape_text) (by decide +kernel)) (sw_true rfl rfl rfl (by decide +kernel)))) psm_nil)
        (psm_cons (psm_asg (pm_dx (hu_of hr) (po_ex (pm_disp (ppm_cons (po_ex pm_str) (po_ex (pm_tup (pag_cons (po_ex pm_str) (pag_cons (po_ex pm_str) pag_nil)))) (ppm_cons (po_ex pm_str) (po_ex (pm_tup (pag_cons (po_ex pm_str) (pag_cons (po_ex pm_str) pag_nil)))) (ppm_cons (po_ex pm_str) (po_ex (pm_tup (pag_cons (po_ex pm_str) (pag_cons (po_ex pm_str) pag_nil)))) ppm_nil))))) (po_nm 1)) (pgm_tup (pgsm_cons (pgm_name 5 nd) (pgsm_cons (pgm_name 6 nd) pgsm_nil))))
        (psm_one (psm_ret (pm_bin op_addAll cg_add (po_ex (pm_bin op_addAll cg_add (po_nm 5) (po_ex (pm_join (po_ex pm_str) (po_nm 3))))) (po_nm 6))))))))))).mono (by omega)
abbrev s__law_figures : Stmt := top 15
theorem sc__law_figures : FnScope ["number", "left", "text", "k"] ["number"] (defScope s__law_figures) := ⟨rfl, rfl, rfl, by decide +kernel, rfl, by decide +kernel, by decide +kernel⟩
noncomputable def m__law_figures : Mo Fl :=
  mSeq (mAsg 1 (mB fAbs [.nm 0]))
  (mSeq (mAsg 2 (mB fIx [.ex (ret (.val (.str "0123456789"))), .ex (mB fMod [.nm 1, .ex (ret (.val (.int 10)))])]))
  (mSeq (mAsg 1 (mB fDiv [.nm 1, .ex (ret (.val (.int 10)))]))
  (mSeq (mFor (mRng1 [.ex (ret (.val (.int 30)))]) (mgN 3) (mIfS (mTr (mB fGt [.nm 1, .ex (ret (.val (.int 0)))])) (mSeq (mAsg 2 (mB fAdd [.ex (mB fIx [.ex (ret (.val (.str "0123456789"))), .ex (mB fMod [.nm 1, .ex (ret (.val (.int 10)))])]), .nm 2]))
  (mAsg 1 (mB fDiv [.nm 1, .ex (ret (.val (.int 10)))]))) (mNx)))
  (mSeq (mIfS (mTr (mB fLt [.nm 0, .ex (ret (.val (.int 0)))])) (mRet (mB fAdd [.ex (ret (.val (.str "-"))), .nm 2])) (mNx))
  (mRet (mMv 2))))))
noncomputable def F__law_figures : List T → Rs T := runDef 4 1 [0] m__law_figures
theorem ok__law_figures (T : TX w K mg) : Callee P w K mg base 1 "_law_figures" ["number"] F__law_figures := by
  obtain ⟨f, fd, F, gy, hb⟩ := T.f__law_figures
  exact callee_of (k := 0) F gy hb sc__law_figures rfl rfl (fun cdv A outer s H E hr tk hp => by
    have nd := sc__law_figures.nd
    exact (psm_cons (psm_set 1 nd (pm_callB call_abs cg_abs (by rfl) T.b_abs (by decide +kernel) (pag_cons (po_nm 0) pag_nil)))
      (psm_cons (psm_set 2 nd (pm_ix ix_seq cg_ix (po_ex pm_str) (po_ex (pm_bin op_mod cg_mod (po_nm 1) (po_ex pm_int)))))
      (psm_cons (psm_set 1 nd (pm_bin op_fdiv cg_div (po_nm 1) (po_ex pm_int)))
      (psm_cons (psm_for hp (pim_rng1 T.b_range (pag_cons (po_ex pm_int) pag_nil)) (pgm_name 3 nd) (psm_one (psm_if (pb_cmp op_gt cg_gt (po_nm 1) (po_ex pm_int) (nomark _)) (psm_cons (psm_set 2 nd (pm_bin op_addAll cg_add (po_ex (pm_ix ix_seq cg_ix (po_ex pm_str) (po_ex (pm_bin op_mod cg_mod (po_nm 1) (po_ex pm_int))))) (po_nm 2)))
      (psm_one (psm_set 1 nd (pm_bin op_fdiv cg_div (po_nm 1) (po_ex pm_int))))) psm_nil)))
      (psm_cons (psm_if (pb_cmp op_lt cg_lt (po_nm 0) (po_ex pm_int) (nomark _)) (psm_one (psm_ret (pm_bin op_addAll cg_add (po_ex pm_str) (po_nm 2)))) psm_nil)
      (psm_one (psm_ret (pm_mv 2)))))))))
abbrev s__law_text : Stmt := top 17
theorem sc__law_text : FnScope ["page", "start", "shape", "finish", "words", "one"] ["page"] (defScope s__law_text) := ⟨rfl, rfl, rfl, by decide +kernel, rfl, by decide +kernel, by decide +kernel⟩
noncomputable def m__law_text : Mo Fl :=
  mSeq (mIfS (mTr (mB fEq [.ex (mB fIx [.nm 0, .ex (ret (.val (.int 0)))]), .ex (ret (.val (.str "course")))])) (mSeq (mAsgG (mgT 3 (mgCons (mgN 1) (mgCons (mgN 2) (mgCons (mgN 3) (mgNil))))) (mB fIx [.nm 0, .ex (ret (.val (.int 2)))]))
  (mRet (mM1 fJoin (.ex (ret (.val (.str " ")))) (.ex (mLst [.ex (ret (.val (.str "course"))), .ex (mB fIx [.nm 0, .ex (ret (.val (.int 1)))]), .ex (mCp 1), .ex (mCall (F__law_shape_text recFuel) [.nm 2]), .ex (mCp 3)]))))) (mNx))
  (mSeq (mIfS (mTr (mB fEq [.ex (mB fIx [.nm 0, .ex (ret (.val (.int 0)))]), .ex (ret (.val (.str "team")))])) (mRet (mB fAdd [.ex (mB fAdd [.ex (mB fAdd [.ex (ret (.val (.str "team "))), .ex (mB fIx [.nm 0, .ex (ret (.val (.int 1)))])]), .ex (ret (.val (.str " ")))]), .ex (mM1 fJoin (.ex (ret (.val (.str " ")))) (.ex (mB fIx [.nm 0, .ex (ret (.val (.int 2)))])))])) (mNx))
  (mSeq (mAsg 4 (mLst []))
  (mSeq (mFor (mSeqS (.nm 0)) (mgN 5) (mIfS (mTr (mB fIsN [.nm 5, .ex (ret (.val .non))])) (mApp 4 (ret (.val (.str "-")))) (mIfS (mTr (mB fIsi [.nm 5, tyE "str"])) (mApp 4 (mCp 5)) (mApp 4 (mCall F__law_figures [.nm 5])))))
  (mRet (mM1 fJoin (.ex (ret (.val (.str " ")))) (.nm 4))))))
noncomputable def F__law_text : List T → Rs T := runDef 6 1 [0] m__law_text
theorem ok__law_text (T : TX w K mg) : Callee P w K mg base 11 "_law_text" ["page"] F__law_text := by
  obtain ⟨f, fd, F, gy, hb⟩ := T.f__law_text
  exact callee_of (k := 10) F gy hb sc__law_text rfl rfl (fun cdv A outer s H E hr tk hp => by
    have nd := sc__law_text.nd
    exact (psm_cons (psm_if (pb_cmp op_eq cg_eq (po_ex (pm_ix ix_seq cg_ix (po_nm 0) (po_ex pm_int))) (po_ex pm_str) (nomark _)) (psm_cons (psm_asg (pm_ix ix_seq cg_ix (po_nm 0) (po_ex pm_int)) (pgm_tup (pgsm_cons (pgm_name 1 nd) (pgsm_cons (pgm_name 2 nd) (pgsm_cons (pgm_name 3 nd) pgsm_nil)))))
      (psm_one (psm_ret (pm_join (po_ex pm_str) (po_ex (pm_lst (pag_cons (po_ex pm_str) (pag_cons (po_ex (pm_ix ix_seq cg_ix (po_nm 0) (po_ex pm_int))) (pag_cons (po_ex (pm_cp 1)) (pag_cons (po_ex (pm_call tk (ok__law_shape_text T recFuel) (hr.mono (by first | decide | omega)) (pag_cons (po_nm 2) pag_nil))) (pag_cons (po_ex (pm_cp 3)) pag_nil))))))))))) psm_nil)
      (psm_cons (psm_if (pb_cmp op_eq cg_eq (po_ex (pm_ix ix_seq cg_ix (po_nm 0) (po_ex pm_int))) (po_ex pm_str) (nomark _)) (psm_one (psm_ret (pm_bin op_addAll cg_add (po_ex (pm_bin op_addAll cg_add (po_ex (pm_bin op_addAll cg_add (po_ex pm_str) (po_ex (pm_ix ix_seq cg_ix (po_nm 0) (po_ex pm_int))))) (po_ex pm_str))) (po_ex (pm_join (po_ex pm_str) (po_ex (pm_ix ix_seq cg_ix (po_nm 0) (po_ex pm_int)))))))) psm_nil)
      (psm_cons (psm_set 4 nd (pm_lst pag_nil))
      (psm_cons (psm_for hp (pim_seq (po_nm 0)) (pgm_name 5 nd) (psm_one (psm_if (pb_cmp op_isN cg_isN (po_nm 5) (po_ex pm_non) (nomark _)) (psm_one (psm_app (i := 4) pm_str)) (psm_one (psm_if (pb_val (pm_callB call_isi cg_isi (by rfl) T.b_isinstance (by decide +kernel) (pag_cons (po_nm 5) (pag_cons (po_ty T.b_str (by decide +kernel)) pag_nil)))) (psm_one (psm_app (i := 4) (pm_cp 5))) (psm_one (psm_app (i := 4) (pm_call tk (ok__law_figures T) (hr.mono (by first | decide | omega)) (pag_cons (po_nm 5) pag_nil)))))))))
      (psm_one (psm_ret (pm_join (po_ex pm_str) (po_nm 4)))))))))
abbrev s_law : Stmt := top 18
theorem sc_law : FnScope ["script", "names", "k", "page", "found"] ["script"] (defScope s_law) := ⟨rfl, rfl, rfl, by decide +kernel, rfl, by decide +kernel, by decide +kernel⟩
noncomputable def m_law : Mo Fl :=
  mSeq (mAsg 1 (mCall F__law_names [.ex (mCall F__law_pen [.nm 0, .ex (ret (.val (.int 0)))]), .ex (ret (.val (.int 8)))]))
  (mSeq (mFor (mRng1 [.ex (mB fMax2 [.ex (ret (.val (.int 1))), .ex (mB fMin2 [.ex (ret (.val (.int 10))), .ex (mB fSub [.ex (mB fLen [.nm 0]), .ex (ret (.val (.int 1)))])])])]) (mgN 2) (mSeq (mAsg 3 (mCall F__law_page [.ex (mCall F__law_pen [.nm 0, .ex (mB fAdd [.ex (ret (.val (.int 1))), .nm 2])]), .nm 1]))
  (mSeq (mAsg 4 (mCall F_show_page [.nm 3]))
  (mIfS (mOr (mNot (mTr (mB fIsi [.nm 4, tyE "str"]))) (mOr (mTr (mB fNe [.nm 4, .ex (mCall F__law_text [.nm 3])])) (mTr (mB fNe [.ex (mCall F_show_page [.nm 3]), .nm 4])))) (mRet (ret (.val (.bl false)))) (mNx)))))
  (mRet (ret (.val (.bl true)))))
noncomputable def F_law : List T → Rs T := runDef 5 1 [0] m_law
theorem fn_law (T : TX w K mg) {f : Addr} {fd : FuncData} (F : Fun K "law" "law" (top 18) f fd) (gy : mg "law" = some (.ref f)) (hb : Binds K fd ["script"] []) : FnOk P w K mg base (L2.CX P w) 13 f fd ["script"] (spF K mg 1 F_law) := by
  exact fnok_of (k := 12) F gy hb sc_law rfl rfl (fun cdv A outer s H E hr tk hp => by
    have nd := sc_law.nd
    exact (psm_cons (psm_set 1 nd (pm_call tk (ok__law_names T) (hr.mono (by first | decide | omega)) (pag_cons (po_ex (pm_call tk (ok__law_pen T) (hr.mono (by first | decide | omega)) (pag_cons (po_nm 0) (pag_cons (po_ex pm_int) pag_nil)))) (pag_cons (po_ex pm_int) pag_nil))))
      (psm_cons (psm_for hp (pim_rng1 T.b_range (pag_cons (po_ex (pm_callB (call_max2 rfl) cg_max2 (by rfl) T.b_max (by decide +kernel) (pag_cons (po_ex pm_int) (pag_cons (po_ex (pm_callB (call_min2 rfl) cg_min2 (by rfl) T.b_min (by decide +kernel) (pag_cons (po_ex pm_int) (pag_cons (po_ex (pm_bin op_sub cg_sub (po_ex (pm_callB call_lenAll cg_len (by rfl) T.b_len (by decide +kernel) (pag_cons (po_nm 0) pag_nil))) (po_ex pm_int))) pag_nil)))) pag_nil)))) pag_nil)) (pgm_name 2 nd) (psm_cons (psm_set 3 nd (pm_call tk (ok__law_page T) (hr.mono (by first | decide | omega)) (pag_cons (po_ex (pm_call tk (ok__law_pen T) (hr.mono (by first | decide | omega)) (pag_cons (po_nm 0) (pag_cons (po_ex (pm_bin op_addAll cg_add (po_ex pm_int) (po_nm 2))) pag_nil)))) (pag_cons (po_nm 1) pag_nil))))
      (psm_cons (psm_set 4 nd (pm_call tk (ok_show_page T) (hr.mono (by first | decide | omega)) (pag_cons (po_nm 3) pag_nil)))
      (psm_one (psm_if (pb_w (pbw_or (pb_not (pb_val (pm_callB call_isi cg_isi (by rfl) T.b_isinstance (by decide +kernel) (pag_cons (po_nm 4) (pag_cons (po_ty T.b_str (by decide +kernel)) pag_nil))))) (pbw_or (pb_cmp op_ne cg_ne (po_nm 4) (po_ex (pm_call tk (ok__law_text T) (hr.mono (by first | decide | omega)) (pag_cons (po_nm 3) pag_nil))) (nomark _)) (pbw_or1 (pb_cmp op_ne cg_ne (po_ex (pm_call tk (ok_show_page T) (hr.mono (by first | decide | omega)) (pag_cons (po_nm 3) pag_nil))) (po_nm 4) (nomark _)))))) (psm_one (psm_ret pm_bl)) psm_nil)))))
      (psm_one (psm_ret pm_bl)))))
end
end My
abbrev My.lawLevel : Nat := 13

set_option Elab.async false
set_option linter.all false
set_option maxRecDepth 100000
set_option maxHeartbeats 200000
namespace My
open PySem PySem.Spec L2 Pf
local macro_rules | `(tactic| walk_at "wp") => `(tactic| simp -dsimp -implicitDefEqProofs only [↓Ok_runDef, ↓Ok_seq, ↓Ok_asg, ↓Ok_mRet, ↓Ok_mRetN, ↓Ok_drop, ↓Ok_ifS, ↓Ok_mIf, ↓Ok_and, ↓Ok_or, ↓Ok_not, ↓Ok_tr, ↓Ok_mB, ↓Ok_ap, ↓Ok_args_nil, ↓Ok_args_ex, ↓Ok_args_nm, ↓Ok_has, ↓Ok_get, ↓Ok_mv, ↓Ok_cp, ↓Ok_tup, ↓Ok_lst, ↓Ok_call, ↓Ok_gN, ↓Ok_gNil, ↓Ok_gCons, ↓Ok_gT, ↓Ok_asgG, ↓Ok_chk, ↓Ok_rng1, ↓Ok_rng2, ↓Ok_seq_nm, ↓Ok_seq_ex, ↓Ok_for, ↓Ok_lc, ↓Ok_m1, ↓Ok_part_no, ↓Ok_part_so, ↓Ok_ap3, ↓Ok_sl_ex, ↓Ok_sl_nm, ↓Ok_setIx, ↓setIx_at, ↓Ok_bnd, ↓Ok_ret, ↓Ok_ok, ↓Ok_nx, ↓Ok_app, ↓AppE_lst, ↓Ok_fail, ↓Ok_bad,
  ↓Go_nx, ↓Go_ret, ↓Go_bk, ↓Go_ct, ↓Lp_nx, ↓Lp_ct, ↓Lp_bk, ↓Lp_ret, ↓FinK_ret, ↓FinK_nx, ↓AsgK_val, ↓R1K_int, ↓R2K_int, ↓SetK_lst, ↓Got3_one, Br_t, Br_f, Nd_t, Got_some, Got_none, Got_if, GotL_some, GotS_some, GotN_some,
  asB_bl, peeks_nil, peeks_cons, peek_val, peek_lst, peek_dic, peek_dit, vals_nil, vals_cons, vals_map, toDs_nil', toDs_cons', toD_val', toD_lst', toDs_map', noDup_nm, noDup_ex, noDup_nil, nmIn_nil, nmIn_nm, nmIn_ex, isVal_val, isVal_lst, isVal_dic, putO_nil, putO_cons, pick_some, pick_none, tgt_nm, tgt_ex, tgt_nil, outs_zero, outs_succ, items_tup, items_vlst, items_rol, items_lst, isS_str2, asI_int, okv_nil, okv_cons, okSlot_none, okSlot_some, wipeE_nil, wipeE_cons, backE_nil, backE_cons, rangeD_len, isLst_lst, fJoin_lst, fJoin_tup, fSl_str, fSl_tup, fSl_lst, Option.getD_some, Option.getD_none, Int.reduceToNat, Nat.reduceLeDiff,
  fAdd_int, fAdd_str, fAdd_tup, fAdd_lst, fII_int, fII0_int, cMul_r, fEq_int, fEq_str, fNe_int, fNe_str, fIx_lst, fIx_rol, fIx_tup, fLen_lst, fLen_rol, fLen_tup, fAbs_int, fMax2_int, fMin2_int, fTuple_lst, fTuple_tup, fList_lst, fList_tup, atI_0, atI_1, atI_2, atI_3, atI_4, atI_5, ixN_0, ixN_1,
  List.getElem?_cons_zero, List.getElem?_cons_succ, List.set_cons_zero, List.set_cons_succ, List.map_cons, List.map_nil, List.cons_append, List.nil_append, List.replicate_succ, List.replicate_zero, Option.map_some, Option.map_none, Option.bind_some, Option.bind_none, List.length_cons, List.length_nil, List.getD_cons_zero, List.getD_cons_succ, List.contains_cons, List.contains_nil, Nat.reduceAdd, Nat.reduceSub, Nat.reduceBEq, Nat.reduceEqDiff, Bool.true_and, Bool.and_true, Bool.or_true, Bool.true_or, Bool.or_false, Bool.false_or, Bool.not_true, Bool.not_false, Bool.false_and, Bool.and_false, Int.reduceLT, Int.reduceLE, Int.reduceNeg, Int.reducePow, decide_true, decide_false, and_self, and_true, true_and, if_true, if_false, reduceIte, reduceCtorEq, and_false, false_and, Int.reduceEq, eq_self, Bool.false_eq_true, Bool.true_eq_false, List.getElem?_nil, beq_self_eq_true])
local macro_rules | `(tactic| walk_at "nd") => `(tactic| (refine Nd_mk (by first | exact rfl | (simp only [Bool.or_eq_true, Bool.and_eq_true, decide_eq_true_eq]; omega)) ?_; walk_at "wp"))
abbrev pn (a b : Int) : T := .lst [.val (.int a), .val (.int b)]
theorem take_ok (a b m : Int) (h0 : 0 < m) (h1 : m < 1073741824) {Q : T → En → Prop} (k : ∀ d a' b', 0 ≤ d → d < m → Q (.val (.int d)) [some (pn a' b'), some (.val (.int m))]) : @Ok _ (F__law_take [pn a b, .val (.int m)]) ⟨Q⟩ := by
  have hm : decide (0 < m) = true := decide_eq_true h0
  have hm1 : decide (m < 1073741824) = true := decide_eq_true h1
  have kk : ∀ s a' b', Q (.val (.int (s % m))) [some (pn a' b'), some (.val (.int m))] := fun s a' b' => k _ _ _ (Int.emod_nonneg _ (by omega)) (Int.emod_lt_of_pos _ h0)
  unfold F__law_take m__law_take
  generalize (65537 : Int) = c
  walk_at "wp"
  refine Br_intro (fun hb => ?_) (fun hb => ?_)
  · walk_at "wp"
    refine Br_intro (fun ha => ?_) (fun ha => ?_)
    · walk_at "wp"
      rw [hm]
      walk_at "wp"
      rw [hm, hm1]
      walk_at "wp"
      exact kk _ _ _
    · walk_at "wp"
      rw [hb]
      walk_at "wp"
      walk_at "nd"
      rw [hm]
      walk_at "wp"
      exact kk _ _ _
  · walk_at "wp"
    rw [hb]
    walk_at "wp"
    walk_at "nd"
    rw [hm]
    walk_at "wp"
    exact kk _ _ _
theorem atI_ints (s : List Int) (j : Int) (h : 0 ≤ j) (h2 : j < s.length) : ∃ x, atI (s.map D.int) j = some (.int x) := by
  obtain ⟨d, e, m⟩ := atI_in (ds := s.map D.int) h (by rw [List.length_map]; exact h2)
  obtain ⟨x, _, rfl⟩ := List.mem_map.mp m
  exact ⟨x, e⟩
theorem pen_ok (s : List Int) (j : Int) (hj : 0 ≤ j) (hj2 : j ≤ 100) {Q : T → En → Prop} (k : ∀ a b, Q (pn a b) [some (.val (.rol (s.map D.int))), some (.val (.int j))]) : @Ok _ (F__law_pen [.val (.rol (s.map D.int)), .val (.int j)]) ⟨Q⟩ := by
  unfold F__law_pen m__law_pen
  generalize hc : (18 : Int) = c18
  have e1 : (decide (0 ≤ c18) && (decide (c18 ≤ 1000000) && decide (Int.natAbs 10 < 2 ^ 64))) = true := by subst hc; decide
  walk_at "wp"
  refine Br_intro (fun hl => ?_) (fun hl => ?_)
  · walk_at "wp"
    obtain ⟨x, hx⟩ := atI_ints s j hj (by simpa using hl)
    rw [hx]
    walk_at "wp"
    rw [e1]
    walk_at "wp"
    refine Br_intro (fun hg => ?_) (fun hg => ?_)
    · walk_at "wp"
      rw [e1]
      walk_at "wp"
      exact k _ _
    · walk_at "wp"
      exact k _ _
  · walk_at "wp"
    rw [e1]
    walk_at "wp"
    refine Br_intro (fun hg => ?_) (fun hg => ?_)
    · walk_at "wp"
      rw [e1]
      walk_at "wp"
      exact k _ _
    · walk_at "wp"
      exact k _ _
/-- a text of a name -/
def Nm (n : D) : Prop := ∃ x : Str, n = .str x ∧ x.length ≤ 20
theorem letters_ok (d : Int) (h : 0 ≤ d) (h2 : d < 26) {Q : T → Prop} (k : ∀ x : Str, x.length = 1 → Q (.val (.str x))) : @Got (fIx [.str "abcdefghijklmnopqrstuvwxyz", .int d]) ⟨Q⟩ := by
  have hl : (Str.cps "abcdefghijklmnopqrstuvwxyz").toList.length = 26 := by decide
  obtain ⟨c, e, _⟩ := atI_in (ds := (Str.cps "abcdefghijklmnopqrstuvwxyz").toList) (i := d) h (by rw [hl]; exact h2)
  show @Got ((if Str.length "abcdefghijklmnopqrstuvwxyz" ≤ 10000000 then (atI (Str.cps "abcdefghijklmnopqrstuvwxyz").toList d).map fun c => T.val (.str ⟨#[c]⟩) else none)) ⟨Q⟩
  rw [if_pos (by decide), e]
  exact k ⟨#[c]⟩ rfl
theorem names_ok (a b : Int) {Q : T → En → Prop} (k : ∀ ns : List D, ns.length = 8 → (∀ n ∈ ns, Nm n) → ∀ p q, Q (.lst (ns.map T.val)) [some (pn p q), some (.val (.int 8))]) : @Ok _ (F__law_names [pn a b, .val (.int 8)]) ⟨Q⟩ := by
  unfold F__law_names m__law_names
  walk_at "wp"
  refine take_ok _ _ _ (by omega) (by omega) fun way a1 b1 w1 w2 => ?_
  walk_at "wp"
  refine lcL_ok0 (fun k us e => ∃ p q, e = [some (pn p q), some (.val (.int 8)), some (.val (.str "abcdefghijklmnopqrstuvwxyz")), some (.val (.int way)), none, none, none, none, none, none, none] ∧ ∃ xs : List Str, us = (xs.map D.str).map T.val ∧ xs.length = k ∧ ∀ x ∈ xs, x.length = 1) ⟨_, _, rfl, [], rfl, rfl, fun _ m => (nomatch m)⟩ ?_ ?_
  · rintro j d us e hj ⟨p, q, rfl, xs, rfl, hl, hx⟩
    obtain ⟨hj2, rfl⟩ := rangeD_at hj
    refine ⟨trivial, ?_⟩
    walk_at "wp"
    refine take_ok _ _ _ (by omega) (by omega) fun d a2 b2 d1 d2 => ?_
    walk_at "wp"
    refine letters_ok d d1 d2 fun x hx1 => ?_
    walk_at "wp"
    exact ⟨_, _, rfl, xs ++ [x], by simp, by simp [hl], by
      intro y hy
      rcases List.mem_append.mp hy with z | z
      · exact hx y z
      · rw [List.mem_singleton.mp z]; exact hx1⟩
  · rintro us e ⟨p, q, rfl, xs, rfl, hl, hx⟩
    refine ⟨trivial, ?_⟩
    have hl8 : xs.length = 8 := hl.trans rangeD_len
    have hs : (xs.map (·.length)).sum ≤ 8 := by
      have := sum_le (·.length) 1 xs fun y m => Nat.le_of_eq (hx y m)
      omega
    have e0 : Str.length "" = 0 := by decide
    walk_at "wp"
    refine Nd_mk (by rw [e0]; omega) ?_
    walk_at "wp"
    have hb := join_le "" xs
    rw [e0] at hb
    generalize Txt.join "" xs = base at *
    have hb8 : base.length ≤ 8 := by omega
    refine take_ok _ _ _ (by omega) (by omega) fun sz p2 q2 z1 z2 => ?_
    walk_at "wp"
    refine take_ok _ _ _ (by omega) (by omega) fun spot p3 q3 y1 y2 => ?_
    walk_at "wp"
    refine take_ok _ _ _ (by omega) (by omega) fun fi p4 q4 f1 f2 => ?_
    walk_at "wp"
    refine forL_ok0 (fun k e => ∃ x5 x10 ns, e = [some (pn p4 q4), some (.val (.int 8)), some (.val (.str "abcdefghijklmnopqrstuvwxyz")), some (.val (.int way)), some (.val (.str base)), x5, some (.val (.int (1 + sz))), some (.val (.int spot)), some (.val (.int fi)), some (.lst (ns.map T.val)), x10] ∧ ns.length = k ∧ ∀ n ∈ ns, Nm n) ⟨_, _, [], rfl, rfl, fun _ m => (nomatch m)⟩ ?_ ?_
    · rintro j d e hj ⟨x5, x10, ns, rfl, hn, hN⟩
      obtain ⟨hj2, rfl⟩ := rangeD_at hj
      refine ⟨trivial, ?_⟩
      have fin : ∀ x : Str, x.length ≤ 20 → ∀ x10, ∃ x5 x10', ∃ ns' : List D, [some (pn p4 q4), some (T.val (.int 8)), some (.val (.str "abcdefghijklmnopqrstuvwxyz")), some (.val (.int way)), some (.val (.str base)), some (.val (.int (0 + (j : Int)))), some (.val (.int (1 + sz))), some (.val (.int spot)), some (.val (.int fi)), some (.lst (ns.map T.val ++ [T.val (.str x)])), x10] = [some (pn p4 q4), some (T.val (.int 8)), some (.val (.str "abcdefghijklmnopqrstuvwxyz")), some (.val (.int way)), some (.val (.str base)), x5, some (.val (.int (1 + sz))), some (.val (.int spot)), some (.val (.int fi)), some (.lst (ns'.map T.val)), x10'] ∧ ns'.length = j + 1 ∧ ∀ n ∈ ns', Nm n := fun x hx x10 => ⟨_, _, ns ++ [.str x], by rw [List.map_append]; rfl, by rw [List.length_append, hn]; rfl, fun n hn => by
        rcases List.mem_append.mp hn with z | z
        · exact hN n z
        · rw [List.mem_singleton.mp z]; exact ⟨x, rfl, hx⟩⟩
      have c1 := cutS_length base none (some (1 + (1 + sz + (0 + (j : Int))) % 8))
      have c2 := cutS_length base none (some spot)
      have c3 := cutS_length base (some (spot + 1)) (some (1 + sz))
      have hlen : (ns.map T.val).length ≤ 1000000 := by rw [List.length_map]; omega
      walk_at "wp"
      refine Br_intro (fun hw => ?_) (fun hw => ?_)
      · walk_at "wp"
        refine Nd_mk (by omega) ?_
        walk_at "wp"
        refine Nd_mk hlen ?_
        walk_at "wp"
        exact fin _ (by omega) _
      · walk_at "wp"
        refine letters_ok _ (Int.emod_nonneg _ (by decide)) (Int.emod_lt_of_pos _ (by decide)) fun x hx1 => ?_
        walk_at "wp"
        refine Nd_mk (by omega) ?_
        walk_at "wp"
        refine Nd_mk (by omega) ?_
        walk_at "wp"
        refine Nd_mk (by omega) ?_
        walk_at "wp"
        refine Nd_mk (by rw [Str.length_append]; omega) ?_
        walk_at "wp"
        refine Nd_mk hlen ?_
        walk_at "wp"
        exact fin _ (by rw [Str.length_append, Str.length_append]; omega) _
    · rintro e ⟨x5, x10, ns, rfl, hn, hN⟩
      refine ⟨trivial, ?_⟩
      walk_at "wp"
      exact k ns (hn.trans rangeD_len) hN _ _
inductive ShapeD : Nat → D → Prop
  | post {k : Nat} {n : D} (h : Nm n) : ShapeD k (.tup [.str "post", n])
  | free {k : Nat} {ds : List D} (h : ds.length ≤ 5) (h2 : ∀ n ∈ ds, Nm n) : ShapeD k (.tup [.str "free", .tup ds])
  | fork {k : Nat} {ds : List D} (h : ds.length ≤ 5) (h2 : ∀ n ∈ ds, ShapeD k n) : ShapeD (k + 1) (.tup [.str "fork", .tup ds])
  | row {k : Nat} {ds : List D} (h : ds.length ≤ 5) (h2 : ∀ n ∈ ds, ShapeD k n) : ShapeD (k + 1) (.tup [.str "row", .tup ds])
theorem pick_name (ns : List D) (hN : ∀ n ∈ ns, Nm n) (d : Int) (h : 0 ≤ d) (h2 : d < ns.length) : ∃ n, atI ns d = some n ∧ Nm n := by
  obtain ⟨n, e, m⟩ := atI_in h h2
  exact ⟨n, e, hN n m⟩
theorem shape_ok (ns : List D) (hl0 : 0 < ns.length) (hl2 : ns.length ≤ 100) (hN : ∀ n ∈ ns, Nm n) : ∀ (fuel : Nat) (k : Nat) (deep : Int) (a b : Int), k < fuel → deep = k + 1 → k ≤ 2 → ∀ {Q : T → En → Prop}, (∀ d p q, ShapeD k d → Q (.val d) [some (pn p q), some (.lst (ns.map T.val)), some (.val (.int deep))]) → @Ok _ (F__law_shape fuel [pn a b, .lst (ns.map T.val), .val (.int deep)]) ⟨Q⟩
  | 0, _, _, _, _, h, _, _, _, _ => by omega
  | f + 1, k, deep, a, b, hf, hd, hk2, Q, k0 => by
    show @Ok _ (runDef 6 3 [0, 1, 2] (m__law_shape (F__law_shape f)) _) ⟨Q⟩
    unfold m__law_shape
    walk_at "wp"
    refine take_ok _ _ _ (by omega) (by omega) fun way p1 q1 w1 w2 => ?_
    walk_at "wp"
    refine Br_intro (fun g1 => ?leaf) (fun g1 => ?_)
    rotate_left
    walk_at "wp"
    refine Br_intro (fun g2 => ?leaf2) (fun g2 => ?node)
    case node =>
      walk_at "wp"
      have hk : 0 < k := by have := of_decide_eq_false g1; omega
      obtain ⟨k', rfl⟩ := Nat.exists_eq_add_of_lt hk
      rw [Nat.zero_add] at *
      refine Br_intro (fun g3 => ?_) (fun g3 => ?_)
      · walk_at "wp"
        refine take_ok _ _ _ (by omega) (by omega) fun m p2 q2 m1 m2 => ?_
        walk_at "wp"
        refine Nd_mk ⟨by omega, by omega⟩ ?_
        walk_at "wp"
        refine Nd_mk (by omega) ?_
        walk_at "wp"
        refine lcL_ok0 (fun j us e => ∃ p q, e = [some (pn p q), some (.lst (ns.map T.val)), some (.val (.int deep)), some (.val (.int way)), none, none] ∧ ∃ ds : List D, us = ds.map T.val ∧ ds.length = j ∧ ∀ n ∈ ds, ShapeD k' n) ⟨_, _, rfl, [], rfl, rfl, fun _ m => (nomatch m)⟩ ?_ ?_
        · rintro j d us e hj ⟨p, q, rfl, ds, rfl, hl, hx⟩
          obtain ⟨hj2, rfl⟩ := rangeD_at hj
          refine ⟨trivial, ?_⟩
          walk_at "wp"
          refine shape_ok ns hl0 hl2 hN f k' (deep - 1) _ _ (by omega) (by omega) (by omega) fun d p3 q3 hS => ?_
          walk_at "wp"
          exact ⟨_, _, rfl, ds ++ [d], by simp, by simp [hl], by
            intro y hy
            rcases List.mem_append.mp hy with z | z
            · exact hx y z
            · rw [List.mem_singleton.mp z]; exact hS⟩
        · rintro us e ⟨p, q, rfl, ds, rfl, hl, hx⟩
          refine ⟨trivial, ?_⟩
          rw [rangeD_len] at hl
          walk_at "wp"
          exact k0 _ _ _ (.fork (by omega) hx)
      · walk_at "wp"
        refine take_ok _ _ _ (by omega) (by omega) fun m p2 q2 m1 m2 => ?_
        walk_at "wp"
        refine Nd_mk ⟨by omega, by omega⟩ ?_
        walk_at "wp"
        refine Nd_mk (by omega) ?_
        walk_at "wp"
        refine lcL_ok0 (fun j us e => ∃ p q, e = [some (pn p q), some (.lst (ns.map T.val)), some (.val (.int deep)), some (.val (.int way)), none, none] ∧ ∃ ds : List D, us = ds.map T.val ∧ ds.length = j ∧ ∀ n ∈ ds, ShapeD k' n) ⟨_, _, rfl, [], rfl, rfl, fun _ m => (nomatch m)⟩ ?_ ?_
        · rintro j d us e hj ⟨p, q, rfl, ds, rfl, hl, hx⟩
          obtain ⟨hj2, rfl⟩ := rangeD_at hj
          refine ⟨trivial, ?_⟩
          walk_at "wp"
          refine shape_ok ns hl0 hl2 hN f k' (deep - 1) _ _ (by omega) (by omega) (by omega) fun d p3 q3 hS => ?_
          walk_at "wp"
          exact ⟨_, _, rfl, ds ++ [d], by simp, by simp [hl], by
            intro y hy
            rcases List.mem_append.mp hy with z | z
            · exact hx y z
            · rw [List.mem_singleton.mp z]; exact hS⟩
        · rintro us e ⟨p, q, rfl, ds, rfl, hl, hx⟩
          refine ⟨trivial, ?_⟩
          rw [rangeD_len] at hl
          walk_at "wp"
          exact k0 _ _ _ (.row (by omega) hx)
    all_goals
      walk_at "wp"
      refine take_ok _ _ _ (by omega) (by omega) fun c p2 q2 c1 c2 => ?_
      walk_at "wp"
      refine Br_intro (fun g3 => ?_) (fun g3 => ?_)
    iterate 2
      · walk_at "wp"
        refine take_ok _ _ _ (by omega) (by omega) fun m p3 q3 m1 m2 => ?_
        walk_at "wp"
        refine Nd_mk ⟨by omega, by omega⟩ ?_
        walk_at "wp"
        refine Nd_mk (by omega) ?_
        walk_at "wp"
        refine lcL_ok0 (fun j us e => ∃ p q, e = [some (pn p q), some (.lst (ns.map T.val)), some (.val (.int deep)), some (.val (.int way)), some (.val (.int (2 + m))), none] ∧ ∃ ds : List D, us = ds.map T.val ∧ ds.length = j ∧ ∀ n ∈ ds, Nm n) ⟨_, _, rfl, [], rfl, rfl, fun _ m => (nomatch m)⟩ ?_ ?_
        · rintro j d us e hj ⟨p, q, rfl, ds, rfl, hl, hx⟩
          obtain ⟨hj2, rfl⟩ := rangeD_at hj
          refine ⟨trivial, ?_⟩
          walk_at "wp"
          refine take_ok _ _ _ (by omega) (by omega) fun i p3 q3 i1 i2 => ?_
          walk_at "wp"
          obtain ⟨n, hn, hNn⟩ := pick_name ns hN i i1 i2
          rw [hn]
          walk_at "wp"
          exact ⟨_, _, rfl, ds ++ [n], by simp, by simp [hl], by
            intro y hy
            rcases List.mem_append.mp hy with z | z
            · exact hx y z
            · rw [List.mem_singleton.mp z]; exact hNn⟩
        · rintro us e ⟨p, q, rfl, ds, rfl, hl, hx⟩
          refine ⟨trivial, ?_⟩
          rw [rangeD_len] at hl
          walk_at "wp"
          exact k0 _ _ _ (.free (by omega) hx)
      · walk_at "wp"
        refine take_ok _ _ _ (by omega) (by omega) fun i p3 q3 i1 i2 => ?_
        walk_at "wp"
        obtain ⟨n, hn, hNn⟩ := pick_name ns hN i i1 i2
        rw [hn]
        walk_at "wp"
        exact k0 _ _ _ (.post hNn)
def NN : Int := 1000000000000000000000000000000
theorem pow30 : (10 : Int) ^ (Int.toNat 30) = NN := by decide +kernel
def Num (n : Int) : Prop := -NN < n ∧ n < NN
theorem number_ok (a b : Int) {Q : T → En → Prop} (k : ∀ n p q, Num n → Q (.val (.int n)) [some (pn p q)]) : @Ok _ (F__law_number [pn a b]) ⟨Q⟩ := by
  unfold F__law_number m__law_number
  generalize hc : (30 : Int) = c30
  have e1 : (decide (0 ≤ c30) && (decide (c30 ≤ 1000000) && decide (Int.natAbs 10 < 2 ^ 64))) = true := by subst hc; decide
  have hN : (10 : Int) ^ c30.toNat = NN := by subst hc; exact pow30
  have hNN : NN = 1000000000000000000000000000000 := rfl
  walk_at "wp"
  refine take_ok _ _ _ (by omega) (by omega) fun w p1 q1 w1 w2 => ?_
  walk_at "wp"
  refine Br_intro (fun g => ?_) (fun g => ?_)
  · walk_at "wp"
    refine take_ok _ _ _ (by omega) (by omega) fun c p2 q2 c1 c2 => ?_
    walk_at "wp"
    have g := of_decide_eq_true g
    exact k _ _ _ ⟨by omega, by omega⟩
  · walk_at "wp"
    rw [e1, hN]
    walk_at "wp"
    refine take_ok _ _ _ (by omega) (by omega) fun c p2 q2 c1 c2 => ?_
    walk_at "wp"
    have g := of_decide_eq_false g
    rcases (show w = 2 ∨ w = 3 by omega) with rfl | rfl
    · walk_at "nd"
      exact k _ _ _ ⟨by omega, by omega⟩
    · walk_at "nd"
      exact k _ _ _ ⟨by omega, by omega⟩
/-- a word, a name, a number, none -/
inductive PartD : D → Prop
  | non : PartD .non
  | str {x : Str} (h : x.length ≤ 20) : PartD (.str x)
  | int {n : Int} (h : Num n) : PartD (.int n)
theorem Nm.part {n : D} (h : Nm n) : PartD n := by
  obtain ⟨x, rfl, h⟩ := h
  exact .str h
inductive PageD : D → Prop
  | course {n s f h : D} (hn : Nm n) (hs : Nm s) (hf : Nm f) (hh : ShapeD 2 h) : PageD (.tup [.str "course", n, .tup [s, h, f]])
  | team {n : D} {ds : List D} (hn : Nm n) (hl : ds.length ≤ 5) (h0 : 0 < ds.length) (hd : ∀ n ∈ ds, Nm n) : PageD (.tup [.str "team", n, .tup ds])
  | flat {w : Str} {ds : List D} (h1 : w ≠ "course") (h2 : w ≠ "team") (hw : w.length ≤ 20) (hl : ds.length ≤ 5) (hd : ∀ n ∈ ds, PartD n) : PageD (.tup (.str w :: ds))
theorem cut2 (a b : D) (r : List D) : cutD (a :: b :: r) (some 2) none = r := by
  unfold cutD HT.sIx
  simp
theorem page_ok (a b : Int) (n0 n1 : D) (rest : List D) (hr : rest.length = 6) (hN : ∀ n ∈ n0 :: n1 :: rest, Nm n) {Q : T → En → Prop} (k : ∀ d p q, PageD d → Q (.val d) [some (pn p q), some (.lst ((n0 :: n1 :: rest).map T.val))]) : @Ok _ (F__law_page [pn a b, .lst ((n0 :: n1 :: rest).map T.val)]) ⟨Q⟩ := by
  have h0 := hN n0 (by simp)
  have h1 := hN n1 (by simp)
  have hNr : ∀ n ∈ rest, Nm n := fun n m => hN n (by simp [m])
  have h8 : (n0 :: n1 :: rest).length = 8 := by simp [hr]
  unfold F__law_page m__law_page
  generalize hc : (30 : Int) = c30
  have e1 : (decide (0 ≤ c30) && (decide (c30 ≤ 1000000) && decide (Int.natAbs 10 < 2 ^ 64))) = true := by subst hc; decide
  have hPN : (10 : Int) ^ c30.toNat = NN := by subst hc; exact pow30
  have hNN : NN = 1000000000000000000000000000000 := rfl
  walk_at "wp"
  refine take_ok _ _ _ (by omega) (by omega) fun kind p1 q1 k1 k2 => ?_
  walk_at "wp"
  refine take_ok _ _ _ (by omega) (by omega) fun i1 p2 q2 i1a i1b => ?_
  walk_at "wp"
  obtain ⟨one, e, hone⟩ := pick_name _ hN i1 i1a (by rw [h8]; exact i1b)
  rw [e]
  walk_at "wp"
  refine take_ok _ _ _ (by omega) (by omega) fun i2 p3 q3 i2a i2b => ?_
  walk_at "wp"
  obtain ⟨other, e, hother⟩ := pick_name _ hN i2 i2a (by rw [h8]; exact i2b)
  rw [e]
  walk_at "wp"
  refine number_ok _ _ fun low p4 q4 hlow => ?_
  walk_at "wp"
  refine take_ok _ _ _ (by omega) (by omega) fun x1 p5 q5 x1a x1b => ?_
  walk_at "wp"
  refine take_ok _ _ _ (by omega) (by omega) fun x2 p6 q6 x2a x2b => ?_
  walk_at "wp"
  walk_at "nd"
  have hplace : Num (x1 * x2) := by
    rcases (show x1 = 0 ∨ x1 = 1 ∨ x1 = 2 by omega) with rfl | rfl | rfl <;> exact ⟨by omega, by omega⟩
  generalize x1 * x2 = place at *
  rw [e1, hPN]
  walk_at "wp"
  refine take_ok _ _ _ (by omega) (by omega) fun x3 p7 q7 x3a x3b => ?_
  walk_at "wp"
  have habs : Num (if low < 0 then -low else low) := by
    obtain ⟨u, v⟩ := hlow
    split <;> exact ⟨by omega, by omega⟩
  generalize hal : (if low < 0 then -low else low) = alow at *
  have hmost : ∃ most, atI [D.non, D.int alow, D.int (NN - 1)] x3 = some most ∧ PartD most := by
    obtain ⟨d, e, m⟩ := atI_in (ds := [D.non, D.int alow, D.int (NN - 1)]) (i := x3) (by omega) (by simpa using x3b)
    refine ⟨d, e, ?_⟩
    rcases List.mem_cons.mp m with rfl | m
    · exact .non
    · rcases List.mem_cons.mp m with rfl | m
      · exact .int habs
      · rw [List.mem_singleton.mp m]
        exact .int ⟨by omega, by omega⟩
  obtain ⟨most, e, hmost⟩ := hmost
  rw [e]
  walk_at "wp"
  refine take_ok _ _ _ (by omega) (by omega) fun m p8 q8 m1 m2 => ?_
  walk_at "wp"
  refine Nd_mk ⟨by omega, by omega⟩ ?_
  walk_at "wp"
  refine Nd_mk (by omega) ?_
  walk_at "wp"
  refine lcL_ok0 (fun j us e => ∃ p q, e = [some (pn p q), some (.lst ((n0 :: n1 :: rest).map T.val)), some (.val (.int kind)), some (.val one), some (.val other), some (.val (.int low)), some (.val (.int place)), some (.val most), none, none, none, none] ∧ ∃ ds : List D, us = ds.map T.val ∧ ds.length = j ∧ ∀ n ∈ ds, Nm n) ⟨_, _, rfl, [], rfl, rfl, fun _ m => (nomatch m)⟩ ?_ ?_
  · rintro j d us e hj ⟨p, q, rfl, ds, rfl, hl, hx⟩
    obtain ⟨hj2, rfl⟩ := rangeD_at hj
    refine ⟨trivial, ?_⟩
    walk_at "wp"
    refine take_ok _ _ _ (by omega) (by omega) fun i p3 q3 i1 i2 => ?_
    walk_at "wp"
    obtain ⟨n, hn, hNn⟩ := pick_name _ hN i i1 (by rw [h8]; exact i2)
    rw [hn]
    walk_at "wp"
    exact ⟨_, _, rfl, ds ++ [n], by simp, by simp [hl], by
      intro y hy
      rcases List.mem_append.mp hy with z | z
      · exact hx y z
      · rw [List.mem_singleton.mp z]; exact hNn⟩
  rintro us e ⟨p, q, rfl, ds, rfl, hl, hx⟩
  refine ⟨trivial, ?_⟩
  rw [rangeD_len] at hl
  walk_at "wp"
  rw [cut2]
  refine shape_ok rest (by omega) (by omega) hNr 9 2 3 _ _ (by omega) (by omega) (by omega) fun shp p9 q9 hS => ?_
  walk_at "wp"
  rw [hal]
  have hmax : Num (if place > low then place else low) := by
    split
    · exact hplace
    · exact hlow
  generalize (if place > low then place else low) = top at *
  have fl : ∀ (w : Str) (ds : List D), w ≠ "course" → w ≠ "team" → w.length ≤ 20 → ds.length ≤ 5 → (∀ n ∈ ds, PartD n) → PageD (.tup (.str w :: ds)) := fun w ds h1 h2 h3 h4 h5 => .flat h1 h2 h3 h4 h5
  have all1 : ∀ x : D, PartD x → ∀ n ∈ [x], PartD n := fun x h n m => by rw [List.mem_singleton.mp m]; exact h
  have allc : ∀ (x : D) (r : List D), PartD x → (∀ n ∈ r, PartD n) → ∀ n ∈ x :: r, PartD n := fun x r h h2 n m => by
    rcases List.mem_cons.mp m with z | z
    · rw [z]; exact h
    · exact h2 n z
  obtain ⟨d, hd, hm⟩ := atI_in (ds := [D.tup [.str "course", one, .tup [n0, shp, n1]], .tup [.str "runner", one, other], .tup [.str "stamp", one, other, .int low], .tup [.str "sworn", one, other, .int low, .int place], .tup [.str "cut", one, .int place], .tup [.str "dead", one], .tup [.str "mended", one], .tup [.str "leg", one, other, .int alow, most], .tup [.str "calm", one, other], .tup [.str "watch", one, .int low, .int top], .tup [.str "team", one, .tup ds]]) (i := kind) k1 k2
  rw [hd]
  walk_at "wp"
  have hp : PageD d := by
    simp only [List.mem_cons, List.not_mem_nil, or_false] at hm
    rcases hm with rfl | rfl | rfl | rfl | rfl | rfl | rfl | rfl | rfl | rfl | rfl
    · exact .course hone h0 h1 hS
    · exact fl _ _ (by decide) (by decide) (by decide) (by simp) (allc _ _ hone.part (all1 _ hother.part))
    · exact fl _ _ (by decide) (by decide) (by decide) (by simp) (allc _ _ hone.part (allc _ _ hother.part (all1 _ (.int hlow))))
    · exact fl _ _ (by decide) (by decide) (by decide) (by simp) (allc _ _ hone.part (allc _ _ hother.part (allc _ _ (.int hlow) (all1 _ (.int hplace)))))
    · exact fl _ _ (by decide) (by decide) (by decide) (by simp) (allc _ _ hone.part (all1 _ (.int hplace)))
    · exact fl _ _ (by decide) (by decide) (by decide) (by simp) (all1 _ hone.part)
    · exact fl _ _ (by decide) (by decide) (by decide) (by simp) (all1 _ hone.part)
    · exact fl _ _ (by decide) (by decide) (by decide) (by simp) (allc _ _ hone.part (allc _ _ hother.part (allc _ _ (.int habs) (all1 _ hmost))))
    · exact fl _ _ (by decide) (by decide) (by decide) (by simp) (allc _ _ hone.part (all1 _ hother.part))
    · exact fl _ _ (by decide) (by decide) (by decide) (by simp) (allc _ _ hone.part (allc _ _ (.int hlow) (all1 _ (.int hmax))))
    · exact .team hone (by omega) (by omega) hx
  exact k d _ _ hp
end My

set_option Elab.async false
set_option linter.all false
set_option maxRecDepth 100000
set_option maxHeartbeats 200000
namespace My
open PySem PySem.Spec L2 Pf
local macro_rules | `(tactic| walk_at "wp") => `(tactic| simp -dsimp -implicitDefEqProofs only [↓Ok_runDef, ↓Ok_seq, ↓Ok_asg, ↓Ok_mRet, ↓Ok_mRetN, ↓Ok_drop, ↓Ok_ifS, ↓Ok_mIf, ↓Ok_and, ↓Ok_or, ↓Ok_not, ↓Ok_tr, ↓Ok_mB, ↓Ok_ap, ↓Ok_args_nil, ↓Ok_args_ex, ↓Ok_args_nm, ↓Ok_has, ↓Ok_get, ↓Ok_mv, ↓Ok_cp, ↓Ok_tup, ↓Ok_lst, ↓Ok_call, ↓Ok_gN, ↓Ok_gNil, ↓Ok_gCons, ↓Ok_gT, ↓Ok_asgG, ↓Ok_chk, ↓Ok_rng1, ↓Ok_rng2, ↓Ok_seq_nm, ↓Ok_seq_ex, ↓Ok_for, ↓Ok_lc, ↓Ok_m1, ↓Ok_part_no, ↓Ok_part_so, ↓Ok_ap3, ↓Ok_sl_ex, ↓Ok_sl_nm, ↓Ok_setIx, ↓setIx_at, ↓Ok_bnd, ↓Ok_ret, ↓Ok_ok, ↓Ok_nx, ↓Ok_app, ↓AppE_lst, ↓Ok_fail, ↓Ok_bad,
  ↓Go_nx, ↓Go_ret, ↓Go_bk, ↓Go_ct, ↓Lp_nx, ↓Lp_ct, ↓Lp_bk, ↓Lp_ret, ↓FinK_ret, ↓FinK_nx, ↓AsgK_val, ↓R1K_int, ↓R2K_int, ↓SetK_lst, ↓Got3_one, Br_t, Br_f, Nd_t, Got_some, Got_none, Got_if, GotL_some, GotS_some, GotN_some,
  asB_bl, peeks_nil, peeks_cons, peek_val, peek_lst, peek_dic, peek_dit, vals_nil, vals_cons, vals_map, toDs_nil', toDs_cons', toD_val', toD_lst', toDs_map', noDup_nm, noDup_ex, noDup_nil, nmIn_nil, nmIn_nm, nmIn_ex, isVal_val, isVal_lst, isVal_dic, putO_nil, putO_cons, pick_some, pick_none, tgt_nm, tgt_ex, tgt_nil, outs_zero, outs_succ, items_tup, items_vlst, items_rol, items_lst, isS_str2, asI_int, okv_nil, okv_cons, okSlot_none, okSlot_some, wipeE_nil, wipeE_cons, backE_nil, backE_cons, rangeD_len, isLst_lst, fJoin_lst, fJoin_tup, fSl_str, fSl_tup, fSl_lst, Option.getD_some, Option.getD_none, Int.reduceToNat, Nat.reduceLeDiff,
  fAdd_int, fAdd_str, fAdd_tup, fAdd_lst, fII_int, fII0_int, cMul_r, fEq_int, fEq_str, fNe_int, fNe_str, fIx_lst, fIx_rol, fIx_tup, fLen_lst, fLen_rol, fLen_tup, fAbs_int, fMax2_int, fMin2_int, fTuple_lst, fTuple_tup, fList_lst, fList_tup, atI_0, atI_1, atI_2, atI_3, atI_4, atI_5, ixN_0, ixN_1,
  List.getElem?_cons_zero, List.getElem?_cons_succ, List.set_cons_zero, List.set_cons_succ, List.map_cons, List.map_nil, List.cons_append, List.nil_append, List.replicate_succ, List.replicate_zero, Option.map_some, Option.map_none, Option.bind_some, Option.bind_none, List.length_cons, List.length_nil, List.getD_cons_zero, List.getD_cons_succ, List.contains_cons, List.contains_nil, Nat.reduceAdd, Nat.reduceSub, Nat.reduceBEq, Nat.reduceEqDiff, Bool.true_and, Bool.and_true, Bool.or_true, Bool.true_or, Bool.or_false, Bool.false_or, Bool.not_true, Bool.not_false, Bool.false_and, Bool.and_false, Int.reduceLT, Int.reduceLE, Int.reduceNeg, Int.reducePow, decide_true, decide_false, and_self, and_true, true_and, if_true, if_false, reduceIte, reduceCtorEq, and_false, false_and, Int.reduceEq, eq_self, Bool.false_eq_true, Bool.true_eq_false, List.getElem?_nil, beq_self_eq_true])
local macro_rules | `(tactic| walk_at "nd") => `(tactic| (refine Nd_mk (by first | exact rfl | (simp only [Bool.or_eq_true, Bool.and_eq_true, decide_eq_true_eq]; omega)) ?_; walk_at "wp"))

theorem Ok_gdx {kvs : List (Str × D)} {o : Op} {e : En} {Q : T → En → Prop} : @Ok _ (mGdx kvs o e) ⟨Q⟩ = @Ok _ (mArgs [o] e) ⟨fun ts e' => @Ok _ (gdx kvs ts e') ⟨Q⟩⟩ := Ok_bnd
theorem g_row (e : En) : gdx dict_BRACKETS [.val (.str "row")] e = .ok (.val (.str "()")) e := rfl
theorem g_fork (e : En) : gdx dict_BRACKETS [.val (.str "fork")] e = .ok (.val (.str "{}")) e := rfl
theorem g_free (e : En) : gdx dict_BRACKETS [.val (.str "free")] e = .ok (.val (.str "<>")) e := rfl
theorem b_00 : fIx [.str "()", .int 0] = some (.val (.str "(")) := rfl
theorem b_01 : fIx [.str "()", .int 1] = some (.val (.str ")")) := rfl
theorem b_10 : fIx [.str "{}", .int 0] = some (.val (.str "{")) := rfl
theorem b_11 : fIx [.str "{}", .int 1] = some (.val (.str "}")) := rfl
theorem b_20 : fIx [.str "<>", .int 0] = some (.val (.str "<")) := rfl
theorem b_21 : fIx [.str "<>", .int 1] = some (.val (.str ">")) := rfl
theorem ne1 : decide (("free" : Str) = "post") = false := by decide
theorem ne2 : decide (("row" : Str) = "post") = false := by decide
theorem ne3 : decide (("fork" : Str) = "post") = false := by decide
theorem ne4 : decide (("row" : Str) = "free") = false := by decide
theorem ne5 : decide (("fork" : Str) = "free") = false := by decide
theorem eq1 : decide (("post" : Str) = "post") = true := by decide
theorem eq2 : decide (("free" : Str) = "free") = true := by decide
def strOf : D → Str
  | .str x => x
  | _ => ""
def shT : Nat → D → Str
  | 0, _ => ""
  | k + 1, .tup [.str w, .tup ds] => if w = "free" then "<" ++ Txt.join " " (ds.map strOf) ++ ">" else if w = "row" then "(" ++ Txt.join " " (ds.map (shT k)) ++ ")" else "{" ++ Txt.join " " (ds.map (shT k)) ++ "}"
  | _, .tup [.str w, .str n] => n
  | _, _ => ""
theorem nm_map : ∀ ds : List D, (∀ n ∈ ds, Nm n) → ds = (ds.map strOf).map D.str ∧ ∀ x ∈ ds.map strOf, x.length ≤ 20
  | [], _ => ⟨rfl, fun _ m => (nomatch m)⟩
  | d :: ds, h => by
    obtain ⟨h1, h2⟩ := nm_map ds fun n m => h n (List.mem_cons_of_mem _ m)
    obtain ⟨x, rfl, hx⟩ := h d List.mem_cons_self
    refine ⟨?_, fun y m => ?_⟩
    · rw [List.map_cons, List.map_cons, ← h1]
      rfl
    · rcases List.mem_cons.mp m with z | z
      · rw [z]; exact hx
      · exact h2 y z
theorem take_map {α : Type} (f : D → α) (ds : List D) (j : Nat) (d : D) (h : ds[j]? = some d) : ((ds.take (j + 1)).map f) = (ds.take j).map f ++ [f d] := by
  rw [List.take_succ, h, List.map_append]
  rfl
def BB (k : Nat) : Nat := 130 * 6 ^ k
theorem join5 (xs : List Str) (B : Nat) (h : xs.length ≤ 5) (hB : ∀ x ∈ xs, x.length ≤ B) : (xs.map (·.length)).sum + xs.length * Str.length " " ≤ 5 * B + 5 ∧ (Txt.join " " xs).length ≤ 5 * B + 5 := by
  have e1 : Str.length " " = 1 := by decide
  have h1 := join_le " " xs
  have h2 := sum_le (·.length) B xs hB
  have h3 : xs.length * B ≤ 5 * B := Nat.mul_le_mul_right _ h
  rw [e1] at h1 ⊢
  constructor <;> omega
theorem shT_le : ∀ (k : Nat) (d : D), ShapeD k d → ∀ f, k < f → (shT f d).length ≤ BB k
  | k, _, .post (n := n) ⟨x, e, h⟩, f + 1, _ => by
    subst e
    have : x.length ≤ BB k := Nat.le_trans h (by unfold BB; have := Nat.pow_pos (n := k) (show 0 < 6 by decide); omega)
    exact this
  | k, _, .free (ds := ds) h h2, f + 1, _ => by
    obtain ⟨h3, h4⟩ := nm_map ds h2
    have := (join5 (ds.map strOf) 20 (by rw [List.length_map]; exact h) h4).2
    show (if ("free" : Str) = "free" then _ else _ : Str).length ≤ _
    rw [if_pos rfl, Str.length_append, Str.length_append]
    have e1 : Str.length "<" = 1 := by decide
    have e2 : Str.length ">" = 1 := by decide
    have : 130 ≤ BB k := by unfold BB; have := Nat.pow_pos (n := k) (show 0 < 6 by decide); omega
    omega
  | k + 1, _, .fork (ds := ds) h h2, f + 1, hf => by
    have hB : ∀ x ∈ ds.map (shT f), x.length ≤ BB k := fun x m => by
      obtain ⟨d, hd, rfl⟩ := List.mem_map.mp m
      exact shT_le k d (h2 d hd) f (by omega)
    have := (join5 (ds.map (shT f)) (BB k) (by rw [List.length_map]; exact h) hB).2
    show (if ("fork" : Str) = "free" then _ else if ("fork" : Str) = "row" then _ else _ : Str).length ≤ _
    rw [if_neg (by decide), if_neg (by decide), Str.length_append, Str.length_append]
    have e1 : Str.length "{" = 1 := by decide
    have e2 : Str.length "}" = 1 := by decide
    have : 130 ≤ BB k := by unfold BB; have := Nat.pow_pos (n := k) (show 0 < 6 by decide); omega
    have : BB (k + 1) = BB k * 6 := by unfold BB; rw [Nat.pow_succ]; omega
    omega
  | k + 1, _, .row (ds := ds) h h2, f + 1, hf => by
    have hB : ∀ x ∈ ds.map (shT f), x.length ≤ BB k := fun x m => by
      obtain ⟨d, hd, rfl⟩ := List.mem_map.mp m
      exact shT_le k d (h2 d hd) f (by omega)
    have := (join5 (ds.map (shT f)) (BB k) (by rw [List.length_map]; exact h) hB).2
    show (if ("row" : Str) = "free" then _ else if ("row" : Str) = "row" then _ else _ : Str).length ≤ _
    rw [if_neg (by decide), if_pos rfl, Str.length_append, Str.length_append]
    have e1 : Str.length "(" = 1 := by decide
    have e2 : Str.length ")" = 1 := by decide
    have : 130 ≤ BB k := by unfold BB; have := Nat.pow_pos (n := k) (show 0 < 6 by decide); omega
    have : BB (k + 1) = BB k * 6 := by unfold BB; rw [Nat.pow_succ]; omega
    omega
theorem show_shape_ok : ∀ (f k : Nat) (d : D), k < f → k ≤ 3 → ShapeD k d → ∀ {Q : T → En → Prop}, Q (.val (.str (shT f d))) [some (.val d)] → @Ok _ (F_show_shape f [.val d]) ⟨Q⟩
  | 0, _, _, h, _, _, _, _ => by omega
  | f + 1, k, d, hf, hk, hS, Q, q => by
    show @Ok _ (runDef 5 1 [0] (m_show_shape (F_show_shape f)) _) ⟨Q⟩
    unfold m_show_shape
    have sp : Str.length " " = 1 := by decide
    have big : BB 3 ≤ 100000 := by decide
    have mono : ∀ j, j ≤ 3 → BB j ≤ BB 3 := fun j hj => by
      unfold BB
      exact Nat.mul_le_mul_left _ (Nat.pow_le_pow_right (by decide) hj)
    have l1 : Str.length "(" = 1 := by decide
    have l2 : Str.length ")" = 1 := by decide
    have l3 : Str.length "{" = 1 := by decide
    have l4 : Str.length "}" = 1 := by decide
    have l5 : Str.length "<" = 1 := by decide
    have l6 : Str.length ">" = 1 := by decide
    cases hS with
    | post h =>
      obtain ⟨x, rfl, hx⟩ := h
      walk_at "wp"
      exact q
    | free h h2 =>
      rename_i ds
      obtain ⟨h3, h4⟩ := nm_map ds h2
      have j5 := join5 (ds.map strOf) 20 (by rw [List.length_map]; exact h) h4
      walk_at "wp"
      rw [ne1]
      walk_at "wp"
      rw [Ok_gdx]
      walk_at "wp"
      rw [g_free]
      walk_at "wp"
      rw [b_20]
      walk_at "wp"
      have h3' : fJoin [.str " ", .lst ds] = fJoin [.str " ", .lst ((ds.map strOf).map D.str)] := by rw [← h3]
      rw [h3']
      walk_at "wp"
      refine Nd_mk (by omega) ?_
      walk_at "wp"
      refine Nd_mk (by omega) ?_
      walk_at "wp"
      rw [Ok_gdx]
      walk_at "wp"
      rw [g_free]
      walk_at "wp"
      rw [b_21]
      walk_at "wp"
      refine Nd_mk (by rw [Str.length_append]; omega) ?_
      walk_at "wp"
      exact q
    | fork h h2 =>
      rename_i k' ds
      have hB : ∀ x ∈ ds.map (shT f), x.length ≤ BB k' := fun x m => by
        obtain ⟨d, hd, rfl⟩ := List.mem_map.mp m
        exact shT_le k' d (h2 d hd) f (by omega)
      have j5 := join5 (ds.map (shT f)) (BB k') (by rw [List.length_map]; exact h) hB
      have := mono k' (by omega)
      walk_at "wp"
      rw [ne3]
      walk_at "wp"
      rw [ne5]
      walk_at "wp"
      refine Nd_mk (by omega) ?_
      walk_at "wp"
      refine lcL_ok0 (fun j us e => e = [some (.val (.tup [.str "fork", .tup ds])), some (.val (.str "fork")), some (.val (.tup ds)), some (.lst (ds.map T.val)), none] ∧ us = (((ds.take j).map (shT f)).map D.str).map T.val) ⟨rfl, rfl⟩ ?_ ?_
      · rintro j d us e hj ⟨rfl, rfl⟩
        refine ⟨by rfl, ?_⟩
        walk_at "wp"
        refine show_shape_ok f k' d (by omega) (by omega) (h2 d (List.mem_of_getElem? hj)) ?_
        walk_at "wp"
        rw [take_map _ _ _ _ hj, List.map_append, List.map_append]
        rfl
      · rintro us e ⟨rfl, rfl⟩
        refine ⟨by rfl, ?_⟩
        rw [List.take_length]
        walk_at "wp"
        rw [Ok_gdx]
        walk_at "wp"
        rw [g_fork]
        walk_at "wp"
        rw [b_10]
        walk_at "wp"
        refine Nd_mk (by omega) ?_
        walk_at "wp"
        refine Nd_mk (by omega) ?_
        walk_at "wp"
        rw [Ok_gdx]
        walk_at "wp"
        rw [g_fork]
        walk_at "wp"
        rw [b_11]
        walk_at "wp"
        refine Nd_mk (by rw [Str.length_append]; omega) ?_
        walk_at "wp"
        exact q
    | row h h2 =>
      rename_i k' ds
      have hB : ∀ x ∈ ds.map (shT f), x.length ≤ BB k' := fun x m => by
        obtain ⟨d, hd, rfl⟩ := List.mem_map.mp m
        exact shT_le k' d (h2 d hd) f (by omega)
      have j5 := join5 (ds.map (shT f)) (BB k') (by rw [List.length_map]; exact h) hB
      have := mono k' (by omega)
      walk_at "wp"
      rw [ne2]
      walk_at "wp"
      rw [ne4]
      walk_at "wp"
      refine Nd_mk (by omega) ?_
      walk_at "wp"
      refine lcL_ok0 (fun j us e => e = [some (.val (.tup [.str "row", .tup ds])), some (.val (.str "row")), some (.val (.tup ds)), some (.lst (ds.map T.val)), none] ∧ us = (((ds.take j).map (shT f)).map D.str).map T.val) ⟨rfl, rfl⟩ ?_ ?_
      · rintro j d us e hj ⟨rfl, rfl⟩
        refine ⟨by rfl, ?_⟩
        walk_at "wp"
        refine show_shape_ok f k' d (by omega) (by omega) (h2 d (List.mem_of_getElem? hj)) ?_
        walk_at "wp"
        rw [take_map _ _ _ _ hj, List.map_append, List.map_append]
        rfl
      · rintro us e ⟨rfl, rfl⟩
        refine ⟨by rfl, ?_⟩
        rw [List.take_length]
        walk_at "wp"
        rw [Ok_gdx]
        walk_at "wp"
        rw [g_row]
        walk_at "wp"
        rw [b_00]
        walk_at "wp"
        refine Nd_mk (by omega) ?_
        walk_at "wp"
        refine Nd_mk (by omega) ?_
        walk_at "wp"
        rw [Ok_gdx]
        walk_at "wp"
        rw [g_row]
        walk_at "wp"
        rw [b_01]
        walk_at "wp"
        refine Nd_mk (by rw [Str.length_append]; omega) ?_
        walk_at "wp"
        exact q
theorem disp_ok {e : En} {Q : T → En → Prop} : @Ok _ (mDisp [.ex (ret (.val (.str "row"))), .ex (mTup [.ex (ret (.val (.str "("))), .ex (ret (.val (.str ")")))]), .ex (ret (.val (.str "fork"))), .ex (mTup [.ex (ret (.val (.str "{"))), .ex (ret (.val (.str "}")))]), .ex (ret (.val (.str "free"))), .ex (mTup [.ex (ret (.val (.str "<"))), .ex (ret (.val (.str ">")))])] e) ⟨Q⟩ = Q (.dic [.inr "row", .inr "fork", .inr "free"] [.val (.tup [.str "(", .str ")"]), .val (.tup [.str "{", .str "}"]), .val (.tup [.str "<", .str ">"])]) e := rfl
theorem d_row : fDx [.dic [.inr "row", .inr "fork", .inr "free"] [.tup [.str "(", .str ")"], .tup [.str "{", .str "}"], .tup [.str "<", .str ">"]], .str "row"] = some (.val (.tup [.str "(", .str ")"])) := rfl
theorem d_fork : fDx [.dic [.inr "row", .inr "fork", .inr "free"] [.tup [.str "(", .str ")"], .tup [.str "{", .str "}"], .tup [.str "<", .str ">"]], .str "fork"] = some (.val (.tup [.str "{", .str "}"])) := rfl
theorem d_free : fDx [.dic [.inr "row", .inr "fork", .inr "free"] [.tup [.str "(", .str ")"], .tup [.str "{", .str "}"], .tup [.str "<", .str ">"]], .str "free"] = some (.val (.tup [.str "<", .str ">"])) := rfl
theorem law_shape_ok : ∀ (f k : Nat) (d : D), k < f → k ≤ 3 → ShapeD k d → ∀ {Q : T → En → Prop}, Q (.val (.str (shT f d))) [some (.val d)] → @Ok _ (F__law_shape_text f [.val d]) ⟨Q⟩
  | 0, _, _, h, _, _, _, _ => by omega
  | f + 1, k, d, hf, hk, hS, Q, q => by
    show @Ok _ (runDef 7 1 [0] (m__law_shape_text (F__law_shape_text f)) _) ⟨Q⟩
    unfold m__law_shape_text
    have sp : Str.length " " = 1 := by decide
    have big : BB 3 ≤ 100000 := by decide
    have mono : ∀ j, j ≤ 3 → BB j ≤ BB 3 := fun j hj => by
      unfold BB
      exact Nat.mul_le_mul_left _ (Nat.pow_le_pow_right (by decide) hj)
    have l1 : Str.length "(" = 1 := by decide
    have l2 : Str.length ")" = 1 := by decide
    have l3 : Str.length "{" = 1 := by decide
    have l4 : Str.length "}" = 1 := by decide
    have l5 : Str.length "<" = 1 := by decide
    have l6 : Str.length ">" = 1 := by decide
    cases hS with
    | post h =>
      obtain ⟨x, rfl, hx⟩ := h
      walk_at "wp"
      exact q
    | free h h2 =>
      rename_i ds
      obtain ⟨h3, h4⟩ := nm_map ds h2
      have j5 := join5 (ds.map strOf) 20 (by rw [List.length_map]; exact h) h4
      walk_at "wp"
      rw [ne1]
      walk_at "wp"
      rw [disp_ok]
      walk_at "wp"
      rw [d_free]
      walk_at "wp"
      have h3' : fJoin [.str " ", .lst ds] = fJoin [.str " ", .lst ((ds.map strOf).map D.str)] := by rw [← h3]
      rw [h3']
      walk_at "wp"
      refine Nd_mk (by omega) ?_
      walk_at "wp"
      refine Nd_mk (by omega) ?_
      walk_at "wp"
      refine Nd_mk (by rw [Str.length_append]; omega) ?_
      walk_at "wp"
      exact q
    | fork h h2 =>
      rename_i k' ds
      have hB : ∀ x ∈ ds.map (shT f), x.length ≤ BB k' := fun x m => by
        obtain ⟨d, hd, rfl⟩ := List.mem_map.mp m
        exact shT_le k' d (h2 d hd) f (by omega)
      have j5 := join5 (ds.map (shT f)) (BB k') (by rw [List.length_map]; exact h) hB
      have := mono k' (by omega)
      walk_at "wp"
      rw [ne3]
      walk_at "wp"
      rw [ne5]
      walk_at "wp"
      refine Nd_mk (by omega) ?_
      walk_at "wp"
      refine lcL_ok0 (fun j us e => e = [some (.val (.tup [.str "fork", .tup ds])), some (.val (.str "fork")), some (.val (.tup ds)), some (.lst (ds.map T.val)), none, none, none] ∧ us = (((ds.take j).map (shT f)).map D.str).map T.val) ⟨rfl, rfl⟩ ?_ ?_
      · rintro j d us e hj ⟨rfl, rfl⟩
        refine ⟨by rfl, ?_⟩
        walk_at "wp"
        refine law_shape_ok f k' d (by omega) (by omega) (h2 d (List.mem_of_getElem? hj)) ?_
        walk_at "wp"
        rw [take_map _ _ _ _ hj, List.map_append, List.map_append]
        rfl
      · rintro us e ⟨rfl, rfl⟩
        refine ⟨by rfl, ?_⟩
        rw [List.take_length]
        walk_at "wp"
        rw [disp_ok]
        walk_at "wp"
        rw [d_fork]
        walk_at "wp"
        refine Nd_mk (by omega) ?_
        walk_at "wp"
        refine Nd_mk (by omega) ?_
        walk_at "wp"
        refine Nd_mk (by rw [Str.length_append]; omega) ?_
        walk_at "wp"
        exact q
    | row h h2 =>
      rename_i k' ds
      have hB : ∀ x ∈ ds.map (shT f), x.length ≤ BB k' := fun x m => by
        obtain ⟨d, hd, rfl⟩ := List.mem_map.mp m
        exact shT_le k' d (h2 d hd) f (by omega)
      have j5 := join5 (ds.map (shT f)) (BB k') (by rw [List.length_map]; exact h) hB
      have := mono k' (by omega)
      walk_at "wp"
      rw [ne2]
      walk_at "wp"
      rw [ne4]
      walk_at "wp"
      refine Nd_mk (by omega) ?_
      walk_at "wp"
      refine lcL_ok0 (fun j us e => e = [some (.val (.tup [.str "row", .tup ds])), some (.val (.str "row")), some (.val (.tup ds)), some (.lst (ds.map T.val)), none, none, none] ∧ us = (((ds.take j).map (shT f)).map D.str).map T.val) ⟨rfl, rfl⟩ ?_ ?_
      · rintro j d us e hj ⟨rfl, rfl⟩
        refine ⟨by rfl, ?_⟩
        walk_at "wp"
        refine law_shape_ok f k' d (by omega) (by omega) (h2 d (List.mem_of_getElem? hj)) ?_
        walk_at "wp"
        rw [take_map _ _ _ _ hj, List.map_append, List.map_append]
        rfl
      · rintro us e ⟨rfl, rfl⟩
        refine ⟨by rfl, ?_⟩
        rw [List.take_length]
        walk_at "wp"
        rw [disp_ok]
        walk_at "wp"
        rw [d_row]
        walk_at "wp"
        refine Nd_mk (by omega) ?_
        walk_at "wp"
        refine Nd_mk (by omega) ?_
        walk_at "wp"
        refine Nd_mk (by rw [Str.length_append]; omega) ?_
        walk_at "wp"
        exact q
end My

set_option Elab.async false
set_option linter.all false
set_option maxRecDepth 100000
set_option maxHeartbeats 200000
namespace My
open PySem PySem.Spec L2 Pf
local macro_rules | `(tactic| walk_at "wp") => `(tactic| simp -dsimp -implicitDefEqProofs only [↓Ok_runDef, ↓Ok_seq, ↓Ok_asg, ↓Ok_mRet, ↓Ok_mRetN, ↓Ok_drop, ↓Ok_ifS, ↓Ok_mIf, ↓Ok_and, ↓Ok_or, ↓Ok_not, ↓Ok_tr, ↓Ok_mB, ↓Ok_ap, ↓Ok_args_nil, ↓Ok_args_ex, ↓Ok_args_nm, ↓Ok_has, ↓Ok_get, ↓Ok_mv, ↓Ok_cp, ↓Ok_tup, ↓Ok_lst, ↓Ok_call, ↓Ok_gN, ↓Ok_gNil, ↓Ok_gCons, ↓Ok_gT, ↓Ok_asgG, ↓Ok_chk, ↓Ok_rng1, ↓Ok_rng2, ↓Ok_seq_nm, ↓Ok_seq_ex, ↓Ok_for, ↓Ok_lc, ↓Ok_m1, ↓Ok_part_no, ↓Ok_part_so, ↓Ok_ap3, ↓Ok_sl_ex, ↓Ok_sl_nm, ↓Ok_setIx, ↓setIx_at, ↓Ok_bnd, ↓Ok_ret, ↓Ok_ok, ↓Ok_nx, ↓Ok_app, ↓AppE_lst, ↓Ok_fail, ↓Ok_bad,
  ↓Go_nx, ↓Go_ret, ↓Go_bk, ↓Go_ct, ↓Lp_nx, ↓Lp_ct, ↓Lp_bk, ↓Lp_ret, ↓FinK_ret, ↓FinK_nx, ↓AsgK_val, ↓R1K_int, ↓R2K_int, ↓SetK_lst, ↓Got3_one, Br_t, Br_f, Nd_t, Got_some, Got_none, Got_if, GotL_some, GotS_some, GotN_some,
  asB_bl, peeks_nil, peeks_cons, peek_val, peek_lst, peek_dic, peek_dit, vals_nil, vals_cons, vals_map, toDs_nil', toDs_cons', toD_val', toD_lst', toDs_map', noDup_nm, noDup_ex, noDup_nil, nmIn_nil, nmIn_nm, nmIn_ex, isVal_val, isVal_lst, isVal_dic, putO_nil, putO_cons, pick_some, pick_none, tgt_nm, tgt_ex, tgt_nil, outs_zero, outs_succ, items_tup, items_vlst, items_rol, items_lst, isS_str2, asI_int, okv_nil, okv_cons, okSlot_none, okSlot_some, wipeE_nil, wipeE_cons, backE_nil, backE_cons, rangeD_len, isLst_lst, fJoin_lst, fJoin_tup, fSl_str, fSl_tup, fSl_lst, Option.getD_some, Option.getD_none, Int.reduceToNat, Nat.reduceLeDiff,
  fAdd_int, fAdd_str, fAdd_tup, fAdd_lst, fII_int, fII0_int, cMul_r, fEq_int, fEq_str, fNe_int, fNe_str, fIx_lst, fIx_rol, fIx_tup, fLen_lst, fLen_rol, fLen_tup, fAbs_int, fMax2_int, fMin2_int, fTuple_lst, fTuple_tup, fList_lst, fList_tup, atI_0, atI_1, atI_2, atI_3, atI_4, atI_5, ixN_0, ixN_1,
  List.getElem?_cons_zero, List.getElem?_cons_succ, List.set_cons_zero, List.set_cons_succ, List.map_cons, List.map_nil, List.cons_append, List.nil_append, List.replicate_succ, List.replicate_zero, Option.map_some, Option.map_none, Option.bind_some, Option.bind_none, List.length_cons, List.length_nil, List.getD_cons_zero, List.getD_cons_succ, List.contains_cons, List.contains_nil, Nat.reduceAdd, Nat.reduceSub, Nat.reduceBEq, Nat.reduceEqDiff, Bool.true_and, Bool.and_true, Bool.or_true, Bool.true_or, Bool.or_false, Bool.false_or, Bool.not_true, Bool.not_false, Bool.false_and, Bool.and_false, Int.reduceLT, Int.reduceLE, Int.reduceNeg, Int.reducePow, decide_true, decide_false, and_self, and_true, true_and, if_true, if_false, reduceIte, reduceCtorEq, and_false, false_and, Int.reduceEq, eq_self, Bool.false_eq_true, Bool.true_eq_false, List.getElem?_nil, beq_self_eq_true])
local macro_rules | `(tactic| walk_at "nd") => `(tactic| (refine Nd_mk (by first | exact rfl | (simp only [Bool.or_eq_true, Bool.and_eq_true, decide_eq_true_eq]; omega)) ?_; walk_at "wp"))

def txI (i : Int) : Str := Str.ofString (toString i)
def dig (m : Nat) : Str := ⟨#[(Nat.digitChar m).toNat]⟩
theorem str_ext {a b : Str} (h : a.cps.toList = b.cps.toList) : a = b := by
  cases a with
  | mk x => cases b with
    | mk y => exact congrArg Str.mk (Array.toList_inj.mp h)
theorem app_cps (a b : Str) : (a ++ b).cps.toList = a.cps.toList ++ b.cps.toList := by
  rw [Str.cps_append, Array.toList_append]
theorem txN_list (m : Nat) : (txI (m : Int)).cps.toList = (Nat.toDigits 10 m).map Char.toNat := by
  unfold txI
  rw [Str.ofString_eq_toList]
  show (Nat.repr m).toList.map Char.toNat = _
  rw [Nat.toList_repr]
theorem txN_lt (m : Nat) (h : m < 10) : txI (m : Int) = dig m := by
  apply str_ext
  rw [txN_list, Nat.toDigits_of_lt_base h]
  rfl
theorem txN_ge (m : Nat) (h : 10 ≤ m) : txI (m : Int) = txI ((m / 10 : Nat) : Int) ++ dig (m % 10) := by
  apply str_ext
  rw [app_cps, txN_list, txN_list, Nat.toDigits_of_base_le (by decide) h, List.map_append]
  rfl
theorem tx_neg (m : Nat) : txI (-((m + 1 : Nat) : Int)) = "-" ++ txI ((m + 1 : Nat) : Int) := by
  apply str_ext
  rw [app_cps, txN_list]
  unfold txI
  rw [Str.ofString_eq_toList]
  show (("-" ++ Nat.repr (m + 1)).toList.map Char.toNat) = _
  rw [String.toList_append, List.map_append, Nat.toList_repr]
  rfl
theorem dig_ix (d : Int) (h : 0 ≤ d) (h2 : d < 10) : fIx [.str "0123456789", .int d] = some (.val (.str (dig d.toNat))) := by
  rcases (show d = 0 ∨ d = 1 ∨ d = 2 ∨ d = 3 ∨ d = 4 ∨ d = 5 ∨ d = 6 ∨ d = 7 ∨ d = 8 ∨ d = 9 by omega) with rfl | rfl | rfl | rfl | rfl | rfl | rfl | rfl | rfl | rfl <;> rfl
theorem dig_len (m : Nat) : (dig m).length = 1 := rfl
def full (L : Nat) (X : Str) : Str := if L = 0 then X else txI (L : Int) ++ X
theorem app_assoc (a b c : Str) : a ++ b ++ c = a ++ (b ++ c) := by
  apply str_ext
  rw [app_cps, app_cps, app_cps, app_cps, List.append_assoc]
theorem full_step (L : Nat) (X : Str) (h : 0 < L) : full (L / 10) (dig (L % 10) ++ X) = full L X := by
  unfold full
  rw [if_neg (show ¬ L = 0 by omega)]
  by_cases h10 : L < 10
  · rw [if_pos (by omega), txN_lt L h10, Nat.mod_eq_of_lt h10]
  · rw [if_neg (by omega), txN_ge L (by omega), app_assoc]
theorem full_0 (m : Nat) : full (m / 10) (dig (m % 10)) = txI (m : Int) := by
  unfold full
  by_cases h10 : m < 10
  · rw [if_pos (by omega), txN_lt m h10, Nat.mod_eq_of_lt h10]
  · rw [if_neg (by omega), txN_ge m (by omega)]
theorem figures_ok (n : Int) (hn : Num n) {Q : T → En → Prop} (q : (txI n).length ≤ 40 → Q (.val (.str (txI n))) [some (.val (.int n))]) : @Ok _ (F__law_figures [.val (.int n)]) ⟨Q⟩ := by
  unfold F__law_figures m__law_figures
  have hNN : NN = 1000000000000000000000000000000 := rfl
  obtain ⟨u, v⟩ := hn
  have habs : (if n < 0 then -n else n) = ((n.natAbs : Nat) : Int) := by split <;> omega
  have hb : n.natAbs < 10 ^ 30 := by
    have : (10 : Nat) ^ 30 = 1000000000000000000000000000000 := by decide +kernel
    omega
  have hminus : Str.length "-" = 1 := by decide
  walk_at "wp"
  rw [habs]
  generalize hm : n.natAbs = m at *
  rw [dig_ix _ (by omega) (by omega)]
  walk_at "wp"
  rw [show ((m : Int) % 10).toNat = m % 10 by omega, show (m : Int) / 10 = ((m / 10 : Nat) : Int) by omega]
  refine forL_ok0 (fun j e => ∃ (L : Nat) (X : Str) (x3 : Option T), e = [some (.val (.int n)), some (.val (.int (L : Int))), some (.val (.str X)), x3] ∧ full L X = txI (m : Int) ∧ L < 10 ^ (29 - j) ∧ X.length ≤ j + 1) ⟨m / 10, _, _, rfl, full_0 m, by
    have : (10 : Nat) ^ 30 = 10 ^ 29 * 10 := Nat.pow_succ 10 29
    show m / 10 < 10 ^ 29
    omega, by rw [dig_len]; omega⟩ ?_ ?_
  · rintro j d e hj ⟨L, X, x3, rfl, hF, hL, hX⟩
    obtain ⟨hj2, rfl⟩ := rangeD_at hj
    refine ⟨trivial, ?_⟩
    have hL2 : L / 10 < 10 ^ (29 - (j + 1)) := by
      by_cases h : j < 29
      · have e : 29 - j = (29 - (j + 1)) + 1 := by omega
        rw [e, Nat.pow_succ] at hL
        omega
      · have e : 29 - j = 0 := by omega
        have e2 : 29 - (j + 1) = 0 := by omega
        rw [e] at hL
        rw [e2]
        have : (10 : Nat) ^ 0 = 1 := rfl
        omega
    walk_at "wp"
    refine Br_intro (fun g => ?_) (fun g => ?_)
    · walk_at "wp"
      rw [dig_ix _ (by omega) (by omega)]
      walk_at "wp"
      refine Nd_mk (by rw [dig_len]; omega) ?_
      walk_at "wp"
      have g := of_decide_eq_true g
      refine ⟨L / 10, _, _, rfl, ?_, hL2, ?_⟩
      · rw [show ((L : Int) % 10).toNat = L % 10 by omega, full_step L X (by omega)]
        exact hF
      · rw [Str.length_append, dig_len]
        omega
    · walk_at "wp"
      have g := of_decide_eq_false g
      have : L = 0 := by omega
      subst this
      exact ⟨0, _, _, rfl, hF, by have := Nat.pow_pos (n := 29 - (j + 1)) (show 0 < 10 by decide); omega, by omega⟩
  · rintro e ⟨L, X, x3, rfl, hF, hL, hX⟩
    rw [rangeD_len] at hL hX
    have : L = 0 := by
      have : (10 : Nat) ^ (29 - Int.toNat 30) = 1 := rfl
      omega
    subst this
    have hF : X = txI (m : Int) := hF
    have hX : X.length ≤ 31 := hX
    refine ⟨trivial, ?_⟩
    walk_at "wp"
    refine Br_intro (fun g => ?_) (fun g => ?_)
    · walk_at "wp"
      refine Nd_mk (by omega) ?_
      walk_at "wp"
      have g := of_decide_eq_true g
      obtain ⟨m', rfl⟩ : ∃ m', m = m' + 1 := ⟨m - 1, by omega⟩
      have en : n = -((m' + 1 : Nat) : Int) := by omega
      have et : txI n = "-" ++ X := by rw [en, tx_neg, hF]
      rw [← et]
      exact q (by rw [et, Str.length_append]; omega)
    · walk_at "wp"
      have g := of_decide_eq_false g
      have en : (m : Int) = n := by omega
      rw [en] at hF
      rw [hF]
      exact q (by rw [← hF]; omega)
end My

set_option Elab.async false
set_option linter.all false
set_option maxRecDepth 100000
set_option maxHeartbeats 200000
namespace My
open PySem PySem.Spec L2 Pf
local macro_rules | `(tactic| walk_at "wp") => `(tactic| simp -dsimp -implicitDefEqProofs only [↓Ok_runDef, ↓Ok_seq, ↓Ok_asg, ↓Ok_mRet, ↓Ok_mRetN, ↓Ok_drop, ↓Ok_ifS, ↓Ok_mIf, ↓Ok_and, ↓Ok_or, ↓Ok_not, ↓Ok_tr, ↓Ok_mB, ↓Ok_ap, ↓Ok_args_nil, ↓Ok_args_ex, ↓Ok_args_nm, ↓Ok_has, ↓Ok_get, ↓Ok_mv, ↓Ok_cp, ↓Ok_tup, ↓Ok_lst, ↓Ok_call, ↓Ok_gN, ↓Ok_gNil, ↓Ok_gCons, ↓Ok_gT, ↓Ok_asgG, ↓Ok_chk, ↓Ok_rng1, ↓Ok_rng2, ↓Ok_seq_nm, ↓Ok_seq_ex, ↓Ok_for, ↓Ok_lc, ↓Ok_m1, ↓Ok_part_no, ↓Ok_part_so, ↓Ok_ap3, ↓Ok_sl_ex, ↓Ok_sl_nm, ↓Ok_setIx, ↓setIx_at, ↓Ok_bnd, ↓Ok_ret, ↓Ok_ok, ↓Ok_nx, ↓Ok_app, ↓AppE_lst, ↓Ok_fail, ↓Ok_bad,
  ↓Go_nx, ↓Go_ret, ↓Go_bk, ↓Go_ct, ↓Lp_nx, ↓Lp_ct, ↓Lp_bk, ↓Lp_ret, ↓FinK_ret, ↓FinK_nx, ↓AsgK_val, ↓R1K_int, ↓R2K_int, ↓SetK_lst, ↓Got3_one, Br_t, Br_f, Nd_t, Got_some, Got_none, Got_if, GotL_some, GotS_some, GotN_some,
  asB_bl, peeks_nil, peeks_cons, peek_val, peek_lst, peek_dic, peek_dit, vals_nil, vals_cons, vals_map, toDs_nil', toDs_cons', toD_val', toD_lst', toDs_map', noDup_nm, noDup_ex, noDup_nil, nmIn_nil, nmIn_nm, nmIn_ex, isVal_val, isVal_lst, isVal_dic, putO_nil, putO_cons, pick_some, pick_none, tgt_nm, tgt_ex, tgt_nil, outs_zero, outs_succ, items_tup, items_vlst, items_rol, items_lst, isS_str2, asI_int, okv_nil, okv_cons, okSlot_none, okSlot_some, wipeE_nil, wipeE_cons, backE_nil, backE_cons, rangeD_len, isLst_lst, fJoin_lst, fJoin_tup, fSl_str, fSl_tup, fSl_lst, Option.getD_some, Option.getD_none, Int.reduceToNat, Nat.reduceLeDiff,
  fAdd_int, fAdd_str, fAdd_tup, fAdd_lst, fII_int, fII0_int, cMul_r, fEq_int, fEq_str, fNe_int, fNe_str, fIx_lst, fIx_rol, fIx_tup, fLen_lst, fLen_rol, fLen_tup, fAbs_int, fMax2_int, fMin2_int, fTuple_lst, fTuple_tup, fList_lst, fList_tup, atI_0, atI_1, atI_2, atI_3, atI_4, atI_5, ixN_0, ixN_1,
  List.getElem?_cons_zero, List.getElem?_cons_succ, List.set_cons_zero, List.set_cons_succ, List.map_cons, List.map_nil, List.cons_append, List.nil_append, List.replicate_succ, List.replicate_zero, Option.map_some, Option.map_none, Option.bind_some, Option.bind_none, List.length_cons, List.length_nil, List.getD_cons_zero, List.getD_cons_succ, List.contains_cons, List.contains_nil, Nat.reduceAdd, Nat.reduceSub, Nat.reduceBEq, Nat.reduceEqDiff, Bool.true_and, Bool.and_true, Bool.or_true, Bool.true_or, Bool.or_false, Bool.false_or, Bool.not_true, Bool.not_false, Bool.false_and, Bool.and_false, Int.reduceLT, Int.reduceLE, Int.reduceNeg, Int.reducePow, decide_true, decide_false, and_self, and_true, true_and, if_true, if_false, reduceIte, reduceCtorEq, and_false, false_and, Int.reduceEq, eq_self, Bool.false_eq_true, Bool.true_eq_false, List.getElem?_nil, beq_self_eq_true])
local macro_rules | `(tactic| walk_at "nd") => `(tactic| (refine Nd_mk (by first | exact rfl | (simp only [Bool.or_eq_true, Bool.and_eq_true, decide_eq_true_eq]; omega)) ?_; walk_at "wp"))

theorem isi_str {x : Str} : fIsi [.str x, .ty "str"] = some (.val (.bl true)) := rfl
theorem isi_int {x : Int} : fIsi [.int x, .ty "str"] = some (.val (.bl false)) := rfl
theorem isN_non : fIsN [.non, .non] = some (.val (.bl true)) := rfl
theorem isN_str {x : Str} : fIsN [.str x, .non] = some (.val (.bl false)) := rfl
theorem isN_int {x : Int} : fIsN [.int x, .non] = some (.val (.bl false)) := rfl
def partS : D → Str
  | .non => "-"
  | .str x => x
  | .int n => txI n
  | _ => ""
theorem partS_len {d : D} (h : PartD d) : (partS d).length ≤ 40 := by
  cases h with
  | non => decide
  | str h => exact Nat.le_trans h (by decide)
  | int h =>
    rename_i n
    have := figures_ok n h (Q := fun t e => (txI n).length ≤ 40) (fun h => h)
    obtain ⟨_, _, _, h⟩ := Ok.ex this
    exact h
theorem show_number_ok (n : Int) (hn : Num n) {Q : T → En → Prop} (q : ∀ o, Q (.val (.str (txI n))) o) : @Ok _ (F_show_number [.val (.int n)]) ⟨Q⟩ := by
  unfold F_show_number m_show_number
  have hNN : NN = 1000000000000000000000000000000 := rfl
  obtain ⟨u, v⟩ := hn
  have hs : fStr [.int n] = some (.val (.str (txI n))) := by
    show (if n.natAbs < 2 ^ 1000 then _ else _) = _
    have : (1000000000000000000000000000000 : Nat) < 2 ^ 1000 := by decide +kernel
    rw [if_pos (by omega)]
    rfl
  walk_at "wp"
  rw [hs]
  walk_at "wp"
  exact q _
theorem show_part_ok (d : D) (h : PartD d) {Q : T → En → Prop} (q : ∀ o, Q (.val (.str (partS d))) o) : @Ok _ (F_show_part [.val d]) ⟨Q⟩ := by
  unfold F_show_part m_show_part tyE
  cases h with
  | non =>
    walk_at "wp"
    rw [isN_non]
    walk_at "wp"
    exact q _
  | str h =>
    walk_at "wp"
    rw [isN_str]
    walk_at "wp"
    rw [isi_str]
    walk_at "wp"
    exact q _
  | int h =>
    walk_at "wp"
    rw [isN_int]
    walk_at "wp"
    rw [isi_int]
    walk_at "wp"
    exact show_number_ok _ h fun o => q _
theorem BB2 : BB 2 = 4680 := by decide
theorem show_course_page {n s f h : D} (hn : Nm n) (hs : Nm s) (hf : Nm f) (hh : ShapeD 2 h) {Q : T → En → Prop} (q : ∀ o, Q (.val (.str ("course" ++ " " ++ strOf n ++ " " ++ (strOf s ++ " " ++ shT 9 h ++ " " ++ strOf f)))) o) : @Ok _ (F_show_page [.val (.tup [.str "course", n, .tup [s, h, f]])]) ⟨Q⟩ := by
  obtain ⟨n, rfl, hn⟩ := hn
  obtain ⟨s, rfl, hs⟩ := hs
  obtain ⟨f, rfl, hf⟩ := hf
  have hl := shT_le 2 h hh 9 (by decide)
  rw [BB2] at hl
  have sp : Str.length " " = 1 := by decide
  have lc : Str.length "course" = 6 := by decide
  unfold F_show_page m_show_page
  walk_at "wp"
  refine Nd_mk (by omega) ?_
  walk_at "wp"
  refine Nd_mk (by rw [Str.length_append]; omega) ?_
  walk_at "wp"
  refine Nd_mk (by rw [Str.length_append, Str.length_append]; omega) ?_
  walk_at "wp"
  unfold F_show_course m_show_course
  walk_at "wp"
  refine Nd_mk (by omega) ?_
  walk_at "wp"
  refine show_shape_ok 9 2 h (by decide) (by decide) hh ?_
  walk_at "wp"
  refine Nd_mk (by rw [Str.length_append]; omega) ?_
  walk_at "wp"
  refine Nd_mk (by rw [Str.length_append, Str.length_append]; omega) ?_
  walk_at "wp"
  refine Nd_mk (by rw [Str.length_append, Str.length_append, Str.length_append]; omega) ?_
  walk_at "wp"
  refine Nd_mk (by simp only [Str.length_append]; omega) ?_
  walk_at "wp"
  exact q _
theorem join5_eq (n s x f : Str) : Txt.join " " ["course", n, s, x, f] = "course" ++ " " ++ n ++ " " ++ (s ++ " " ++ x ++ " " ++ f) := by
  rw [join_cons, join_cons, join_cons, join_cons, join_one]
  simp only [app_assoc]
theorem law_course_page {n s f h : D} (hn : Nm n) (hs : Nm s) (hf : Nm f) (hh : ShapeD 2 h) {Q : T → En → Prop} (q : ∀ o, Q (.val (.str ("course" ++ " " ++ strOf n ++ " " ++ (strOf s ++ " " ++ shT 9 h ++ " " ++ strOf f)))) o) : @Ok _ (F__law_text [.val (.tup [.str "course", n, .tup [s, h, f]])]) ⟨Q⟩ := by
  obtain ⟨n, rfl, hn⟩ := hn
  obtain ⟨s, rfl, hs⟩ := hs
  obtain ⟨f, rfl, hf⟩ := hf
  have hl := shT_le 2 h hh 9 (by decide)
  rw [BB2] at hl
  have sp : Str.length " " = 1 := by decide
  have lc : Str.length "course" = 6 := by decide
  unfold F__law_text m__law_text
  walk_at "wp"
  refine law_shape_ok 9 2 h (by decide) (by decide) hh ?_
  walk_at "wp"
  have e : fJoin [.str " ", .lst [.str "course", .str n, .str s, .str (shT 9 h), .str f]] = some (.val (.str ("course" ++ " " ++ n ++ " " ++ (s ++ " " ++ shT 9 h ++ " " ++ f)))) := by
    have := fJoin_lst (a := " ") (xs := ["course", n, s, shT 9 h, f])
    rw [join5_eq, if_pos (by simp only [List.map_cons, List.map_nil, List.sum_cons, List.sum_nil, List.length_cons, List.length_nil]; omega)] at this
    exact this
  rw [e]
  walk_at "wp"
  exact q _
theorem cut02 (a b : D) (r : List D) : cutD (a :: b :: r) none (some 2) = [a, b] := by
  unfold cutD HT.sIx
  simp
theorem show_team_page {n : D} {ds : List D} (hn : Nm n) (hl : ds.length ≤ 5) (h0 : 0 < ds.length) (hd : ∀ n ∈ ds, Nm n) {Q : T → En → Prop} (q : ∀ o, Q (.val (.str ("team " ++ strOf n ++ " " ++ Txt.join " " (ds.map strOf)))) o) : @Ok _ (F_show_page [.val (.tup [.str "team", n, .tup ds])]) ⟨Q⟩ := by
  obtain ⟨n, rfl, hn⟩ := hn
  obtain ⟨h3, h4⟩ := nm_map ds hd
  have j5 := join5 (ds.map strOf) 20 (by rw [List.length_map]; exact hl) h4
  have sp : Str.length " " = 1 := by decide
  have lc : Str.length "team" = 4 := by decide
  have e : Txt.join " " ("team" :: n :: ds.map strOf) = "team " ++ n ++ " " ++ Txt.join " " (ds.map strOf) := by
    cases ds with
    | nil => simp at h0
    | cons d r =>
      rw [join_cons, List.map_cons, join_cons]
      have : ("team" : Str) ++ " " = "team " := by decide
      rw [this]
      simp only [app_assoc]
  have e2 : fJoin [.str " ", .tup (.str "team" :: .str n :: ds)] = some (.val (.str ("team " ++ n ++ " " ++ Txt.join " " (ds.map strOf)))) := by
    have := fJoin_tup (a := " ") (xs := "team" :: n :: ds.map strOf)
    rw [e, if_pos (by simp only [List.map_cons, List.sum_cons, List.length_cons, List.length_map, sp] at j5 ⊢; omega), List.map_cons, List.map_cons, ← h3] at this
    exact this
  have ne : decide (("team" : Str) = "course") = false := by decide
  unfold F_show_page m_show_page
  walk_at "wp"
  rw [ne]
  walk_at "wp"
  rw [cut02]
  refine Nd_mk (by simp only [List.length_cons, List.length_nil]; omega) ?_
  walk_at "wp"
  rw [e2]
  walk_at "wp"
  exact q _
theorem law_team_page {n : D} {ds : List D} (hn : Nm n) (hl : ds.length ≤ 5) (hd : ∀ n ∈ ds, Nm n) {Q : T → En → Prop} (q : ∀ o, Q (.val (.str ("team " ++ strOf n ++ " " ++ Txt.join " " (ds.map strOf)))) o) : @Ok _ (F__law_text [.val (.tup [.str "team", n, .tup ds])]) ⟨Q⟩ := by
  obtain ⟨n, rfl, hn⟩ := hn
  obtain ⟨h3, h4⟩ := nm_map ds hd
  have j5 := join5 (ds.map strOf) 20 (by rw [List.length_map]; exact hl) h4
  have sp : Str.length " " = 1 := by decide
  have lc : Str.length "team " = 5 := by decide
  have ne : decide (("team" : Str) = "course") = false := by decide
  have e2 : fJoin [.str " ", .tup ds] = some (.val (.str (Txt.join " " (ds.map strOf)))) := by
    have := fJoin_tup (a := " ") (xs := ds.map strOf)
    rw [if_pos (by omega), ← h3] at this
    exact this
  unfold F__law_text m__law_text
  walk_at "wp"
  rw [ne]
  walk_at "wp"
  refine Nd_mk (by omega) ?_
  walk_at "wp"
  refine Nd_mk (by rw [Str.length_append]; omega) ?_
  walk_at "wp"
  rw [e2]
  walk_at "wp"
  refine Nd_mk (by rw [Str.length_append, Str.length_append]; omega) ?_
  walk_at "wp"
  exact q _
theorem show_flat_page {w : Str} {ds : List D} (h1 : w ≠ "course") (h2 : w ≠ "team") (hw : w.length ≤ 20) (hl : ds.length ≤ 5) (hd : ∀ n ∈ ds, PartD n) {Q : T → En → Prop} (q : ∀ o, Q (.val (.str (Txt.join " " ((.str w :: ds).map partS)))) o) : @Ok _ (F_show_page [.val (.tup (.str w :: ds))]) ⟨Q⟩ := by
  have sp : Str.length " " = 1 := by decide
  have hD : ∀ n ∈ D.str w :: ds, PartD n := fun n m => by
    rcases List.mem_cons.mp m with z | z
    · rw [z]; exact .str hw
    · exact hd n z
  have hlen : (D.str w :: ds).length ≤ 6 := by rw [List.length_cons]; omega
  have h0 : (D.str w :: ds)[0]? = some (.str w) := rfl
  generalize D.str w :: ds = ps at *
  have hs := sum_le (·.length) 40 (ps.map partS) fun x m => by
    obtain ⟨d, hd, rfl⟩ := List.mem_map.mp m
    exact partS_len (hD d hd)
  rw [List.length_map] at hs
  have e2 : fJoin [.str " ", .lst ((ps.map partS).map D.str)] = some (.val (.str (Txt.join " " (ps.map partS)))) := by
    have := fJoin_lst (a := " ") (xs := ps.map partS)
    rw [if_pos (by rw [sp, List.length_map]; omega)] at this
    exact this
  unfold F_show_page m_show_page
  walk_at "wp"
  rw [h0]
  walk_at "wp"
  rw [decide_eq_false h1]
  walk_at "wp"
  rw [h0]
  walk_at "wp"
  rw [decide_eq_false h2]
  walk_at "wp"
  refine Nd_mk (by omega) ?_
  walk_at "wp"
  refine lcL_ok0 (fun j us e => e = [some (.val (.tup ps)), none] ∧ us = (((ps.take j).map partS).map D.str).map T.val) ⟨rfl, rfl⟩ ?_ ?_
  · rintro j d us e hj ⟨rfl, rfl⟩
    refine ⟨by rfl, ?_⟩
    walk_at "wp"
    refine show_part_ok d (hD d (List.mem_of_getElem? hj)) fun o => ?_
    walk_at "wp"
    rw [take_map _ _ _ _ hj, List.map_append, List.map_append]
    rfl
  · rintro us e ⟨rfl, rfl⟩
    refine ⟨by rfl, ?_⟩
    rw [List.take_length]
    walk_at "wp"
    rw [sp]
    refine Nd_mk (by rw [List.length_map]; omega) ?_
    walk_at "wp"
    exact q _
theorem law_flat_page {w : Str} {ds : List D} (h1 : w ≠ "course") (h2 : w ≠ "team") (hw : w.length ≤ 20) (hl : ds.length ≤ 5) (hd : ∀ n ∈ ds, PartD n) {Q : T → En → Prop} (q : ∀ o, Q (.val (.str (Txt.join " " ((.str w :: ds).map partS)))) o) : @Ok _ (F__law_text [.val (.tup (.str w :: ds))]) ⟨Q⟩ := by
  have sp : Str.length " " = 1 := by decide
  have hD : ∀ n ∈ D.str w :: ds, PartD n := fun n m => by
    rcases List.mem_cons.mp m with z | z
    · rw [z]; exact .str hw
    · exact hd n z
  have hlen : (D.str w :: ds).length ≤ 6 := by rw [List.length_cons]; omega
  have h0 : (D.str w :: ds)[0]? = some (.str w) := rfl
  generalize D.str w :: ds = ps at *
  have hs := sum_le (·.length) 40 (ps.map partS) fun x m => by
    obtain ⟨d, hd, rfl⟩ := List.mem_map.mp m
    exact partS_len (hD d hd)
  rw [List.length_map] at hs
  unfold F__law_text m__law_text tyE
  walk_at "wp"
  rw [h0]
  walk_at "wp"
  rw [decide_eq_false h1]
  walk_at "wp"
  rw [h0]
  walk_at "wp"
  rw [decide_eq_false h2]
  walk_at "wp"
  refine forL_ok0 (fun j e => ∃ x5, e = [some (.val (.tup ps)), none, none, none, some (.lst ((((ps.take j).map partS).map D.str).map T.val)), x5]) ⟨none, rfl⟩ ?_ ?_
  · rintro j d e hj ⟨x5, rfl⟩
    refine ⟨by rfl, ?_⟩
    have hsz : (((((ps.take j).map partS).map D.str).map T.val)).length ≤ 1000000 := by
      simp only [List.length_map, List.length_take]
      omega
    have tk := take_map partS ps j d hj
    have hp := hD d (List.mem_of_getElem? hj)
    walk_at "wp"
    cases hp with
    | non =>
      rw [isN_non]
      walk_at "wp"
      refine Nd_mk hsz ?_
      walk_at "wp"
      exact ⟨_, by rw [tk, List.map_append, List.map_append]; rfl⟩
    | str h =>
      rw [isN_str]
      walk_at "wp"
      rw [isi_str]
      walk_at "wp"
      refine Nd_mk hsz ?_
      walk_at "wp"
      exact ⟨_, by rw [tk, List.map_append, List.map_append]; rfl⟩
    | int h =>
      rw [isN_int]
      walk_at "wp"
      rw [isi_int]
      walk_at "wp"
      refine figures_ok _ h fun _ => ?_
      walk_at "wp"
      refine Nd_mk hsz ?_
      walk_at "wp"
      exact ⟨_, by rw [tk, List.map_append, List.map_append]; rfl⟩
  · rintro e ⟨x5, rfl⟩
    refine ⟨by rfl, ?_⟩
    rw [List.take_length]
    walk_at "wp"
    rw [sp]
    refine Nd_mk (by rw [List.length_map]; omega) ?_
    walk_at "wp"
    exact q _
theorem page_texts {p : D} (h : PageD p) : ∃ x : Str, (∀ {Q : T → En → Prop}, (∀ o, Q (.val (.str x)) o) → @Ok _ (F_show_page [.val p]) ⟨Q⟩) ∧ ∀ {Q : T → En → Prop}, (∀ o, Q (.val (.str x)) o) → @Ok _ (F__law_text [.val p]) ⟨Q⟩ := by
  cases h with
  | course hn hs hf hh => exact ⟨_, fun q => show_course_page hn hs hf hh q, fun q => law_course_page hn hs hf hh q⟩
  | team hn hl h0 hd => exact ⟨_, fun q => show_team_page hn hl h0 hd q, fun q => law_team_page hn hl hd q⟩
  | flat h1 h2 hw hl hd => exact ⟨_, fun q => show_flat_page h1 h2 hw hl hd q, fun q => law_flat_page h1 h2 hw hl hd q⟩
theorem law_ok (s : List Int) (hs : s.length ≤ 63) : @Ok _ (F_law [.val (.rol (s.map D.int))]) ⟨fun t _ => t = .val (.bl true)⟩ := by
  unfold F_law m_law tyE
  walk_at "wp"
  refine pen_ok s 0 (by omega) (by omega) fun a b => ?_
  walk_at "wp"
  refine names_ok a b fun ns hl hN p q => ?_
  walk_at "wp"
  rw [List.length_map]
  generalize hr : (if (if (s.length : Int) - 1 < 10 then (s.length : Int) - 1 else 10) > 1 then (if (s.length : Int) - 1 < 10 then (s.length : Int) - 1 else 10) else 1) = rr
  have hr1 : 1 ≤ rr ∧ rr ≤ 10 := by
    subst hr
    split <;> split <;> omega
  obtain ⟨n0, n1, rest, rfl⟩ : ∃ n0 n1 rest, ns = n0 :: n1 :: rest := by
    match ns, hl with
    | n0 :: n1 :: rest, _ => exact ⟨_, _, _, rfl⟩
  have hr6 : rest.length = 6 := by
    simp only [List.length_cons] at hl
    omega
  refine Nd_mk (by omega) ?_
  walk_at "wp"
  refine forL_ok0 (fun j e => ∃ x2 x3 x4, e = [some (.val (.rol (s.map D.int))), some (.lst ((n0 :: n1 :: rest).map T.val)), x2, x3, x4]) ⟨none, none, none, rfl⟩ ?_ ?_
  · rintro j d e hj ⟨x2, x3, x4, rfl⟩
    obtain ⟨hj2, rfl⟩ := rangeD_at hj
    refine ⟨trivial, ?_⟩
    walk_at "wp"
    refine pen_ok s _ (by omega) (by omega) fun a b => ?_
    walk_at "wp"
    refine page_ok a b n0 n1 rest hr6 hN fun page p q hp => ?_
    obtain ⟨x, hshow, htext⟩ := page_texts hp
    walk_at "wp"
    refine hshow fun o => ?_
    walk_at "wp"
    rw [isi_str]
    walk_at "wp"
    refine htext fun o => ?_
    walk_at "wp"
    refine hshow fun o => ?_
    walk_at "wp"
    exact ⟨_, _, _, rfl⟩
  · rintro e ⟨x2, x3, x4, rfl⟩
    exact ⟨trivial, by walk_at "wp"⟩
end My

set_option Elab.async false
set_option linter.all false
set_option maxRecDepth 100000
set_option maxHeartbeats 0
namespace My
open PySem PySem.Spec PyProof.Rows L2 Pf
def hd0 : He.DefD := ⟨("_law_take", none), "_law_take", "_law_take", defArgs (top 10), defBody (top 10), defScope (top 10), [], []⟩
def hd1 : He.DefD := ⟨("_law_names", none), "_law_names", "_law_names", defArgs (top 11), defBody (top 11), defScope (top 11), [], []⟩
def hd2 : He.DefD := ⟨("_law_pen", none), "_law_pen", "_law_pen", defArgs (top 9), defBody (top 9), defScope (top 9), [], []⟩
def hd3 : He.DefD := ⟨("_law_number", none), "_law_number", "_law_number", defArgs (top 13), defBody (top 13), defScope (top 13), [], []⟩
def hd4 : He.DefD := ⟨("_law_shape", none), "_law_shape", "_law_shape", defArgs (top 12), defBody (top 12), defScope (top 12), [], []⟩
def hd5 : He.DefD := ⟨("_law_page", none), "_law_page", "_law_page", defArgs (top 14), defBody (top 14), defScope (top 14), [], []⟩
def hd6 : He.DefD := ⟨("show_shape", none), "show_shape", "show_shape", defArgs (top 3), defBody (top 3), defScope (top 3), [], []⟩
def hd7 : He.DefD := ⟨("show_course", none), "show_course", "show_course", defArgs (top 4), defBody (top 4), defScope (top 4), [], []⟩
def hd8 : He.DefD := ⟨("show_number", none), "show_number", "show_number", defArgs (top 2), defBody (top 2), defScope (top 2), [], []⟩
def hd9 : He.DefD := ⟨("show_part", none), "show_part", "show_part", defArgs (top 6), defBody (top 6), defScope (top 6), [], []⟩
def hd10 : He.DefD := ⟨("show_page", none), "show_page", "show_page", defArgs (top 7), defBody (top 7), defScope (top 7), [], []⟩
def hd11 : He.DefD := ⟨("_law_shape_text", none), "_law_shape_text", "_law_shape_text", defArgs (top 16), defBody (top 16), defScope (top 16), [], []⟩
def hd12 : He.DefD := ⟨("_law_figures", none), "_law_figures", "_law_figures", defArgs (top 15), defBody (top 15), defScope (top 15), [], []⟩
def hd13 : He.DefD := ⟨("_law_text", none), "_law_text", "_law_text", defArgs (top 17), defBody (top 17), defScope (top 17), [], []⟩
def hd14 : He.DefD := ⟨("law", none), "law", "law", defArgs (top 18), defBody (top 18), defScope (top 18), [], []⟩
def hfn0 : List He.DefD := [hd0, hd1, hd2, hd3, hd4, hd5, hd6, hd7, hd8, hd9, hd10, hd11, hd12, hd13, hd14]
def hfn : List He.DefD := hfn0
def hfa0 : List He.Fa := [.glo "_law_take", .glo "_law_names", .glo "_law_pen", .glo "_law_number", .glo "_law_shape", .glo "_law_page", .glo "show_shape", .glo "show_course", .glo "show_number", .glo "show_part", .glo "show_page", .glo "_law_shape_text", .glo "_law_figures", .glo "_law_text", .glo "law"]
def hfa1 : List He.Fa := [.free "abs", .free "isinstance", .free "len", .free "list", .free "max", .free "min", .free "range", .free "str", .free "tuple", .glo "BRACKETS"]
def hfa : List He.Fa := hfa0 ++ hfa1
def hnm0 : List Str := ["BRACKETS", "show_number", "show_shape", "show_course", "show_part", "show_page", "_law_pen", "_law_take", "_law_names", "_law_shape", "_law_number", "_law_page", "_law_figures", "_law_shape_text", "_law_text"]
def hnm : List Str := hnm0
def kv_BRACKETS : List (Str × He.Dv) := [("row", .str "()"), ("fork", .str "{}"), ("free", .str "<>")]
def hts : List He.Tab := [(fun K => He.ga K "BRACKETS", ["row", "fork", "free"])]
def hck (K : PySem.W.Frag) : Bool := He.valsB K (He.ga K "BRACKETS") kv_BRACKETS
abbrev HR : PySem.W.OpenRow := PySem.W.OpenLaw.row PySem.Challenge.rw_stampcourse_k77_pages_written
def has (g : Addr → Option Obj) : List Addr := He.asD g 5
abbrev hhk : PySem.W.Hook := hookX has hfa hfn hts hck
def hob (s : PySem.W.SharedT) : AlX := obsXG has hfa hfn hts hck (HandSHeadRun.getT s)
theorem hob_eq (s : PySem.W.SharedT) : hob s = hhk.obs s.abs := obsXG_eq (HandSHeadRun.getT_eq s)
theorem hrun1 (w : World) : HandSHeadRun.RunEq HR (PySem.W.view HR.prog [18]) hhk hob 20000 hnm (w.withFollow "special-get-raises" false) := by
  intro os
  kernel_rfl
theorem hrun2 (w : World) : HandSHeadRun.RunEq HR (PySem.W.view HR.prog [18]) hhk hob 20000 hnm (w.withFollow "special-get-raises" true) := by
  intro os
  kernel_rfl
theorem hrun : ∀ w : World, HandSHeadRun.RunEq HR (PySem.W.view HR.prog [18]) hhk hob 20000 hnm w := PySem.W.byRow2 "special-get-raises" hrun1 hrun2
section
variable {w : World} {K : PySem.W.Frag} {h : Heap} {mg : Str → Option Value}
theorem ft0 (X : K.In h) (G : h.Ns mainGlobals mg) (c : SaysX hfa hfn hts hck w K) : ∃ f fd, Fun K "_law_take" "_law_take" (top 10) f fd ∧ mg "_law_take" = some (.ref f) ∧ Binds K fd ["pen", "many"] [] := by
  obtain ⟨fd, F⟩ := c.t.d.def_ 0 (d := hd0) rfl
  have F2 := fun_ofD (x := "_law_take") (q := "_law_take") (st := top 10) (kws := []) (f := He.ga K "_law_take") F
  exact ⟨_, _, F2, He.glo_ok X G (c.t.d.fact 0 (f := .glo "_law_take") rfl), F2.binds fun _ _ _ _ _ _ us hl => match us, hl with | [_, _], _ => rfl⟩
theorem ft1 (X : K.In h) (G : h.Ns mainGlobals mg) (c : SaysX hfa hfn hts hck w K) : ∃ f fd, Fun K "_law_names" "_law_names" (top 11) f fd ∧ mg "_law_names" = some (.ref f) ∧ Binds K fd ["pen", "many"] [] := by
  obtain ⟨fd, F⟩ := c.t.d.def_ 1 (d := hd1) rfl
  have F2 := fun_ofD (x := "_law_names") (q := "_law_names") (st := top 11) (kws := []) (f := He.ga K "_law_names") F
  exact ⟨_, _, F2, He.glo_ok X G (c.t.d.fact 1 (f := .glo "_law_names") rfl), F2.binds fun _ _ _ _ _ _ us hl => match us, hl with | [_, _], _ => rfl⟩
theorem ft2 (X : K.In h) (G : h.Ns mainGlobals mg) (c : SaysX hfa hfn hts hck w K) : ∃ f fd, Fun K "_law_pen" "_law_pen" (top 9) f fd ∧ mg "_law_pen" = some (.ref f) ∧ Binds K fd ["script", "k"] [] := by
  obtain ⟨fd, F⟩ := c.t.d.def_ 2 (d := hd2) rfl
  have F2 := fun_ofD (x := "_law_pen") (q := "_law_pen") (st := top 9) (kws := []) (f := He.ga K "_law_pen") F
  exact ⟨_, _, F2, He.glo_ok X G (c.t.d.fact 2 (f := .glo "_law_pen") rfl), F2.binds fun _ _ _ _ _ _ us hl => match us, hl with | [_, _], _ => rfl⟩
theorem ft3 (X : K.In h) (G : h.Ns mainGlobals mg) (c : SaysX hfa hfn hts hck w K) : ∃ f fd, Fun K "_law_number" "_law_number" (top 13) f fd ∧ mg "_law_number" = some (.ref f) ∧ Binds K fd ["pen"] [] := by
  obtain ⟨fd, F⟩ := c.t.d.def_ 3 (d := hd3) rfl
  have F2 := fun_ofD (x := "_law_number") (q := "_law_number") (st := top 13) (kws := []) (f := He.ga K "_law_number") F
  exact ⟨_, _, F2, He.glo_ok X G (c.t.d.fact 3 (f := .glo "_law_number") rfl), F2.binds fun _ _ _ _ _ _ us hl => match us, hl with | [_], _ => rfl⟩
theorem ft4 (X : K.In h) (G : h.Ns mainGlobals mg) (c : SaysX hfa hfn hts hck w K) : ∃ f fd, Fun K "_law_shape" "_law_shape" (top 12) f fd ∧ mg "_law_shape" = some (.ref f) ∧ Binds K fd ["pen", "names", "deep"] [] := by
  obtain ⟨fd, F⟩ := c.t.d.def_ 4 (d := hd4) rfl
  have F2 := fun_ofD (x := "_law_shape") (q := "_law_shape") (st := top 12) (kws := []) (f := He.ga K "_law_shape") F
  exact ⟨_, _, F2, He.glo_ok X G (c.t.d.fact 4 (f := .glo "_law_shape") rfl), F2.binds fun _ _ _ _ _ _ us hl => match us, hl with | [_, _, _], _ => rfl⟩
theorem ft5 (X : K.In h) (G : h.Ns mainGlobals mg) (c : SaysX hfa hfn hts hck w K) : ∃ f fd, Fun K "_law_page" "_law_page" (top 14) f fd ∧ mg "_law_page" = some (.ref f) ∧ Binds K fd ["pen", "names"] [] := by
  obtain ⟨fd, F⟩ := c.t.d.def_ 5 (d := hd5) rfl
  have F2 := fun_ofD (x := "_law_page") (q := "_law_page") (st := top 14) (kws := []) (f := He.ga K "_law_page") F
  exact ⟨_, _, F2, He.glo_ok X G (c.t.d.fact 5 (f := .glo "_law_page") rfl), F2.binds fun _ _ _ _ _ _ us hl => match us, hl with | [_, _], _ => rfl⟩
theorem ft6 (X : K.In h) (G : h.Ns mainGlobals mg) (c : SaysX hfa hfn hts hck w K) : ∃ f fd, Fun K "show_shape" "show_shape" (top 3) f fd ∧ mg "show_shape" = some (.ref f) ∧ Binds K fd ["shape"] [] := by
  obtain ⟨fd, F⟩ := c.t.d.def_ 6 (d := hd6) rfl
  have F2 := fun_ofD (x := "show_shape") (q := "show_shape") (st := top 3) (kws := []) (f := He.ga K "show_shape") F
  exact ⟨_, _, F2, He.glo_ok X G (c.t.d.fact 6 (f := .glo "show_shape") rfl), F2.binds fun _ _ _ _ _ _ us hl => match us, hl with | [_], _ => rfl⟩
theorem ft7 (X : K.In h) (G : h.Ns mainGlobals mg) (c : SaysX hfa hfn hts hck w K) : ∃ f fd, Fun K "show_course" "show_course" (top 4) f fd ∧ mg "show_course" = some (.ref f) ∧ Binds K fd ["course"] [] := by
  obtain ⟨fd, F⟩ := c.t.d.def_ 7 (d := hd7) rfl
  have F2 := fun_ofD (x := "show_course") (q := "show_course") (st := top 4) (kws := []) (f := He.ga K "show_course") F
  exact ⟨_, _, F2, He.glo_ok X G (c.t.d.fact 7 (f := .glo "show_course") rfl), F2.binds fun _ _ _ _ _ _ us hl => match us, hl with | [_], _ => rfl⟩
theorem ft8 (X : K.In h) (G : h.Ns mainGlobals mg) (c : SaysX hfa hfn hts hck w K) : ∃ f fd, Fun K "show_number" "show_number" (top 2) f fd ∧ mg "show_number" = some (.ref f) ∧ Binds K fd ["number"] [] := by
  obtain ⟨fd, F⟩ := c.t.d.def_ 8 (d := hd8) rfl
  have F2 := fun_ofD (x := "show_number") (q := "show_number") (st := top 2) (kws := []) (f := He.ga K "show_number") F
  exact ⟨_, _, F2, He.glo_ok X G (c.t.d.fact 8 (f := .glo "show_number") rfl), F2.binds fun _ _ _ _ _ _ us hl => match us, hl with | [_], _ => rfl⟩
theorem ft9 (X : K.In h) (G : h.Ns mainGlobals mg) (c : SaysX hfa hfn hts hck w K) : ∃ f fd, Fun K "show_part" "show_part" (top 6) f fd ∧ mg "show_part" = some (.ref f) ∧ Binds K fd ["part"] [] := by
  obtain ⟨fd, F⟩ := c.t.d.def_ 9 (d := hd9) rfl
  have F2 := fun_ofD (x := "show_part") (q := "show_part") (st := top 6) (kws := []) (f := He.ga K "show_part") F
  exact ⟨_, _, F2, He.glo_ok X G (c.t.d.fact 9 (f := .glo "show_part") rfl), F2.binds fun _ _ _ _ _ _ us hl => match us, hl with | [_], _ => rfl⟩
theorem ft10 (X : K.In h) (G : h.Ns mainGlobals mg) (c : SaysX hfa hfn hts hck w K) : ∃ f fd, Fun K "show_page" "show_page" (top 7) f fd ∧ mg "show_page" = some (.ref f) ∧ Binds K fd ["page"] [] := by
  obtain ⟨fd, F⟩ := c.t.d.def_ 10 (d := hd10) rfl
  have F2 := fun_ofD (x := "show_page") (q := "show_page") (st := top 7) (kws := []) (f := He.ga K "show_page") F
  exact ⟨_, _, F2, He.glo_ok X G (c.t.d.fact 10 (f := .glo "show_page") rfl), F2.binds fun _ _ _ _ _ _ us hl => match us, hl with | [_], _ => rfl⟩
theorem ft11 (X : K.In h) (G : h.Ns mainGlobals mg) (c : SaysX hfa hfn hts hck w K) : ∃ f fd, Fun K "_law_shape_text" "_law_shape_text" (top 16) f fd ∧ mg "_law_shape_text" = some (.ref f) ∧ Binds K fd ["shape"] [] := by
  obtain ⟨fd, F⟩ := c.t.d.def_ 11 (d := hd11) rfl
  have F2 := fun_ofD (x := "_law_shape_text") (q := "_law_shape_text") (st := top 16) (kws := []) (f := He.ga K "_law_shape_text") F
  exact ⟨_, _, F2, He.glo_ok X G (c.t.d.fact 11 (f := .glo "_law_shape_text") rfl), F2.binds fun _ _ _ _ _ _ us hl => match us, hl with | [_], _ => rfl⟩
theorem ft12 (X : K.In h) (G : h.Ns mainGlobals mg) (c : SaysX hfa hfn hts hck w K) : ∃ f fd, Fun K "_law_figures" "_law_figures" (top 15) f fd ∧ mg "_law_figures" = some (.ref f) ∧ Binds K fd ["number"] [] := by
  obtain ⟨fd, F⟩ := c.t.d.def_ 12 (d := hd12) rfl
  have F2 := fun_ofD (x := "_law_figures") (q := "_law_figures") (st := top 15) (kws := []) (f := He.ga K "_law_figures") F
  exact ⟨_, _, F2, He.glo_ok X G (c.t.d.fact 12 (f := .glo "_law_figures") rfl), F2.binds fun _ _ _ _ _ _ us hl => match us, hl with | [_], _ => rfl⟩
theorem ft13 (X : K.In h) (G : h.Ns mainGlobals mg) (c : SaysX hfa hfn hts hck w K) : ∃ f fd, Fun K "_law_text" "_law_text" (top 17) f fd ∧ mg "_law_text" = some (.ref f) ∧ Binds K fd ["page"] [] := by
  obtain ⟨fd, F⟩ := c.t.d.def_ 13 (d := hd13) rfl
  have F2 := fun_ofD (x := "_law_text") (q := "_law_text") (st := top 17) (kws := []) (f := He.ga K "_law_text") F
  exact ⟨_, _, F2, He.glo_ok X G (c.t.d.fact 13 (f := .glo "_law_text") rfl), F2.binds fun _ _ _ _ _ _ us hl => match us, hl with | [_], _ => rfl⟩
theorem ft14 (X : K.In h) (G : h.Ns mainGlobals mg) (c : SaysX hfa hfn hts hck w K) : ∃ f fd, Fun K "law" "law" (top 18) f fd ∧ mg "law" = some (.ref f) ∧ Binds K fd ["script"] [] := by
  obtain ⟨fd, F⟩ := c.t.d.def_ 14 (d := hd14) rfl
  have F2 := fun_ofD (x := "law") (q := "law") (st := top 18) (kws := []) (f := He.ga K "law") F
  exact ⟨_, _, F2, He.glo_ok X G (c.t.d.fact 14 (f := .glo "law") rfl), F2.binds fun _ _ _ _ _ _ us hl => match us, hl with | [_], _ => rfl⟩
theorem fd0 (X : K.In h) (G : h.Ns mainGlobals mg) (c : SaysX hfa hfn hts hck w K) : MDict K w mg "BRACKETS" dict_BRACKETS := by
  obtain ⟨es, n, D⟩ := c.t.tab 0 rfl
  have hv := c.chk
  unfold hck at hv
  exact mdict_of (He.glo_ok X G (c.t.d.fact 24 (f := .glo "BRACKETS") rfl)) D hv rfl
theorem facts (X : K.In h) (G : h.Ns mainGlobals mg) (c : SaysX hfa hfn hts hck w K) : TX w K mg where
  b_abs := He.free_ok X G (c.t.d.fact 15 (f := .free "abs") rfl)
  b_isinstance := He.free_ok X G (c.t.d.fact 16 (f := .free "isinstance") rfl)
  b_len := He.free_ok X G (c.t.d.fact 17 (f := .free "len") rfl)
  b_list := He.free_ok X G (c.t.d.fact 18 (f := .free "list") rfl)
  b_max := He.free_ok X G (c.t.d.fact 19 (f := .free "max") rfl)
  b_min := He.free_ok X G (c.t.d.fact 20 (f := .free "min") rfl)
  b_range := He.free_ok X G (c.t.d.fact 21 (f := .free "range") rfl)
  b_str := He.free_ok X G (c.t.d.fact 22 (f := .free "str") rfl)
  b_tuple := He.free_ok X G (c.t.d.fact 23 (f := .free "tuple") rfl)
  d_BRACKETS := fd0 X G c
  f__law_take := ft0 X G c
  f__law_names := ft1 X G c
  f__law_pen := ft2 X G c
  f__law_number := ft3 X G c
  f__law_shape := ft4 X G c
  f__law_page := ft5 X G c
  f_show_shape := ft6 X G c
  f_show_course := ft7 X G c
  f_show_number := ft8 X G c
  f_show_part := ft9 X G c
  f_show_page := ft10 X G c
  f__law_shape_text := ft11 X G c
  f__law_figures := ft12 X G c
  f__law_text := ft13 X G c
  f_law := ft14 X G c
end
end My
open PySem PySem.W PySem.Calls PyProof.Rows L2
theorem PySem.Challenge.cw_stampcourse_k77_pages_written_holds : PySem.Challenge.rw_stampcourse_k77_pages_written.Holds := by
  w_on; o_law
  refine HandSHeadRun.head_any (r := My.HR) (q := view My.HR.prog [18]) (H := My.hhk) (ob := My.hob) (M := 20000) (loose := My.hnm) (d := HandSHeadRun.topDef My.HR.prog 18) (kwd := []) My.hob_eq
    (by kernel_rfl) (fun s => by kernel_rfl) My.hrun (by kernel_rfl) (by kernel_rfl) (by kernel_rfl) (by rfl) (by first | assumption | decide +kernel) (by decide +kernel) ⟨rfl, rfl, rfl, rfl, rfl, by decide +kernel⟩ ?_ ?_
  · w_witness2
  · refine Pf.walk_mine (l := PySem.Challenge.rw_stampcourse_k77_pages_written) (n := 63) (k := My.lawLevel) (x := "script") (CC := fun w => L2.CX PySem.Challenge.rw_stampcourse_k77_pages_written.prog w) rfl (by decide) (by kernel_rfl) ⟨rfl, by decide, by decide⟩ ?_ Pf.cx_end
    intro w mg fa h Y G hm0
    obtain ⟨K, KX, c⟩ := Y
    have hm : mg ("law" : PySem.Str) = some (.ref fa) := by
      have e : (HandSHeadRun.topDef My.HR.prog 18).name = ("law" : PySem.Str) := by kernel_rfl
      rw [← e]
      exact hm0
    have T := My.facts KX G c
    obtain ⟨fd, FD⟩ := c.t.d.def_ 14 (d := My.hd14) rfl
    have F := Pf.fun_ofD (x := "law") (q := "law") (st := My.top 18) (kws := []) (f := He.ga K "law") FD
    have gf := He.glo_ok KX G (c.t.d.fact 14 (f := .glo "law") rfl)
    cases hm.symm.trans gf
    have b := FunD.bindsA (ps := ["script"]) FD fun _ _ _ _ _ _ us hl => match us, hl with | [_], _ => rfl
    exact ⟨K, fd, Pf.spF K mg 1 My.F_law, KX, fun s u => b s [u] rfl, fun H a ns hl _ hS => Pf.post_of hS (My.law_ok ns hl), fun base _ _ => My.fn_law T F gf (F.binds fun _ _ _ _ _ _ us hl => match us, hl with | [_], _ => rfl)⟩

