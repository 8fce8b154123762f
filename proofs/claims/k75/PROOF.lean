import PyProof.Rows.All
import Wide.All
import OpenK.AllK
import Wide.FinOn
import HandS.ForMost
import HandS.ForExc
import HandS.HeadHook2
import HandS.ExcInit
import HandS.Defaults
import HandS.IsInst
import HandS.TupAny
import HandS.RaiseMore
import HandS.ExcField
import HandS.Flow
import HandS.FStr
import KE.KExcSuper
import HandS.ExcOwn
import KE.KExcIs
import PyProof.ReprRoads
import HandS.Exc
import KE.KEqNest
import PyProof.EqKinds
import HandS.Star
import HandS.List
import HandS.Records
import KE.KTypeName
import HandS.ExcValue
import HandS.Ends
import HandS.HeadHook1
import HandS.Head0
import HandS.Head1
import HandS.Head2
import HandS.HeadEnd
import KE.KStateDown
import PySem.Challenge.RW_lookingdays_k75_errors_and_papers
set_option Elab.async false
set_option linter.all false
set_option maxRecDepth 100000
set_option maxHeartbeats 1000000
/-! Mini, part 1: plain data, what stands for them in a heap, frames of owned and shared data, steps and their ends. -/
namespace Mini
open PySem PySem.Spec PyProof.Rows L2

/-- a plain datum; own classes, defs by their names in the module -/
inductive D where
  | non | bl (b : Bool) | int (i : Int) | str (x : Str)
  | lst (xs : List D) | tup (xs : List D) | dct (kvs : List (Key × D))
  | ins (c : Str) (fs : List (Str × D)) | exc (c : Str) (fs : List (Str × D))
  | cls (c : Str) | typ (n : String) | fn (f : Str)
  | scr (ns : List Int)
  deriving Inhabited
/-- an exception's dict: none as yet, or at x -/
def ExD (G : Hp) (dx : Option Addr) (fs : List (Str × V)) : Prop := (dx = none ∧ fs = []) ∨ ∃ x, dx = some x ∧ G x = some (exd x fs)
theorem ExD.mono {G G' : Hp} {dx : Option Addr} {fs : List (Str × V)} (e : Same G G') (h : ExD G dx fs) : ExD G' dx fs := h.imp id fun ⟨x, h1, h2⟩ => ⟨x, h1, e x _ h2⟩
mutual
/-- v stands for the datum, as far as G (what never changes any more) knows -/
def Rep (K : PySem.W.Frag) (G : Hp) : D → V → Prop
  | .non, v => v = .non
  | .bl b, v => v = .bl b
  | .int i, v => v = .int i
  | .str x, v => v = .str x
  | .lst ds, v => ∃ a xs, v = .ref a ∧ G a = some (.lst xs) ∧ Reps K G ds xs
  | .tup ds, v => ∃ a xs, v = .ref a ∧ SqT K G a xs ∧ Reps K G ds xs
  | .dct ds, v => ∃ a kvs, v = .ref a ∧ G a = some (.dK kvs) ∧ RepK K G ds kvs
  | .ins c ds, v => ∃ a dx fs, v = .ref a ∧ G a = some (.ins (He.ga K c) dx fs) ∧ RepF K G ds fs
  | .exc c ds, v => ∃ a dx fs, v = .ref a ∧ G a = some (exo a (He.ga K c) dx) ∧ ExD G dx fs ∧ RepF K G ds fs
  | .cls c, v => v = .ref (He.ga K c)
  | .typ n, v => v = .ty n
  | .fn f, v => v = .ref (He.ga K f)
  | .scr ns, v => ∃ a, v = .ref a ∧ SqL K G a (ns.map V.int)
def Reps (K : PySem.W.Frag) (G : Hp) : List D → List V → Prop
  | [], xs => xs = []
  | d :: ds, xs => ∃ v vs, xs = v :: vs ∧ Rep K G d v ∧ Reps K G ds vs
def RepK (K : PySem.W.Frag) (G : Hp) : List (Key × D) → List (Key × V) → Prop
  | [], xs => xs = []
  | (k, d) :: ds, xs => ∃ v vs, xs = (k, v) :: vs ∧ Rep K G d v ∧ RepK K G ds vs
def RepF (K : PySem.W.Frag) (G : Hp) : List (Str × D) → List (Str × V) → Prop
  | [], xs => xs = []
  | (k, d) :: ds, xs => ∃ v vs, xs = (k, v) :: vs ∧ Rep K G d v ∧ RepF K G ds vs
end
section
variable {K : PySem.W.Frag} {G G' : Hp}
theorem sq_t {a : Addr} {xs : List V} (e : Same G G') (h : SqT K G a xs) : SqT K G' a xs := by
  rcases h with (h | ⟨o, h⟩) | h
  · exact .inl (.inl (e a _ h))
  · exact .inl (.inr ⟨o, e a _ h⟩)
  · exact .inr h
mutual
theorem Rep.mono (e : Same G G') : ∀ (d : D) (v : V), Rep K G d v → Rep K G' d v
  | .non, _, h => h
  | .bl _, _, h => h
  | .int _, _, h => h
  | .str _, _, h => h
  | .lst ds, _, ⟨a, xs, h1, h2, h3⟩ => ⟨a, xs, h1, e a _ h2, Reps.mono e ds xs h3⟩
  | .tup ds, _, ⟨a, xs, h1, h2, h3⟩ => ⟨a, xs, h1, sq_t e h2, Reps.mono e ds xs h3⟩
  | .dct ds, _, ⟨a, kvs, h1, h2, h3⟩ => ⟨a, kvs, h1, e a _ h2, RepK.mono e ds kvs h3⟩
  | .ins _ ds, _, ⟨a, dx, fs, h1, h2, h3⟩ => ⟨a, dx, fs, h1, e a _ h2, RepF.mono e ds fs h3⟩
  | .exc _ ds, _, ⟨a, dx, fs, h1, h2, h3, h4⟩ => ⟨a, dx, fs, h1, e a _ h2, h3.mono e, RepF.mono e ds fs h4⟩
  | .cls _, _, h => h
  | .typ _, _, h => h
  | .fn _, _, h => h
  | .scr _, _, ⟨a, h1, h2⟩ => ⟨a, h1, e.seq h2⟩
theorem Reps.mono (e : Same G G') : ∀ (ds : List D) (xs : List V), Reps K G ds xs → Reps K G' ds xs
  | [], _, h => h
  | d :: ds, _, ⟨v, vs, h1, h2, h3⟩ => ⟨v, vs, h1, Rep.mono e d v h2, Reps.mono e ds vs h3⟩
theorem RepK.mono (e : Same G G') : ∀ (ds : List (Key × D)) (xs : List (Key × V)), RepK K G ds xs → RepK K G' ds xs
  | [], _, h => h
  | (_, d) :: ds, _, ⟨v, vs, h1, h2, h3⟩ => ⟨v, vs, h1, Rep.mono e d v h2, RepK.mono e ds vs h3⟩
theorem RepF.mono (e : Same G G') : ∀ (ds : List (Str × D)) (xs : List (Str × V)), RepF K G ds xs → RepF K G' ds xs
  | [], _, h => h
  | (_, d) :: ds, _, ⟨v, vs, h1, h2, h3⟩ => ⟨v, vs, h1, Rep.mono e d v h2, RepF.mono e ds vs h3⟩
end
theorem Reps.length : ∀ {ds : List D} {xs : List V}, Reps K G ds xs → xs.length = ds.length
  | [], _, h => by rw [show _ = [] from h]; rfl
  | _ :: ds, _, ⟨v, vs, h1, _, h3⟩ => by rw [h1]; exact congrArg Nat.succ (Reps.length h3)
theorem Reps.get : ∀ {ds : List D} {xs : List V} {i : Nat} {d : D}, Reps K G ds xs → ds[i]? = some d → ∃ v, xs[i]? = some v ∧ Rep K G d v
  | [], _, _, _, _, e => by simp at e
  | _ :: ds, _, 0, d, ⟨v, vs, h1, h2, h3⟩, e => by
    simp at e
    subst e h1
    exact ⟨v, rfl, h2⟩
  | _ :: ds, _, i + 1, d, ⟨v, vs, h1, h2, h3⟩, e => by
    obtain ⟨u, a, b⟩ := Reps.get (i := i) (d := d) h3 (by simpa using e)
    subst h1
    exact ⟨u, by simpa using a, b⟩
theorem Reps.append : ∀ {ds es : List D} {xs ys : List V}, Reps K G ds xs → Reps K G es ys → Reps K G (ds ++ es) (xs ++ ys)
  | [], _, _, _, h, k => by rw [show _ = [] from h]; exact k
  | d :: ds, es, _, ys, ⟨v, vs, h1, h2, h3⟩, k => by
    subst h1
    exact ⟨v, vs ++ ys, rfl, h2, Reps.append h3 k⟩
theorem Reps.one {d : D} {v : V} (h : Rep K G d v) : Reps K G [d] [v] := ⟨v, [], rfl, h, rfl⟩
theorem Reps.take : ∀ {ds : List D} {xs : List V} (n : Nat), Reps K G ds xs → Reps K G (ds.take n) (xs.take n)
  | _, _, 0, _ => by simp; rfl
  | [], _, n + 1, h => by rw [show _ = [] from h]; rfl
  | d :: ds, _, n + 1, ⟨v, vs, h1, h2, h3⟩ => by
    subst h1
    exact ⟨v, vs.take n, rfl, h2, Reps.take n h3⟩
theorem Reps.drop : ∀ {ds : List D} {xs : List V} (n : Nat), Reps K G ds xs → Reps K G (ds.drop n) (xs.drop n)
  | _, _, 0, h => by simpa using h
  | [], _, n + 1, h => by rw [show _ = [] from h]; rfl
  | d :: ds, _, n + 1, ⟨v, vs, h1, h2, h3⟩ => by
    subst h1
    exact Reps.drop n h3
theorem Reps.set : ∀ {ds : List D} {xs : List V} {d : D} {v : V} (i : Nat), Reps K G ds xs → Rep K G d v → Reps K G (ds.set i d) (xs.set i v)
  | [], _, _, _, _, h, _ => by rw [show _ = [] from h]; rfl
  | _ :: ds, _, d, v, 0, ⟨u, us, h1, h2, h3⟩, k => by
    subst h1
    exact ⟨v, us, rfl, k, h3⟩
  | c :: ds, _, d, v, i + 1, ⟨u, us, h1, h2, h3⟩, k => by
    subst h1
    exact ⟨u, us.set i v, rfl, h2, Reps.set i h3 k⟩
theorem RepF.lookup : ∀ {ds : List (Str × D)} {fs : List (Str × V)} {f : Str} {d : D}, RepF K G ds fs → ds.lookup f = some d → ∃ v, fs.lookup f = some v ∧ Rep K G d v
  | [], _, _, _, _, e => by cases e
  | (g, c) :: ds, _, f, d, ⟨v, vs, h1, h2, h3⟩, e => by
    subst h1
    simp only [List.lookup] at e ⊢
    cases q : (f == g) with
    | true =>
      rw [q] at e
      cases e
      exact ⟨v, rfl, h2⟩
    | false =>
      rw [q] at e
      exact RepF.lookup h3 e
theorem RepF.none : ∀ {ds : List (Str × D)} {fs : List (Str × V)} {f : Str}, RepF K G ds fs → ds.lookup f = Option.none → fs.lookup f = Option.none
  | [], _, _, h, _ => by rw [show _ = [] from h]; rfl
  | (g, c) :: ds, _, f, ⟨v, vs, h1, h2, h3⟩, e => by
    subst h1
    simp only [List.lookup] at e ⊢
    cases q : (f == g) with
    | true =>
      rw [q] at e
      cases e
    | false =>
      rw [q] at e
      exact RepF.none h3 e
theorem RepF.length : ∀ {ds : List (Str × D)} {fs : List (Str × V)}, RepF K G ds fs → fs.length = ds.length
  | [], _, h => by rw [show _ = [] from h]; rfl
  | _ :: ds, _, ⟨v, vs, h1, _, h3⟩ => by rw [h1]; exact congrArg Nat.succ (RepF.length h3)
/-- a field stored: in place, or behind -/
def putD (f : Str) (d : D) : List (Str × D) → List (Str × D)
  | [] => [(f, d)]
  | (g, c) :: r => if g = f then (g, d) :: r else (g, c) :: putD f d r
theorem RepF.put {f : Str} {d : D} {v : V} (k : Rep K G d v) : ∀ {ds : List (Str × D)} {fs : List (Str × V)}, RepF K G ds fs → RepF K G (putD f d ds) (putF f v fs)
  | [], _, h => by
    rw [show _ = [] from h]
    exact ⟨v, [], rfl, k, rfl⟩
  | (g, c) :: ds, _, ⟨u, us, h1, h2, h3⟩ => by
    subst h1
    unfold putD putF
    by_cases q : g = f
    · rw [if_pos q, if_pos q]
      exact ⟨v, us, rfl, k, h3⟩
    · rw [if_neg q, if_neg q]
      exact ⟨u, _, rfl, h2, RepF.put k h3⟩
end

/-! ### frames -/
/-- a slot of a frame: nothing that is known; a shared datum; an object of the frame's alone, which it may change -/
inductive Sl where
  | no | val (d : D) | own (d : D)
  deriving Inhabited
abbrev En := List Sl
/-- an end of an evaluation -/
inductive R (α : Type) where
  | ok (a : α) (e : En)
  | err (x : D) (e : En)
  | stuck
abbrev M (α : Type) := En → R α
def R.bind {α β : Type} (r : R α) (f : α → En → R β) : R β := match r with
  | .ok a e => f a e
  | .err x e => .err x e
  | .stuck => .stuck
def ret {α : Type} (a : α) : M α := fun e => .ok a e
def mbind {α β : Type} (m : M α) (f : α → M β) : M β := fun e => (m e).bind f
@[simp] theorem R.bind_ok {α β : Type} (a : α) (e : En) (f : α → En → R β) : (R.ok a e).bind f = f a e := rfl
@[simp] theorem R.bind_err {α β : Type} (x : D) (e : En) (f : α → En → R β) : (R.err x e : R α).bind f = .err x e := rfl
@[simp] theorem R.bind_stuck {α β : Type} (f : α → En → R β) : (R.stuck : R α).bind f = .stuck := rfl

/-- the owned object at a -/
def OwnO (K : PySem.W.Frag) (G : Hp) (d : D) (o : HO) : Prop := match d with
  | .lst ds => ∃ xs, o = .lst xs ∧ Reps K G ds xs
  | .dct ds => ∃ kvs, o = .dK kvs ∧ RepK K G ds kvs
  | .ins c ds => ∃ dx fs, o = .ins (He.ga K c) dx fs ∧ RepF K G ds fs
  | _ => False
theorem OwnO.mono {K : PySem.W.Frag} {G G' : Hp} {d : D} {o : HO} (e : Same G G') (h : OwnO K G d o) : OwnO K G' d o := by
  cases d with
  | lst ds => obtain ⟨xs, a, b⟩ := h; exact ⟨xs, a, b.mono e⟩
  | dct ds => obtain ⟨xs, a, b⟩ := h; exact ⟨xs, a, b.mono e⟩
  | ins c ds => obtain ⟨dx, xs, a, b⟩ := h; exact ⟨dx, xs, a, b.mono e⟩
  | _ => exact h
/-- A: where the owned objects stand, slot by slot; G: what never changes any more; H: all -/
structure Rel (K : PySem.W.Frag) (A : List (Option Addr)) (env : En) (G : Hp) (σ : L2.St) (H : Hp) : Prop where
  ex : Same G H
  len : env.length = σ.length
  lenA : A.length = σ.length
  val : ∀ (i : Nat) (d : D), env[i]? = some (Sl.val d) → ∃ v : V, σ[i]? = some (some v) ∧ Rep K G d v
  own : ∀ (i : Nat) (d : D), env[i]? = some (Sl.own d) → ∃ (a : Addr) (o : HO), A[i]? = some (some a) ∧ σ[i]? = some (some (V.ref a)) ∧ H a = some o ∧ OwnO K G d o
  off : ∀ a : Addr, some a ∈ A → G a = none ∧ H a ≠ none
  inj : ∀ (i j : Nat) (a : Addr), A[i]? = some (some a) → A[j]? = some (some a) → i = j
  has : ∀ (i : Nat) (a : Addr), A[i]? = some (some a) → ∃ d, env[i]? = some (Sl.own d)
/-- what an evaluation leaves -/
structure Adv (A : List (Option Addr)) (G H G' H' : Hp) : Prop where
  g : Same G G'
  new : ∀ b o, G' b = some o → G b = some o ∨ H b = none
  fr : ∀ b o, some b ∉ A → H b = some o → H' b = some o
  th : ∀ b, H' b = none → H b = none
theorem Adv.refl {A : List (Option Addr)} {G H : Hp} : Adv A G H G H := ⟨Same.refl G, fun _ _ h => .inl h, fun _ _ _ h => h, fun _ h => h⟩
theorem Adv.trans {A : List (Option Addr)} {G H G1 H1 G2 H2 : Hp} (a : Adv A G H G1 H1) (b : Adv A G1 H1 G2 H2) : Adv A G H G2 H2 where
  g := a.g.trans b.g
  new := fun c o h => by
    rcases b.new c o h with h | h
    · exact a.new c o h
    · exact .inr (a.th c h)
  fr := fun c o n h => b.fr c o n (a.fr c o n h)
  th := fun c h => a.th c (b.th c h)
theorem same_upd {G : Hp} {p : Addr} {o : HO} (h : G p = none) : Same G (upd G p o) := fun a u e => by
  rw [upd_ne (ne_of_none e h)]
  exact e
/-- a new object that is shared from now on -/
theorem Adv.laid {A : List (Option Addr)} {G H : Hp} {p : Addr} {o : HO} (ex : Same G H) (h : H p = none) : Adv A G H (upd G p o) (upd H p o) where
  g := same_upd (ex.free h)
  new := fun b u e => by
    by_cases hb : b = p
    · rw [hb]
      exact .inr h
    · rw [upd_ne hb] at e
      exact .inl e
  fr := fun b u _ e => same_upd h b u e
  th := fun b e => by
    by_cases hb : b = p
    · rw [hb]
      exact h
    · rw [upd_ne hb] at e
      exact e
theorem same_upds {G H : Hp} {p : Addr} {o : HO} (ex : Same G H) : Same (upd G p o) (upd H p o) := fun b u e => by
  by_cases hb : b = p
  · rw [hb, upd_same] at e ⊢
    exact e
  · rw [upd_ne hb] at e ⊢
    exact ex b u e
section
variable {K : PySem.W.Frag} {A : List (Option Addr)} {env : En} {G G' H H' : Hp} {σ : L2.St}
/-- the frame as it stands, behind an evaluation that left its owned objects alone -/
theorem Rel.step (r : Rel K A env G σ H) (ad : Adv A G H G' H') (ex : Same G' H') (keep : ∀ a o, some a ∈ A → H a = some o → H' a = some o) : Rel K A env G' σ H' where
  ex := ex
  len := r.len
  lenA := r.lenA
  val := fun i d e => let ⟨v, a, b⟩ := r.val i d e; ⟨v, a, b.mono ad.g⟩
  own := fun i d e => by
    obtain ⟨a, o, h1, h2, h3, h4⟩ := r.own i d e
    exact ⟨a, o, h1, h2, keep a o (List.mem_of_getElem? h1) h3, h4.mono ad.g⟩
  off := fun a h => by
    obtain ⟨h1, h2⟩ := r.off a h
    refine ⟨?_, fun z => h2 (ad.th a z)⟩
    cases q : G' a with
    | none => rfl
    | some o =>
      rcases ad.new a o q with z | z
      · rw [h1] at z
        cases z
      · exact absurd z h2
  inj := r.inj
  has := r.has
theorem Rel.laid (r : Rel K A env G σ H) {p : Addr} {o : HO} (h : H p = none) : Rel K A env (upd G p o) σ (upd H p o) :=
  r.step (Adv.laid r.ex h) (same_upds r.ex) fun a u _ e => same_upd h a u e
end

/-! ### ends -/
/-- an exception as it leaves: its class, its dict -/
def XRep (K : PySem.W.Frag) (G H : Hp) (x : D) (C : Value) (d : Option Addr) : Prop := ∃ c fs, x = .exc c fs ∧ C = .ref (He.ga K c) ∧
  ((fs = [] ∧ d = none) ∨ ∃ dx us, d = some dx ∧ H dx = some (.xd us) ∧ RepF K G fs us)
def Post {α : Type} (K : PySem.W.Frag) (A : List (Option Addr)) (G : Hp) (σ : L2.St) (H : Hp) (W : WX) (r : R α) (Q : α → En → Hp → Hp → Prop) : Prop := match r with
  | .ok a e => ∀ G' H', Adv A G H G' H' → Rel K A e G' σ H' → Q a e G' H'
  | .err x e => ∀ G' H' C d, Adv A G H G' H' → Rel K A e G' σ H' → XRep K G' H' x C d → W C d σ H'
  | .stuck => False
section
variable {α β : Type} {K : PySem.W.Frag} {A : List (Option Addr)} {env : En} {G H : Hp} {σ : L2.St} {W : WX} {r : R α} {Q Q' : α → En → Hp → Hp → Prop}
theorem Post.mono (h : Post K A G σ H W r Q) (k : ∀ a e G' H', Adv A G H G' H' → Rel K A e G' σ H' → Q a e G' H' → Q' a e G' H') : Post K A G σ H W r Q' := by
  cases r with
  | ok a e => exact fun G' H' ad rl => k a e G' H' ad rl (h G' H' ad rl)
  | err x e => exact h
  | stuck => exact h
theorem Post.from {G1 H1 : Hp} (ad : Adv A G H G1 H1) (h : Post K A G σ H W r Q) : Post K A G1 σ H1 W r Q := by
  cases r with
  | ok a e => exact fun G' H' a2 rl => h G' H' (ad.trans a2) rl
  | err x e => exact fun G' H' C d a2 rl xr => h G' H' C d (ad.trans a2) rl xr
  | stuck => exact h
theorem Post.bind {f : α → En → R β} {Q : β → En → Hp → Hp → Prop} (h : Post K A G σ H W (r.bind f) Q) : Post K A G σ H W r fun a e G1 H1 => Post K A G1 σ H1 W (f a e) Q := by
  cases r with
  | ok a e => exact fun G1 H1 ad _ => Post.from ad h
  | err x e => exact h
  | stuck => exact h
theorem Post.here {a : α} (h : Post K A G σ H W (.ok a env) Q) (rl : Rel K A env G σ H) : Q a env G H := h G H Adv.refl rl
theorem Post.new {a : α} {p : Addr} {o : HO} (h : Post K A G σ H W (.ok a env) Q) (rl : Rel K A env G σ H) (n : H p = none) : Q a env (upd G p o) (upd H p o) := h _ _ (Adv.laid rl.ex n) (rl.laid n)
end

/-! ### judgements -/
/-- an expression does what m says -/
def SE (X : Cx) (W : WX) (e : Expr) (m : M D) : Prop := ∃ t, PE X e t ∧ ∀ A env G σ H (Q : VK), Rel X.K A env G σ H →
  Post X.K A G σ H W (m env) (fun d _ G' H' => ∀ v, Rep X.K G' d v → Q v H') → t σ H Q
def SA (X : Cx) (W : WX) (es : List Expr) (m : M (List D)) : Prop := ∃ t, PA X es t ∧ ∀ A env G σ H (Q : List V → Hp → Prop), Rel X.K A env G σ H →
  Post X.K A G σ H W (m env) (fun ds _ G' H' => ∀ vs, Reps X.K G' ds vs → Q vs H') → t σ H Q
/-- a test -/
def ST (X : Cx) (W : WX) (e : Expr) (m : M Bool) : Prop := ∃ t, PT X e t ∧ ∀ A env G σ H (Q : Bool → Hp → Prop), Rel X.K A env G σ H →
  Post X.K A G σ H W (m env) (fun b _ _ H' => Q b H') → t σ H Q
end Mini
set_option maxHeartbeats 1000000
/-! Mini, part 2: expressions but calls of the program's own defs. -/
namespace Mini
open PySem PySem.Spec PyProof.Rows L2
/-- the longest list, tuple, text that is made here -/
def LIM : Nat := 1000000
theorem lim_ok {n : Nat} (h : n ≤ LIM) : n ≤ sizeLine := by
  rw [sizeLine_eq]
  exact Nat.le_trans h (by unfold LIM; decide)
theorem lim_lt {n : Nat} (h : n < LIM) : n < sizeLine := by
  rw [sizeLine_eq]
  exact Nat.lt_of_lt_of_le h (by unfold LIM; decide)
section
variable {X : Cx} {W : WX}
/-! ### names, constants -/
def getv (i : Nat) : M D := fun e => match e[i]? with
  | some (.val d) => .ok d e
  | _ => .stuck
theorem se_var {i : Nat} {x : Str} {pos : Pos} (hN : X.N[i]? = some x) (hv : Vis X.env.scope x) (hd : (x == ("__debug__" : Str)) = false) (hcd : (x == ("__classdict__" : Str)) = false) : SE X W (.Name x pos) (getv i) := by
  refine ⟨_, pe_var hN hv hd hcd, fun A env G σ H Q rl h => ?_⟩
  unfold getv at h
  split at h
  · rename_i d e
    obtain ⟨v, a, b⟩ := rl.val i d e
    exact ⟨v, a, Post.here h rl v b⟩
  · exact False.elim h
theorem se_pure {e : Expr} {d : D} {v : V} (hp : PE X e (tC v)) (r : ∀ G, Rep X.K G d v) : SE X W e (ret d) :=
  ⟨_, hp, fun A env G σ H Q rl h => Post.here h rl v (r G)⟩
theorem se_int {i : Int} {j : Nat} {pos : Pos} : SE X W (.Constant (.int i) j pos) (ret (.int i)) := se_pure pe_int fun _ => rfl
theorem se_bl {b : Bool} {j : Nat} {pos : Pos} : SE X W (.Constant (.bool b) j pos) (ret (.bl b)) := se_pure pe_bl fun _ => rfl
theorem se_non {j : Nat} {pos : Pos} : SE X W (.Constant .none j pos) (ret .non) := se_pure pe_non fun _ => rfl
theorem se_str {x : Str} {j : Nat} {pos : Pos} : SE X W (.Constant (.str x) j pos) (ret (.str x)) := se_pure pe_str fun _ => rfl
theorem se_never {e : Expr} {m : M D} (h : ∀ env, m env = .stuck) : SE X W e m :=
  ⟨fun _ _ _ => False, ⟨fun _ _ _ _ _ _ z => z.elim⟩, fun A env G σ H Q rl p => by rw [h env] at p; exact p⟩
theorem se_eq {e : Expr} {m m' : M D} (h : SE X W e m) (q : m = m') : SE X W e m' := q ▸ h

/-! ### operators by values -/
def OpS (X : Cx) (W : WX) (f : Value → Value → Sem Value) (g : D → D → M D) : Prop := ∃ r, OpR X f r ∧ ∀ A env G σ H (Q : VK) a b x y, Rel X.K A env G σ H → Rep X.K G a x → Rep X.K G b y →
  Post X.K A G σ H W (g a b env) (fun d _ G' H' => ∀ v, Rep X.K G' d v → Q v H') → r x y H Q
/-- g1, and where it has no word g2 -/
def orM (g1 g2 : D → D → M D) : D → D → M D := fun a b e => match g1 a b e with
  | .stuck => g2 a b e
  | r => r
theorem OpS.or {f : Value → Value → Sem Value} {g1 g2 : D → D → M D} (h1 : OpS X W f g1) (h2 : OpS X W f g2) : OpS X W f (orM g1 g2) := by
  obtain ⟨r1, o1, k1⟩ := h1
  obtain ⟨r2, o2, k2⟩ := h2
  refine ⟨_, o1.or o2, fun A env G σ H Q a b x y rl ra rb h => ?_⟩
  unfold orM at h
  cases e : g1 a b env with
  | stuck =>
    rw [e] at h
    exact .inr (k2 A env G σ H Q a b x y rl ra rb h)
  | ok d e' =>
    rw [e] at h
    exact .inl (k1 A env G σ H Q a b x y rl ra rb (by rw [e]; exact h))
  | err z e' =>
    rw [e] at h
    exact .inl (k1 A env G σ H Q a b x y rl ra rb (by rw [e]; exact h))
theorem OpS.to {f : Value → Value → Sem Value} {g g' : D → D → M D} (h : OpS X W f g) (e : ∀ a b env, g' a b env = g a b env ∨ g' a b env = .stuck) : OpS X W f g' := by
  obtain ⟨r, o, k⟩ := h
  refine ⟨r, o, fun A env G σ H Q a b x y rl ra rb p => ?_⟩
  rcases e a b env with z | z
  · rw [z] at p
    exact k A env G σ H Q a b x y rl ra rb p
  · rw [z] at p
    exact False.elim p
def p2 (f : D → D → Option D) : D → D → M D := fun a b e => match f a b with
  | some d => .ok d e
  | none => .stuck
theorem opS_pure {f : Value → Value → Sem Value} {r : R2} {g : D → D → Option D} (ho : OpR X f r)
    (k : ∀ (G H : Hp) (a b d : D) (x y : V) (Q : VK), Same G H → Rep X.K G a x → Rep X.K G b y → g a b = some d → (∀ v, Rep X.K G d v → Q v H) → r x y H Q) : OpS X W f (p2 g) := by
  refine ⟨r, ho, fun A env G σ H Q a b x y rl ra rb h => ?_⟩
  unfold p2 at h
  split at h
  · rename_i d e
    exact k G H a b d x y Q rl.ex ra rb e (Post.here h rl)
  · exact False.elim h
theorem opS_new {f : Value → Value → Sem Value} {r : R2} {g : D → D → Option D} (ho : OpR X f r)
    (k : ∀ (G H : Hp) (a b d : D) (x y : V) (Q : VK), Same G H → Rep X.K G a x → Rep X.K G b y → g a b = some d → (∀ p o, H p = none → Rep X.K (upd G p o) d (.ref p) → Q (.ref p) (upd H p o)) → r x y H Q) : OpS X W f (p2 g) := by
  refine ⟨r, ho, fun A env G σ H Q a b x y rl ra rb h => ?_⟩
  unfold p2 at h
  split at h
  · rename_i d e
    exact k G H a b d x y Q rl.ex ra rb e fun p o n q => Post.new h rl n (.ref p) q
  · exact False.elim h
/-- two ints -/
def i2 (c : Int → Int → Bool) (g : Int → Int → D) : D → D → Option D
  | .int i, .int j => if c i j then some (g i j) else none
  | _, _ => none
theorem i2_some {c : Int → Int → Bool} {g : Int → Int → D} {a b d : D} (h : i2 c g a b = some d) : ∃ i j, a = .int i ∧ b = .int j ∧ c i j = true ∧ d = g i j := by
  unfold i2 at h
  split at h
  · rename_i i j
    split at h
    · rename_i q
      cases h
      exact ⟨i, j, rfl, rfl, q, rfl⟩
    · cases h
  · cases h
theorem opS_rI {f : Value → Value → Sem Value} {C : Int → Int → Prop} {gv : Int → Int → V} {gd : Int → Int → D} {c : Int → Int → Bool} (ho : OpR X f (rI C gv)) (hc : ∀ i j, c i j = true → C i j) (hr : ∀ G i j, Rep X.K G (gd i j) (gv i j)) : OpS X W f (p2 (i2 c gd)) :=
  opS_pure ho fun G H a b d x y Q ex ra rb e q => by
    obtain ⟨i, j, rfl, rfl, h, rfl⟩ := i2_some e
    exact ⟨i, j, ra, rb, hc i j h, q _ (hr G i j)⟩
theorem opS_rI0 {f : Value → Value → Sem Value} {gv : Int → Int → V} {gd : Int → Int → D} (ho : OpR X f (rI0 gv)) (hr : ∀ G i j, Rep X.K G (gd i j) (gv i j)) : OpS X W f (p2 (i2 (fun _ _ => true) gd)) :=
  opS_pure ho fun G H a b d x y Q ex ra rb e q => by
    obtain ⟨i, j, rfl, rfl, h, rfl⟩ := i2_some e
    exact ⟨i, j, ra, rb, q _ (hr G i j)⟩
def sAdd : D → D → Option D
  | .str a, .str b => if a.length + b.length ≤ LIM then some (.str (a ++ b)) else none
  | _, _ => none
theorem ops_add_str : OpS X W (binaryOp .Add) (p2 sAdd) := opS_pure op_add_str fun G H a b d x y Q ex ra rb e q => by
  unfold sAdd at e
  split at e
  · split at e
    · rename_i h
      cases e
      exact ⟨_, _, ra, rb, lim_ok h, q _ rfl⟩
    · cases e
  · cases e
def lAdd : D → D → Option D
  | .lst a, .lst b => if a.length + b.length ≤ LIM then some (.lst (a ++ b)) else none
  | _, _ => none
theorem ops_add_lst : OpS X W (binaryOp .Add) (p2 lAdd) := opS_new op_cat fun G H a b d x y Q ex ra rb e q => by
  unfold lAdd at e
  split at e
  · split at e
    · rename_i ds es h
      cases e
      obtain ⟨l, xs, rfl, hl, hx⟩ := ra
      obtain ⟨m, ys, rfl, hm, hy⟩ := rb
      have h1 := hx.length
      have h2 := hy.length
      refine ⟨l, m, xs, ys, rfl, rfl, ex _ _ hl, ex _ _ hm, lim_ok (by omega), fun p n => q p _ n ?_⟩
      exact ⟨p, _, rfl, upd_same, Reps.append (hx.mono (same_upd (ex.free n))) (hy.mono (same_upd (ex.free n)))⟩
    · cases e
  · cases e
theorem opS_mix {f : Value → Value → Sem Value} {r : R2} {g : D → D → Option D} (ho : OpR X f r)
    (k : ∀ (G H : Hp) (a b d : D) (x y : V) (Q : VK), Same G H → Rep X.K G a x → Rep X.K G b y → g a b = some d → (∀ v, Rep X.K G d v → Q v H) → (∀ p o, H p = none → Rep X.K (upd G p o) d (.ref p) → Q (.ref p) (upd H p o)) → r x y H Q) : OpS X W f (p2 g) := by
  refine ⟨r, ho, fun A env G σ H Q a b x y rl ra rb h => ?_⟩
  unfold p2 at h
  split at h
  · rename_i d e
    exact k G H a b d x y Q rl.ex ra rb e (Post.here h rl) fun p o n q => Post.new h rl n (.ref p) q
  · exact False.elim h
def tAdd2 : D → D → Option D
  | .tup a, .tup b => if a.length + b.length ≤ LIM then some (.tup (a ++ b)) else none
  | _, _ => none
theorem ops_add_tup : OpS X W (binaryOp .Add) (p2 tAdd2) := opS_mix op_catA fun G H a b d x y Q ex ra rb e q qn => by
  unfold tAdd2 at e
  split at e
  · split at e
    · rename_i ds es h
      cases e
      obtain ⟨l, xs, rfl, hl, hx⟩ := ra
      obtain ⟨m, ys, rfl, hm, hy⟩ := rb
      have h1 := hx.length
      have h2 := hy.length
      refine ⟨l, m, xs, ys, rfl, rfl, sq_t ex hl, sq_t ex hm, lim_ok (by omega), fun z => ?_, fun _ z => ?_, fun _ _ p n => qn p _ n ?_⟩
      · subst z
        cases ds with
        | nil => exact q _ ⟨m, ys, rfl, hm, hy⟩
        | cons c cs =>
          obtain ⟨_, _, w, _⟩ := hx
          cases w
      · subst z
        cases es with
        | nil => exact q _ ⟨l, xs, rfl, hl, by rw [List.append_nil]; exact hx⟩
        | cons c cs =>
          obtain ⟨_, _, w, _⟩ := hy
          cases w
      · exact ⟨p, _, rfl, .inl (.inl upd_same), Reps.append (hx.mono (same_upd (ex.free n))) (hy.mono (same_upd (ex.free n)))⟩
    · cases e
  · cases e
abbrev gAdd : D → D → M D := orM (p2 (i2 (fun _ _ => true) fun i j => .int (i + j))) (orM (p2 sAdd) (orM (p2 lAdd) (p2 tAdd2)))
theorem ops_add : OpS X W (binaryOp .Add) gAdd := (opS_rI0 (gd := fun i j => .int (i + j)) op_add fun _ _ _ => rfl).or (ops_add_str.or (ops_add_lst.or ops_add_tup))
def small (i : Int) : Bool := decide (-(2 ^ 64) < i) && decide (i < 2 ^ 64)
theorem small_ok {i : Int} (h : small i = true) : -(2 ^ 64) < i ∧ i < 2 ^ 64 := by
  unfold small at h
  simp only [Bool.and_eq_true, decide_eq_true_eq] at h
  exact h
abbrev oSub : D → D → M D := p2 (i2 (fun _ _ => true) fun i j => .int (i - j))
abbrev gMul : D → D → M D := p2 (i2 (fun i j => small i || small j) fun i j => .int (i * j))
abbrev gFdiv : D → D → M D := p2 (i2 (fun _ j => decide (0 < j ∧ j < 1073741824)) fun i j => .int (i / j))
abbrev gMod : D → D → M D := p2 (i2 (fun _ j => decide (0 < j)) fun i j => .int (i % j))
abbrev gPow : D → D → M D := p2 (i2 (fun i j => small i && decide (0 ≤ j ∧ j ≤ 1000000)) fun i j => .int (i ^ j.toNat))
theorem ops_sub : OpS X W (binaryOp .Sub) oSub := opS_rI0 op_sub fun _ _ _ => rfl
theorem ops_mul : OpS X W (binaryOp .Mult) gMul := opS_rI op_mul (fun i j h => by
  rcases Bool.or_eq_true_iff.mp h with h | h
  · exact .inl (small_ok h)
  · exact .inr (small_ok h)) fun _ _ _ => rfl
theorem ops_fdiv : OpS X W (binaryOp .FloorDiv) gFdiv := opS_rI op_fdiv (fun i j h => show 0 < j ∧ j < 1073741824 from of_decide_eq_true h) fun _ _ _ => rfl
theorem ops_mod : OpS X W (binaryOp .Mod) gMod := opS_rI op_mod (fun i j h => of_decide_eq_true h) fun _ _ _ => rfl
theorem ops_pow : OpS X W (binaryOp .Pow) gPow := opS_rI op_pow (fun i j h => by
  obtain ⟨h1, h2⟩ := Bool.and_eq_true_iff.mp h
  obtain ⟨h3, h4⟩ := small_ok h1
  obtain ⟨h5, h6⟩ := of_decide_eq_true h2
  exact ⟨h5, h6, by omega⟩) fun _ _ _ => rfl
/-- the operators -/
def gBin : Operator → D → D → M D
  | .Add => gAdd
  | .Sub => oSub
  | .Mult => gMul
  | .FloorDiv => gFdiv
  | .Mod => gMod
  | .Pow => gPow
  | _ => fun _ _ _ => .stuck
def bin2 (g : D → D → M D) (ma mb : M D) : M D := fun e => (ma e).bind fun a e1 => (mb e1).bind fun b e2 => g a b e2
theorem se_op2 {f : Value → Value → Sem Value} {g : D → D → M D} {a b : Expr} {ma mb : M D} {e : Expr} (ho : OpS X W f g) (ha : SE X W a ma) (hb : SE X W b mb)
    (mk : ∀ r ta tb, OpR X f r → PE X a ta → PE X b tb → PE X e (tOp r ta tb)) : SE X W e (bin2 g ma mb) := by
  obtain ⟨r, o, k⟩ := ho
  obtain ⟨ta, pa, ka⟩ := ha
  obtain ⟨tb, pb, kb⟩ := hb
  refine ⟨_, mk r ta tb o pa pb, fun A env G σ H Q rl h => ?_⟩
  refine ka A env G σ H _ rl (Post.mono (Post.bind h) fun da e1 G1 H1 ad1 rl1 h1 x rx => ?_)
  refine kb A e1 G1 σ H1 _ rl1 (Post.mono (Post.bind h1) fun db e2 G2 H2 ad2 rl2 h2 y ry => ?_)
  exact k A e2 G2 σ H2 Q da db x y rl2 (rx.mono ad2.g) ry h2
theorem se_bin {op : Operator} {a b : Expr} {ma mb : M D} {pos : Pos} (ha : SE X W a ma) (hb : SE X W b mb) : SE X W (.BinOp a op b pos) (bin2 (gBin op) ma mb) := by
  cases op with
  | Add => exact se_op2 ops_add ha hb fun _ _ _ => pe_op
  | Sub => exact se_op2 ops_sub ha hb fun _ _ _ => pe_op
  | Mult => exact se_op2 ops_mul ha hb fun _ _ _ => pe_op
  | FloorDiv => exact se_op2 ops_fdiv ha hb fun _ _ _ => pe_op
  | Mod => exact se_op2 ops_mod ha hb fun _ _ _ => pe_op
  | Pow => exact se_op2 ops_pow ha hb fun _ _ _ => pe_op
  | _ =>
    obtain ⟨ta, pa, ka⟩ := ha
    obtain ⟨tb, pb, kb⟩ := hb
    refine ⟨_, pe_op (r := fun _ _ _ _ => False) (fun pins s σ H x y v u Q I rx ry h => h.elim) pa pb, fun A env G σ H Q rl h => ?_⟩
    refine ka A env G σ H _ rl (Post.mono (Post.bind h) fun da e1 G1 H1 ad1 rl1 h1 x rx => ?_)
    exact kb A e1 G1 σ H1 _ rl1 (Post.mono (Post.bind h1) fun db e2 G2 H2 ad2 rl2 h2 y ry => h2)
end
end Mini
set_option maxHeartbeats 1000000
/-! Mini, part 3: tests, displays, subscripts, attributes. -/
namespace Mini
open PySem PySem.Spec PyProof.Rows L2
section
variable {X : Cx} {W : WX}
/-! ### comparisons of numbers, texts -/
def s2 (g : Str → Str → Bool) : D → D → Option D
  | .str a, .str b => some (.bl (g a b))
  | _, _ => none
theorem opS_s2 {f : Value → Value → Sem Value} {g : Str → Str → Bool} (ho : OpR X f (fun x y H Q => ∃ i j, x = .str i ∧ y = .str j ∧ Q (.bl (g i j)) H)) : OpS X W f (p2 (s2 g)) :=
  opS_pure ho fun G H a b d x y Q ex ra rb e q => by
    unfold s2 at e
    split at e
    · cases e
      exact ⟨_, _, ra, rb, q _ rfl⟩
    · cases e
abbrev gLt : D → D → M D := orM (p2 (i2 (fun _ _ => true) fun i j => .bl (decide (i < j)))) (p2 (s2 fun i j => decide (i.cps.toList < j.cps.toList)))
abbrev gLe : D → D → M D := orM (p2 (i2 (fun _ _ => true) fun i j => .bl (decide (i ≤ j)))) (p2 (s2 fun i j => !decide (j.cps.toList < i.cps.toList)))
abbrev gGt : D → D → M D := orM (p2 (i2 (fun _ _ => true) fun i j => .bl (decide (j < i)))) (p2 (s2 fun i j => decide (j.cps.toList < i.cps.toList)))
abbrev gGe : D → D → M D := orM (p2 (i2 (fun _ _ => true) fun i j => .bl (decide (j ≤ i)))) (p2 (s2 fun i j => !decide (i.cps.toList < j.cps.toList)))
theorem ops_lt : OpS X W (compareOp .Lt) gLt := (opS_rI0 (gd := fun i j => .bl (decide (i < j))) op_lt fun _ _ _ => rfl).or (opS_s2 op_lt_str)
theorem ops_le : OpS X W (compareOp .LtE) gLe := (opS_rI0 (gd := fun i j => .bl (decide (i ≤ j))) op_le fun _ _ _ => rfl).or (opS_s2 op_le_str)
theorem ops_gt : OpS X W (compareOp .Gt) gGt := (opS_rI0 (gd := fun i j => .bl (decide (j < i))) op_gt fun _ _ _ => rfl).or (opS_s2 op_gt_str)
theorem ops_ge : OpS X W (compareOp .GtE) gGe := (opS_rI0 (gd := fun i j => .bl (decide (j ≤ i))) op_ge fun _ _ _ => rfl).or (opS_s2 op_ge_str)
/-- is None, is True .. -/
def gIsD (neg : Bool) : D → D → Option D
  | .non, .non => some (.bl (!neg))
  | .bl a, .bl b => some (.bl (if neg then !decide (a = b) else decide (a = b)))
  | .bl _, .non | .int _, .non | .str _, .non | .lst _, .non | .tup _, .non | .dct _, .non | .ins _ _, .non | .exc _ _, .non => some (.bl neg)
  | _, _ => none
/-- a comparison as a value, as a test -/
theorem se_cmp {op : CmpOp} {g : D → D → M D} {a b : Expr} {ma mb : M D} {pos : Pos} (ho : OpS X W (compareOp op) g) (ha : SE X W a ma) (hb : SE X W b mb) (hm : behindInMarks op b = false) : SE X W (.Compare a [op] [b] pos) (bin2 g ma mb) :=
  se_op2 ho ha hb fun _ _ _ o p q => pe_cmpR o p q hm
/-- the truth that a value of True, False has -/
def asB (m : M D) : M Bool := fun e => (m e).bind fun d e1 => match d with
  | .bl b => .ok b e1
  | _ => .stuck
theorem post_asB {K : PySem.W.Frag} {A : List (Option Addr)} {G H : Hp} {σ : L2.St} {m : M D} {env : En} {Q : Bool → Hp → Prop} (h : Post K A G σ H W (asB m env) fun b _ _ H' => Q b H') :
    Post K A G σ H W (m env) fun d _ G' H' => ∀ v, Rep K G' d v → ∃ k, v = .bl k ∧ Q k H' := by
  refine Post.mono (Post.bind h) fun d e1 G1 H1 ad rl p v rv => ?_
  cases d with
  | bl b => exact ⟨b, rv, Post.here p rl⟩
  | _ => exact False.elim p
theorem st_cmp {op : CmpOp} {g : D → D → M D} {a b : Expr} {ma mb : M D} {pos : Pos} (ho : OpS X W (compareOp op) g) (ha : SE X W a ma) (hb : SE X W b mb) (hm : behindInMarks op b = false) : ST X W (.Compare a [op] [b] pos) (asB (bin2 g ma mb)) := by
  obtain ⟨r, o, k⟩ := ho
  obtain ⟨ta, pa, ka⟩ := ha
  obtain ⟨tb, pb, kb⟩ := hb
  refine ⟨_, pt_cmpR o pa pb hm, fun A env G σ H Q rl h => ?_⟩
  have h' := post_asB h
  refine ka A env G σ H _ rl (Post.mono (Post.bind h') fun da e1 G1 H1 ad1 rl1 h1 x rx => ?_)
  refine kb A e1 G1 σ H1 _ rl1 (Post.mono (Post.bind h1) fun db e2 G2 H2 ad2 rl2 h2 y ry => ?_)
  exact k A e2 G2 σ H2 _ da db x y rl2 (rx.mono ad2.g) ry h2
/-! ### truth -/
def truD : D → Option Bool
  | .non => some false
  | .bl b => some b
  | .int i => some (i != 0)
  | .str x => if x.length ≤ LIM then some ((x.length : Int) != 0) else none
  | .lst xs => some (!xs.isEmpty)
  | .tup xs => some (!xs.isEmpty)
  | .dct kvs => some (!kvs.isEmpty)
  | _ => none
theorem Reps.isEmpty {K : PySem.W.Frag} {G : Hp} {ds : List D} {xs : List V} (h : Reps K G ds xs) : ds.isEmpty = xs.isEmpty := by
  cases ds with
  | nil =>
    rw [show xs = [] from h]
    rfl
  | cons d ds =>
    obtain ⟨v, vs, e, _⟩ := h
    rw [e]
    rfl
theorem RepK.isEmpty {K : PySem.W.Frag} {G : Hp} {ds : List (Key × D)} {xs : List (Key × V)} (h : RepK K G ds xs) : ds.isEmpty = xs.isEmpty := by
  cases ds with
  | nil =>
    rw [show xs = [] from h]
    rfl
  | cons d ds =>
    obtain ⟨v, vs, e, _⟩ := h
    rw [e]
    rfl
theorem truD_ok {K : PySem.W.Frag} {G H : Hp} {d : D} {v : V} {b : Bool} (ex : Same G H) (r : Rep K G d v) (h : truD d = some b) : TruV K v H b := by
  cases d with
  | non =>
    cases h
    rw [show v = .non from r]
    rfl
  | bl c =>
    cases h
    rw [show v = .bl _ from r]
    rfl
  | int i =>
    cases h
    rw [show v = .int i from r]
    rfl
  | str x =>
    have h : (if x.length ≤ LIM then some ((x.length : Int) != 0) else none) = some b := h
    split at h
    · rename_i q
      cases h
      rw [show v = .str x from r]
      exact ⟨lim_ok q, rfl⟩
    · cases h
  | lst xs =>
    cases h
    obtain ⟨a, ys, rfl, h1, h2⟩ := r
    exact .inl ⟨ys, SqL.of (ex _ _ h1), by rw [h2.isEmpty]⟩
  | tup xs =>
    cases h
    obtain ⟨a, ys, rfl, h1, h2⟩ := r
    exact .inr (.inl ⟨ys, sq_t ex h1, by rw [h2.isEmpty]⟩)
  | dct xs =>
    cases h
    obtain ⟨a, ys, rfl, h1, h2⟩ := r
    exact .inr (.inr ⟨ys, ex _ _ h1, by rw [h2.isEmpty]⟩)
  | _ => cases h
def asT (m : M D) : M Bool := fun e => (m e).bind fun d e1 => match truD d with
  | some b => .ok b e1
  | none => .stuck
theorem st_truth {e : Expr} {m : M D} (he : SE X W e m) (hi : ∀ whole, isTrue e X.env whole = (do let v ← whole; standAt e.pos; holding [v] (truthy v))) : ST X W e (asT m) := by
  obtain ⟨t, p, k⟩ := he
  refine ⟨_, pt_truth p hi, fun A env G σ H Q rl h => ?_⟩
  refine k A env G σ H _ rl (Post.mono (Post.bind h) fun d e1 G1 H1 ad rl1 q v rv => ?_)
  cases c : truD d with
  | none =>
    rw [c] at q
    exact q.elim
  | some b =>
    rw [c] at q
    exact ⟨b, truD_ok rl1.ex rv c, Post.here q rl1⟩
/-! ### not, and, or -/
def notM (m : M Bool) : M Bool := fun e => (m e).bind fun b e1 => .ok (!b) e1
theorem st_not {e : Expr} {m : M Bool} {pos : Pos} (h : ST X W e m) : ST X W (.UnaryOp .Not e pos) (notM m) := by
  obtain ⟨t, p, k⟩ := h
  refine ⟨_, pt_not p, fun A env G σ H Q rl h => ?_⟩
  exact k A env G σ H _ rl (Post.mono (Post.bind h) fun b e1 G1 H1 ad rl1 q => Post.here q rl1)
def andM (m n : M Bool) : M Bool := fun e => (m e).bind fun b e1 => if b then n e1 else .ok false e1
def orB (m n : M Bool) : M Bool := fun e => (m e).bind fun b e1 => if b then .ok true e1 else n e1
/-- a test as part of and, or -/
def SW (X : Cx) (W : WX) (e : Expr) (m : M Bool) : Prop := ∃ t, PW X e t ∧ ∀ A env G σ H (Q : Bool → Hp → Prop), Rel X.K A env G σ H →
  Post X.K A G σ H W (m env) (fun b _ _ H' => Q b H') → t σ H Q
theorem SW.st {e : Expr} {m : M Bool} (h : SW X W e m) : ST X W e m := let ⟨t, p, k⟩ := h; ⟨t, p.pt, k⟩
theorem sw_and1 {e : Expr} {m : M Bool} {pos : Pos} (h : ST X W e m) : SW X W (.BoolOp .And [e] pos) m := let ⟨t, p, k⟩ := h; ⟨t, pw_and1 p, k⟩
theorem sw_or1 {e : Expr} {m : M Bool} {pos : Pos} (h : ST X W e m) : SW X W (.BoolOp .Or [e] pos) m := let ⟨t, p, k⟩ := h; ⟨t, pw_or1 p, k⟩
theorem sw_and {a b : Expr} {rest : List Expr} {m n : M Bool} {pos : Pos} (h : ST X W a m) (h2 : SW X W (.BoolOp .And (b :: rest) pos) n) : SW X W (.BoolOp .And (a :: b :: rest) pos) (andM m n) := by
  obtain ⟨t, p, k⟩ := h
  obtain ⟨u, q, l⟩ := h2
  refine ⟨_, pw_and p q, fun A env G σ H Q rl h => ?_⟩
  refine k A env G σ H _ rl (Post.mono (Post.bind h) fun b e1 G1 H1 ad rl1 z => ?_)
  cases b with
  | true => exact l A e1 G1 σ H1 Q rl1 z
  | false => exact Post.here z rl1
theorem sw_or {a b : Expr} {rest : List Expr} {m n : M Bool} {pos : Pos} (h : ST X W a m) (h2 : SW X W (.BoolOp .Or (b :: rest) pos) n) : SW X W (.BoolOp .Or (a :: b :: rest) pos) (orB m n) := by
  obtain ⟨t, p, k⟩ := h
  obtain ⟨u, q, l⟩ := h2
  refine ⟨_, pw_or p q, fun A env G σ H Q rl h => ?_⟩
  refine k A env G σ H _ rl (Post.mono (Post.bind h) fun b e1 G1 H1 ad rl1 z => ?_)
  cases b with
  | true => exact Post.here z rl1
  | false => exact l A e1 G1 σ H1 Q rl1 z
/-- as values, the left ones True or False -/
def andV (m n : M D) : M D := fun e => (m e).bind fun d e1 => match d with
  | .bl true => n e1
  | .bl false => .ok (.bl false) e1
  | _ => .stuck
def orV (m n : M D) : M D := fun e => (m e).bind fun d e1 => match d with
  | .bl true => .ok (.bl true) e1
  | .bl false => n e1
  | _ => .stuck
def notV (m : M D) : M D := fun e => (m e).bind fun d e1 => match d with
  | .bl b => .ok (.bl (!b)) e1
  | _ => .stuck
theorem se_one {op : BoolOp} {a : Expr} {m : M D} {pos : Pos} (h : SE X W a m) : SE X W (.BoolOp op [a] pos) m := let ⟨t, p, k⟩ := h; ⟨t, pe_one p, k⟩
theorem se_and {a b : Expr} {rest : List Expr} {m n : M D} {pos : Pos} (h : SE X W a m) (h2 : SE X W (.BoolOp .And (b :: rest) pos) n) : SE X W (.BoolOp .And (a :: b :: rest) pos) (andV m n) := by
  obtain ⟨t, p, k⟩ := h
  obtain ⟨u, q, l⟩ := h2
  refine ⟨_, pe_and p q, fun A env G σ H Q rl h => ?_⟩
  refine k A env G σ H _ rl (Post.mono (Post.bind h) fun d e1 G1 H1 ad rl1 z v rv => ?_)
  cases d with
  | bl c =>
    refine ⟨c, rv, ?_⟩
    cases c with
    | true => exact l A e1 G1 σ H1 Q rl1 z
    | false => exact Post.here z rl1 _ rfl
  | _ => exact False.elim z
theorem se_or {a b : Expr} {rest : List Expr} {m n : M D} {pos : Pos} (h : SE X W a m) (h2 : SE X W (.BoolOp .Or (b :: rest) pos) n) : SE X W (.BoolOp .Or (a :: b :: rest) pos) (orV m n) := by
  obtain ⟨t, p, k⟩ := h
  obtain ⟨u, q, l⟩ := h2
  refine ⟨_, pe_or p q, fun A env G σ H Q rl h => ?_⟩
  refine k A env G σ H _ rl (Post.mono (Post.bind h) fun d e1 G1 H1 ad rl1 z v rv => ?_)
  cases d with
  | bl c =>
    refine ⟨c, rv, ?_⟩
    cases c with
    | true => exact Post.here z rl1 _ rfl
    | false => exact l A e1 G1 σ H1 Q rl1 z
  | _ => exact False.elim z
theorem se_not {a : Expr} {m : M D} {pos : Pos} (h : SE X W a m) : SE X W (.UnaryOp .Not a pos) (notV m) := by
  obtain ⟨t, p, k⟩ := h
  refine ⟨_, pe_not p, fun A env G σ H Q rl h => ?_⟩
  refine k A env G σ H _ rl (Post.mono (Post.bind h) fun d e1 G1 H1 ad rl1 z v rv => ?_)
  cases d with
  | bl c => exact ⟨c, rv, Post.here z rl1 _ rfl⟩
  | _ => exact False.elim z
def ifM {α : Type} (t : M Bool) (m n : M α) : M α := fun e => (t e).bind fun b e1 => if b then m e1 else n e1
theorem se_if {c a b : Expr} {t : M Bool} {m n : M D} {pos : Pos} (hc : ST X W c t) (ha : SE X W a m) (hb : SE X W b n) : SE X W (.IfExp c a b pos) (ifM t m n) := by
  obtain ⟨tc, pc, kc⟩ := hc
  obtain ⟨ta, pa, ka⟩ := ha
  obtain ⟨tb, pb, kb⟩ := hb
  refine ⟨_, pe_ifExp pc pa pb, fun A env G σ H Q rl h => ?_⟩
  refine kc A env G σ H _ rl (Post.mono (Post.bind h) fun c e1 G1 H1 ad rl1 z => ?_)
  cases c with
  | true => exact ka A e1 G1 σ H1 Q rl1 z
  | false => exact kb A e1 G1 σ H1 Q rl1 z
/-! ### displays -/
theorem sa_nil : SA X W [] (ret []) := ⟨_, pa_nil, fun A env G σ H Q rl h => Post.here h rl [] rfl⟩
def consM (m : M D) (ms : M (List D)) : M (List D) := fun e => (m e).bind fun d e1 => (ms e1).bind fun ds e2 => .ok (d :: ds) e2
theorem sa_cons {e : Expr} {es : List Expr} {m : M D} {ms : M (List D)} (h : SE X W e m) (hs : SA X W es ms) (hst : starEach (e :: es) X.env = (false, eval e X.env) :: starEach es X.env) : SA X W (e :: es) (consM m ms) := by
  obtain ⟨t, p, k⟩ := h
  obtain ⟨u, q, l⟩ := hs
  refine ⟨_, pa_cons p q hst, fun A env G σ H Q rl h => ?_⟩
  refine k A env G σ H _ rl (Post.mono (Post.bind h) fun d e1 G1 H1 ad rl1 z v rv => ?_)
  refine l A e1 G1 σ H1 _ rl1 (Post.mono (Post.bind z) fun ds e2 G2 H2 ad2 rl2 z2 vs rvs => ?_)
  exact Post.here z2 rl2 _ ⟨v, vs, rfl, rv.mono ad2.g, rvs⟩
def lstM (ms : M (List D)) : M D := fun e => (ms e).bind fun ds e1 => if ds.length ≤ LIM then .ok (.lst ds) e1 else .stuck
def tupM (ms : M (List D)) : M D := fun e => (ms e).bind fun ds e1 => if ds.length ≤ LIM then .ok (.tup ds) e1 else .stuck
theorem se_lst {es : List Expr} {ms : M (List D)} {pos : Pos} (h : SA X W es ms) : SE X W (.List es pos) (lstM ms) := by
  obtain ⟨t, p, k⟩ := h
  refine ⟨_, pe_lst p, fun A env G σ H Q rl h => ?_⟩
  refine k A env G σ H _ rl (Post.mono (Post.bind h) fun ds e1 G1 H1 ad rl1 z vs rvs => ?_)
  have hl := rvs.length
  by_cases c : ds.length ≤ LIM
  · rw [if_pos c] at z
    exact ⟨lim_ok (by omega), fun p n => Post.new z rl1 n _ ⟨p, vs, rfl, upd_same, rvs.mono (same_upd (rl1.ex.free n))⟩⟩
  · rw [if_neg c] at z
    exact z.elim
theorem se_tup {es : List Expr} {ms : M (List D)} {pos : Pos} {k0 : Nat} (h : SA X W es ms) : SE X W (.Tuple es k0 pos) (tupM ms) := by
  obtain ⟨t, p, k⟩ := h
  refine ⟨_, pe_tup p, fun A env G σ H Q rl h => ?_⟩
  refine k A env G σ H _ rl (Post.mono (Post.bind h) fun ds e1 G1 H1 ad rl1 z vs rvs => ?_)
  have hl := rvs.length
  by_cases c : ds.length ≤ LIM
  · rw [if_pos c] at z
    exact ⟨lim_ok (by omega), fun p n => Post.new z rl1 n _ ⟨p, vs, rfl, .inl (.inl upd_same), rvs.mono (same_upd (rl1.ex.free n))⟩⟩
  · rw [if_neg c] at z
    exact z.elim
/-! ### subscripts -/
theorem Reps.at {K : PySem.W.Frag} {G : Hp} {ds : List D} {xs : List V} {i : Int} {d : D} (h : Reps K G ds xs) (e : atI ds i = some d) : ∃ v, atI xs i = some v ∧ Rep K G d v := by
  unfold atI at e ⊢
  rw [h.length]
  cases q : ixN ds.length i with
  | none =>
    rw [q] at e
    cases e
  | some j =>
    rw [q] at e
    exact h.get e
def ixD : D → D → Option D
  | .lst ds, .int i => atI ds i
  | .tup ds, .int i => atI ds i
  | .scr ns, .int i => (atI ns i).map .int
  | .str z, .int i => if z.length ≤ LIM then (atI z.cps.toList i).map fun c => .str ⟨#[c]⟩ else none
  | _, _ => none
theorem at_map {α β : Type} (f : α → β) (xs : List α) (i : Int) : atI (xs.map f) i = (atI xs i).map f := by
  unfold atI
  rw [List.length_map]
  cases ixN xs.length i with
  | none => rfl
  | some j => simp
theorem se_ix {a b : Expr} {ma mb : M D} {pos : Pos} (ha : SE X W a ma) (hb : SE X W b mb) (hp : PlainIx b) : SE X W (.Subscript a b pos) (bin2 (p2 ixD) ma mb) := by
  obtain ⟨ta, pa, ka⟩ := ha
  obtain ⟨tb, pb, kb⟩ := hb
  refine ⟨_, pe_ix ix_seq pa pb hp, fun A env G σ H Q rl h => ?_⟩
  refine ka A env G σ H _ rl (Post.mono (Post.bind h) fun da e1 G1 H1 ad1 rl1 h1 x rx => ?_)
  refine kb A e1 G1 σ H1 _ rl1 (Post.mono (Post.bind h1) fun db e2 G2 H2 ad2 rl2 h2 y ry => ?_)
  have rx2 := rx.mono ad2.g
  unfold p2 at h2
  split at h2
  · rename_i d e
    unfold ixD at e
    split at e
    · obtain ⟨p, xs, rfl, g1, g2⟩ := rx2
      obtain ⟨v, e2, rv⟩ := g2.at e
      exact .inl ⟨p, xs, _, v, rfl, ry, SqL.of (rl2.ex _ _ g1), e2, Post.here h2 rl2 v rv⟩
    · obtain ⟨p, xs, rfl, g1, g2⟩ := rx2
      obtain ⟨v, e2, rv⟩ := g2.at e
      exact .inr (.inl ⟨p, xs, _, v, rfl, ry, sq_t rl2.ex g1, e2, Post.here h2 rl2 v rv⟩)
    · rename_i ns i
      obtain ⟨p, rfl, g1⟩ := rx2
      cases q : atI ns i with
      | none =>
        rw [q] at e
        cases e
      | some n =>
        rw [q] at e
        cases e
        exact .inl ⟨p, _, i, .int n, rfl, ry, rl2.ex.seq g1, by rw [at_map, q]; rfl, Post.here h2 rl2 _ rfl⟩
    · rename_i z i
      split at e
      · rename_i hz
        cases q : atI z.cps.toList i with
        | none =>
          rw [q] at e
          cases e
        | some c =>
          rw [q] at e
          cases e
          exact .inr (.inr ⟨z, i, c, rx2, ry, lim_ok hz, q, Post.here h2 rl2 _ rfl⟩)
      · cases e
    · cases e
  · exact h2.elim
end
end Mini
set_option maxHeartbeats 1000000
/-! Mini, part 4: attributes, slices, a frame's own objects read. -/
namespace Mini
open PySem PySem.Spec PyProof.Rows L2
/-- what the text says of its classes, as far as it is asked here -/
structure Tab where
  /-- instances of the plain class c have the field f -/
  fld : Str → Str → Bool
  /-- errors of the class c have the field f -/
  exf : Str → Str → Bool
  /-- plain classes, classes of errors -/
  pl : Str → Bool
  er : Str → Bool
  /-- is below: own of own, own of built-in, built-in of own -/
  sub : Str → Str → Option Bool
  subT : Str → String → Option Bool
  subB : String → Str → Option Bool
/-- what isinstance asks of a plain class -/
structure KitP (K : PySem.W.Frag) (C : Addr) : Prop where
  cl : Cls K C
  ha : PySem.W.findIn K (.ref C) "__class__" = some (some (.builtin "object.__class__"))
  hm : PySem.W.mroIn K C (.type "object") = some true
/-- of an error's class -/
structure KitE (K : PySem.W.Frag) (C : Addr) : Prop where
  hcl : (PySem.W.clsIn K C).isSome = true
  hga : PySem.W.findIn K (.ref C) "__getattribute__" = some (some (.builtin "BaseException.__getattribute__"))
  hgt : ∃ gt, PySem.W.findIn K (.ref C) "__getattr__" = some gt
  hsub : PySem.W.subIn K (.ref C) (.type "BaseException") = some true
  ha : PySem.W.findIn K (.ref C) "__class__" = some (some (.builtin "object.__class__"))
  hm : PySem.W.mroIn K C (.type "object") = some true
structure TabOk (T : Tab) (K : PySem.W.Frag) : Prop where
  fld : ∀ c f, T.fld c f = true → Cls K (He.ga K c) ∧ NoAttr K (He.ga K c) f
  exf : ∀ c f, T.exf c f = true → XfC K (He.ga K c) ∧ PySem.W.findIn K (.ref (He.ga K c)) f = some none
  pl : ∀ c, T.pl c = true → KitP K (He.ga K c)
  er : ∀ c, T.er c = true → KitE K (He.ga K c)
  sub : ∀ c c' b, T.sub c c' = some b → PySem.W.kitOne K (.ref (He.ga K c)) (.ref (He.ga K c')) = some b
  subT : ∀ c n b, T.subT c n = some b → PySem.W.kitOne K (.ref (He.ga K c)) (.type n) = some b
  subB : ∀ n c' b, T.subB n c' = some b → PySem.W.kitOne K (.type n) (.ref (He.ga K c')) = some b
  cn : PySem.W.specialIn K (.builtin "object.__class__") "__get__" = some (some (.builtin "getset_descriptor.__get__"))
  ct : PySem.W.takesIn K (.builtin "object.__class__") = some true
section
variable {X : Cx} {W : WX}
/-- an attribute by values -/
def AtR (X : Cx) (f : Str) (r : V → Hp → VK → Prop) : Prop := ∀ (pins : List (Addr × Obj)) (s : Shared) (σ : L2.St) (H : Hp) (x : V) (u : Value) (Q : VK), Inv X pins σ H s → RelV x u → r x H Q →
  wpAny (model X.prog X.w) X.A (getAttr u f true) (EP X pins σ Q) X.xe s
theorem AtR.or {f : Str} {r1 r2 : V → Hp → VK → Prop} (h1 : AtR X f r1) (h2 : AtR X f r2) : AtR X f fun x H Q => r1 x H Q ∨ r2 x H Q := fun pins s σ H x u Q I rx h => h.elim (h1 pins s σ H x u Q I rx) (h2 pins s σ H x u Q I rx)
theorem pe_attr {e : Expr} {f : Str} {pos : Pos} {t : TE} {r : V → Hp → VK → Prop} (hr : AtR X f r) (he : PE X e t) (hb : attributeBase e f X.env (eval e X.env) = eval e X.env) : PE X (.Attribute e f pos) (fun σ H Q => t σ H fun x H1 => r x H1 Q) :=
  ⟨fun pins s σ H Q I h => attr_of hb (thn (he.run pins s σ H _ I h) fun u s1 ⟨x, H1, I1, rx, q⟩ => hr pins s1 σ H1 x u Q I1 rx q)⟩
def rAtI (K : PySem.W.Frag) (f : Str) : V → Hp → VK → Prop := fun x H Q => ∃ a C dx fs v, x = .ref a ∧ H a = some (.ins C dx fs) ∧ Cls K C ∧ NoAttr K C f ∧ fs.lookup f = some v ∧ Q v H
theorem at_ins {f : Str} : AtR X f (rAtI X.K f) := by
  intro pins s σ H x u Q I rx h
  obtain ⟨a, C, dx, fs, v, rfl, ea, c, n, l, q⟩ := h
  obtain rfl : u = Value.ref a := rx
  exact getattr_ok I ea c n l fun w s2 I2 rw2 => ⟨v, H, I2, rw2, q⟩
def rAtE (K : PySem.W.Frag) (f : Str) : V → Hp → VK → Prop := fun x H Q => ∃ a C dx fs v, x = .ref a ∧ H a = some (exo a C (some dx)) ∧ H dx = some (exd dx fs) ∧ XfC K C ∧ PySem.W.findIn K (.ref C) f = some none ∧ fs.lookup f = some v ∧ Q v H
theorem at_exo {f : Str} : AtR X f (rAtE X.K f) := by
  intro pins s σ H x u Q I rx h
  obtain ⟨a, C, dx, fs, v, rfl, ea, ed, c, n, l, q⟩ := h
  obtain rfl : u = Value.ref a := rx
  obtain ⟨t1, ho⟩ := exo_at I.hok ea
  obtain ⟨mA, hns, rel⟩ := exd_at I.hok ed
  obtain ⟨od, hod, hl⟩ := lookIn_ns hns
  obtain ⟨z, hz, rz⟩ := RelO.some_of (v := v) (o := mA f) (by rw [← l]; exact rel f)
  have J : PySem.W.InstAt s.heap a { cls := .ref C, dict := some dx, data := .fields #[.ref t1, .none, .none, .none, .bool false, .none] } C (some od) := ⟨ho, rfl, rfl, hod⟩
  exact HandSPX.exc_get I.kIn J c.ga c.gg c.exC (PySem.W.findObj_own c.hdC n rfl (by rw [hl, hz])) (handed_of rz) ⟨v, H, I.tok _, rz, q⟩
def atD (T : Tab) (f : Str) : D → Option D
  | .ins c fs => if T.fld c f then fs.lookup f else none
  | .exc c fs => if T.exf c f then fs.lookup f else none
  | _ => none
def atM (T : Tab) (f : Str) (m : M D) : M D := fun e => (m e).bind fun d e1 => match atD T f d with
  | some v => .ok v e1
  | none => .stuck
theorem rAt_of {T : Tab} {f : Str} {K : PySem.W.Frag} {G H : Hp} {d c : D} {x : V} {Q : VK} (TO : TabOk T K) (ex : Same G H) (r : Rep K G d x) (e : atD T f d = some c) (q : ∀ v, Rep K G c v → Q v H) : rAtI K f x H Q ∨ rAtE K f x H Q := by
  unfold atD at e
  split at e
  · split at e
    · rename_i hc
      obtain ⟨a, dx, fs, rfl, h1, h2⟩ := r
      obtain ⟨c1, c2⟩ := TO.fld _ _ hc
      obtain ⟨v, l, rv⟩ := h2.lookup e
      exact .inl ⟨a, _, dx, fs, v, rfl, ex _ _ h1, c1, c2, l, q v rv⟩
    · cases e
  · split at e
    · rename_i hc
      obtain ⟨a, dx, fs, rfl, h1, h2, h3⟩ := r
      obtain ⟨c1, c2⟩ := TO.exf _ _ hc
      obtain ⟨v, l, rv⟩ := h3.lookup e
      rcases h2 with ⟨_, rfl⟩ | ⟨x, rfl, h2⟩
      · cases l
      · exact .inr ⟨a, _, x, fs, v, rfl, ex _ _ h1, ex _ _ h2, c1, c2, l, q v rv⟩
    · cases e
  · cases e
theorem se_at {T : Tab} {e : Expr} {f : Str} {pos : Pos} {m : M D} (TO : TabOk T X.K) (he : SE X W e m) (hb : attributeBase e f X.env (eval e X.env) = eval e X.env) : SE X W (.Attribute e f pos) (atM T f m) := by
  obtain ⟨t, p, k⟩ := he
  refine ⟨_, pe_attr (at_ins.or at_exo) p hb, fun A env G σ H Q rl h => ?_⟩
  refine k A env G σ H _ rl (Post.mono (Post.bind h) fun d e1 G1 H1 ad rl1 z x rx => ?_)
  split at z
  · rename_i c hc
    exact rAt_of TO rl1.ex rx hc (Post.here z rl1)
  · exact z.elim
/-! ### slices -/
def SO (X : Cx) (W : WX) (o : Option Expr) (m : M (Option Int)) : Prop := ∃ t, PO X o t ∧ ∀ A env G σ H (Q : Option Int → Hp → Prop), Rel X.K A env G σ H →
  Post X.K A G σ H W (m env) (fun i _ _ H' => Q i H') → t σ H Q
theorem so_none : SO X W none (ret none) := ⟨_, po_none, fun A env G σ H Q rl h => Post.here h rl⟩
def partM (m : M D) : M (Option Int) := fun e => (m e).bind fun d e1 => match d with
  | .int i => .ok (some i) e1
  | _ => .stuck
theorem so_some {e : Expr} {m : M D} (h : SE X W e m) : SO X W (some e) (partM m) := by
  obtain ⟨t, p, k⟩ := h
  refine ⟨_, po_some p, fun A env G σ H Q rl h => ?_⟩
  refine k A env G σ H _ rl (Post.mono (Post.bind h) fun d e1 G1 H1 ad rl1 z v rv => ?_)
  cases d with
  | int i => exact ⟨i, rv, Post.here z rl1⟩
  | _ => exact False.elim z
def cutD {α : Type} (xs : List α) (lo hi : Option Int) : List α := (xs.drop (HT.sIx xs.length 0 lo)).take (HT.sIx xs.length xs.length hi - HT.sIx xs.length 0 lo)
def slD (d : D) (lo hi : Option Int) : Option D := match d with
  | .lst ds => some (.lst (cutD ds lo hi))
  | .scr ns => some (.lst ((cutD ns lo hi).map .int))
  | .tup ds => some (.tup (cutD ds lo hi))
  | _ => none
theorem Reps.cut {K : PySem.W.Frag} {G : Hp} {ds : List D} {xs : List V} (lo hi : Option Int) (h : Reps K G ds xs) : Reps K G (cutD ds lo hi) (cutV xs lo hi) := by
  unfold cutD cutV
  rw [h.length]
  exact (h.drop _).take _
theorem reps_ints {K : PySem.W.Frag} {G : Hp} : ∀ ns : List Int, Reps K G (ns.map D.int) (ns.map V.int)
  | [] => rfl
  | n :: ns => ⟨.int n, ns.map V.int, rfl, rfl, reps_ints ns⟩
theorem cut_map {α β : Type} (f : α → β) (xs : List α) (lo hi : Option Int) : cutD (xs.map f) lo hi = (cutD xs lo hi).map f := by
  unfold cutD
  rw [List.length_map, List.map_take, List.map_drop]
theorem cutV_eq (xs : List V) (lo hi : Option Int) : cutV xs lo hi = cutD xs lo hi := rfl
def slM (m : M D) (ml mh : M (Option Int)) : M D := fun e => (m e).bind fun d e1 => (ml e1).bind fun lo e2 => (mh e2).bind fun hi e3 => match slD d lo hi with
  | some c => .ok c e3
  | none => .stuck
theorem se_sl {e : Expr} {lo hi : Option Expr} {p2 pos : Pos} {m : M D} {ml mh : M (Option Int)} (he : SE X W e m) (hl : SO X W lo ml) (hh : SO X W hi mh) : SE X W (.Subscript e (.Slice lo hi none p2) pos) (slM m ml mh) := by
  obtain ⟨t, p, k⟩ := he
  obtain ⟨tl, pl, kl⟩ := hl
  obtain ⟨th, ph, kh⟩ := hh
  refine ⟨_, pe_slice (sl_list.or sl_tupA) p pl ph, fun A env G σ H Q rl h => ?_⟩
  refine k A env G σ H _ rl (Post.mono (Post.bind h) fun d e1 G1 H1 ad rl1 z x rx => ?_)
  refine kl A e1 G1 σ H1 _ rl1 (Post.mono (Post.bind z) fun o1 e2 G2 H2 ad2 rl2 z2 => ?_)
  refine kh A e2 G2 σ H2 _ rl2 (Post.mono (Post.bind z2) fun o2 e3 G3 H3 ad3 rl3 z3 => ?_)
  have rx3 := rx.mono (ad2.g.trans ad3.g)
  cases d with
  | lst ds =>
    obtain ⟨a, xs, rfl, g1, g2⟩ := rx3
    exact .inl ⟨a, xs, rfl, SqL.of (rl3.ex _ _ g1), fun p n => Post.new z3 rl3 n _ ⟨p, _, rfl, upd_same, (g2.cut o1 o2).mono (same_upd (rl3.ex.free n))⟩⟩
  | scr ns =>
    obtain ⟨a, rfl, g1⟩ := rx3
    refine .inl ⟨a, _, rfl, rl3.ex.seq g1, fun p n => Post.new z3 rl3 n _ ⟨p, _, rfl, upd_same, ?_⟩⟩
    rw [cutV_eq, cut_map]
    exact reps_ints _
  | tup ds =>
    obtain ⟨a, xs, rfl, g1, g2⟩ := rx3
    refine .inr ⟨a, xs, rfl, sq_t rl3.ex g1, fun q => Post.here z3 rl3 _ ⟨a, xs, rfl, g1, ?_⟩, fun q p n => Post.new z3 rl3 n _ ⟨p, _, rfl, .inl (.inl upd_same), (g2.cut o1 o2).mono (same_upd (rl3.ex.free n))⟩⟩
    have hl := g2.length
    obtain ⟨q1, q2⟩ := q
    have e : cutD ds o1 o2 = ds := by
      unfold cutD
      rw [← hl, q1, q2, List.drop_zero, Nat.sub_zero, hl, List.take_length]
    rw [e]
    exact g2
  | _ => exact False.elim z3
/-! ### a frame's own object, read -/
/-- x[..], x an own list of the frame -/
def ownIx (i : Nat) (mb : M D) : M D := fun e => (mb e).bind fun b e1 => match e1[i]? with
  | some (.own (.lst ds)) => (match b with
    | .int j => (match atI ds j with
      | some d => .ok d e1
      | none => .stuck)
    | _ => .stuck)
  | _ => .stuck
def ixOwnM (i : Nat) (mb : M D) : M D := fun e => match e[i]? with
  | some (.own _) => ownIx i mb e
  | _ => .stuck
theorem se_ownIx {i : Nat} {x : Str} {p0 pos : Pos} {b : Expr} {mb : M D} (hN : X.N[i]? = some x) (hv : Vis X.env.scope x) (hd : (x == ("__debug__" : Str)) = false) (hcd : (x == ("__classdict__" : Str)) = false)
    (hb : SE X W b mb) (hp : PlainIx b) : SE X W (.Subscript (.Name x p0) b pos) (ixOwnM i mb) := by
  obtain ⟨tb, pb, kb⟩ := hb
  refine ⟨_, pe_ix ix_seq (pe_var hN hv hd hcd) pb hp, fun A env G σ H Q rl h => ?_⟩
  unfold ixOwnM at h
  split at h
  · rename_i d0 e0
    obtain ⟨a, o, h1, h2, h3, h4⟩ := rl.own i d0 e0
    refine ⟨.ref a, h2, ?_⟩
    refine kb A env G σ H _ rl (Post.mono (Post.bind h) fun db e1 G1 H1 ad rl1 z y ry => ?_)
    split at z
    · rename_i ds q
      obtain ⟨a2, o2, k1, k2, k3, k4⟩ := rl1.own i _ q
      rw [h2] at k2
      cases k2
      obtain ⟨xs, rfl, rx⟩ := k4
      split at z
      · rename_i j
        split at z
        · rename_i d e2
          obtain ⟨v, e3, rv⟩ := rx.at e2
          exact .inl ⟨a, xs, j, v, rfl, ry, SqL.of k3, e3, Post.here z rl1 v rv⟩
        · exact z.elim
      · exact z.elim
    · exact z.elim
  · exact h.elim
end
end Mini
set_option maxHeartbeats 1000000
/-! Mini, part 5: statements. -/
namespace Mini
open PySem PySem.Spec PyProof.Rows L2
/-- a def's entry: how many parameters, which objects are lent to it, the heaps -/
structure Fn where
  np : Option Nat
  B : List (Option Addr)
  G : Hp
  H : Hp
/-- how things stand amid a def's body -/
structure Cur (K : PySem.W.Frag) (F : Fn) (A : List (Option Addr)) (env : En) (G : Hp) (σ : L2.St) (H : Hp) : Prop where
  rel : Rel K A env G σ H
  adv : Adv F.B F.G F.H G H
  fresh : ∀ a, some a ∈ A → some a ∈ F.B ∨ F.H a = none
  keep : ∀ (i : Nat) (a : Addr), F.B[i]? = some (some a) → A[i]? = some (some a)
  loc : ∀ (i n : Nat) (a : Addr), F.B[i]? = some (some a) → F.np = some n → i < n
section
variable {K : PySem.W.Frag} {F : Fn} {A : List (Option Addr)} {env e1 : En} {G G' H H' : Hp} {σ : L2.St}
theorem Adv.behind {B : List (Option Addr)} {G0 H0 : Hp} (a : Adv B G0 H0 G H) (fresh : ∀ c, some c ∈ A → some c ∈ B ∨ H0 c = none) (b : Adv A G H G' H') : Adv B G0 H0 G' H' where
  g := a.g.trans b.g
  new := fun c o h => by
    rcases b.new c o h with h | h
    · exact a.new c o h
    · exact .inr (a.th c h)
  fr := fun c o n h => b.fr c o (fun z => by
    rcases fresh c z with q | q
    · exact n q
    · rw [h] at q
      cases q) (a.fr c o n h)
  th := fun c h => a.th c (b.th c h)
theorem Cur.step (c : Cur K F A env G σ H) (ad : Adv A G H G' H') (rl : Rel K A e1 G' σ H') : Cur K F A e1 G' σ H' :=
  ⟨rl, c.adv.behind c.fresh ad, c.fresh, c.keep, c.loc⟩
end
inductive Fl where
  | nx | rt (d : D) | ro (d : D) | bk | ct
def PostS (K : PySem.W.Frag) (F : Fn) (G : Hp) (W : WX) (r : R Fl) (E : Ends) : Prop := match r with
  | .ok .nx e => ∀ A' G' σ' H', Same G G' → Cur K F A' e G' σ' H' → E.nx σ' H'
  | .ok (.rt d) e => ∀ A' G' σ' H' v, Same G G' → Cur K F A' e G' σ' H' → Rep K G' d v → E.rt v H'
  | .ok (.ro d) e => ∀ A' G' σ' H' p o, Same G G' → Cur K F A' e G' σ' H' → G' p = none → F.H p = none → H' p = some o → OwnO K G' d o → E.rt (.ref p) H'
  | .ok .bk e => ∀ A' G' σ' H', Same G G' → Cur K F A' e G' σ' H' → E.bk σ' H'
  | .ok .ct e => ∀ A' G' σ' H', Same G G' → Cur K F A' e G' σ' H' → E.ct σ' H'
  | .err x e => ∀ A' G' σ' H' C d, Same G G' → Cur K F A' e G' σ' H' → XRep K G' H' x C d → W C d σ' H'
  | .stuck => False
theorem PostS.from {K : PySem.W.Frag} {F : Fn} {G G1 : Hp} {W : WX} {r : R Fl} {E : Ends} (s : Same G G1) (h : PostS K F G W r E) : PostS K F G1 W r E := by
  cases r with
  | ok f e =>
    cases f with
    | nx => exact fun A' G' σ' H' a c => h A' G' σ' H' (s.trans a) c
    | rt d => exact fun A' G' σ' H' v a c => h A' G' σ' H' v (s.trans a) c
    | ro d => exact fun A' G' σ' H' p o a c => h A' G' σ' H' p o (s.trans a) c
    | bk => exact fun A' G' σ' H' a c => h A' G' σ' H' (s.trans a) c
    | ct => exact fun A' G' σ' H' a c => h A' G' σ' H' (s.trans a) c
  | err x e => exact fun A' G' σ' H' C d a c => h A' G' σ' H' C d (s.trans a) c
  | stuck => exact h
abbrev MS := En → R Fl
def SS (X : Cx) (W : WX) (np : Option Nat) (s : Stmt) (m : MS) : Prop := ∃ t, PS X s t ∧ ∀ (F : Fn) A env G σ H (E : Ends), F.np = np → Cur X.K F A env G σ H → PostS X.K F G W (m env) E → t E σ H
def SSs (X : Cx) (W : WX) (np : Option Nat) (s : List Stmt) (m : MS) : Prop := ∃ t, PSs X s t ∧ ∀ (F : Fn) A env G σ H (E : Ends), F.np = np → Cur X.K F A env G σ H → PostS X.K F G W (m env) E → t E σ H
section
variable {X : Cx} {W : WX} {K : PySem.W.Frag} {F : Fn} {A : List (Option Addr)} {env : En} {G H : Hp} {σ : L2.St} {E : Ends}
/-- an expression within a statement -/
theorem Post.stmt {α : Type} {r : R α} {f : α → En → R Fl} (c : Cur K F A env G σ H) (h : PostS K F G W (r.bind f) E) :
    Post K A G σ H W r fun a e1 G1 H1 => Cur K F A e1 G1 σ H1 ∧ PostS K F G1 W (f a e1) E := by
  cases r with
  | ok a e => exact fun G' H' ad rl => ⟨c.step ad rl, PostS.from ad.g h⟩
  | err x e => exact fun G' H' C d ad rl xr => h A G' σ H' C d ad.g (c.step ad rl) xr
  | stuck => exact h
end

section
variable {K : PySem.W.Frag} {F : Fn} {A : List (Option Addr)} {env : En} {G H : Hp} {σ : L2.St}
/-- may an own object at slot i be dropped -/
def mayDrop (np : Option Nat) (i : Nat) : Bool := match np with
  | some n => decide (n ≤ i)
  | none => false
/-- slot i may be stored into: nothing that was lent stands there -/
def free (np : Option Nat) (i : Nat) (env : En) : Bool := decide (i < env.length) && (match env[i]? with
  | some (.own _) => mayDrop np i
  | _ => true)
theorem get_set {α : Type} {l : List α} {i j : Nat} {x y : α} (h : (l.set i x)[j]? = some y) : (j = i ∧ x = y) ∨ (j ≠ i ∧ l[j]? = some y) := by
  by_cases e : i = j
  · subst e
    rw [List.getElem?_set_self'] at h
    cases q : l[i]? with
    | none =>
      rw [q] at h
      cases h
    | some z =>
      rw [q] at h
      exact .inl ⟨rfl, Option.some.inj h⟩
  · rw [List.getElem?_set_ne e] at h
    exact .inr ⟨Ne.symm e, h⟩
theorem Cur.notLent (c : Cur K F A env G σ H) {i : Nat} (h : free F.np i env = true) (a : Addr) : F.B[i]? ≠ some (some a) := fun e => by
  obtain ⟨d, q⟩ := c.rel.has i a (c.keep i a e)
  unfold free at h
  rw [q] at h
  obtain ⟨_, h2⟩ := Bool.and_eq_true_iff.mp h
  have h2 : mayDrop F.np i = true := h2
  unfold mayDrop at h2
  split at h2
  · rename_i n hn
    have h1 := c.loc i n a e hn
    have h3 := of_decide_eq_true h2
    omega
  · cases h2
theorem mem_set_none {A : List (Option Addr)} {i : Nat} {a : Addr} (h : some a ∈ A.set i none) : some a ∈ A := by
  obtain ⟨j, hj⟩ := List.mem_iff_getElem?.mp h
  rcases get_set hj with ⟨_, e⟩ | ⟨_, e⟩
  · cases e
  · exact List.mem_of_getElem? e
/-- a shared datum is stored in a slot -/
theorem Cur.setVal (c : Cur K F A env G σ H) {i : Nat} {d : D} {v : V} (hf : free F.np i env = true) (rv : Rep K G d v) : Cur K F (A.set i none) (env.set i (.val d)) G (σ.set i (some v)) H := by
  have hn := c.notLent hf
  have hi : i < env.length := by
    unfold free at hf
    simp only [Bool.and_eq_true, decide_eq_true_eq] at hf
    exact hf.1
  have hi2 : i < σ.length := by rw [← c.rel.len]; exact hi
  refine ⟨⟨c.rel.ex, by rw [List.length_set, List.length_set]; exact c.rel.len, by rw [List.length_set, List.length_set]; exact c.rel.lenA, fun j d' e => ?_, fun j d' e => ?_, fun a e => ?_, fun j k a e1 e2 => ?_, fun j a e => ?_⟩, c.adv, fun a e => c.fresh a (mem_set_none e), fun j a e => ?_, c.loc⟩
  · rcases get_set e with ⟨rfl, q⟩ | ⟨hj, q⟩
    · cases q
      exact ⟨v, by rw [List.getElem?_set_self hi2], rv⟩
    · obtain ⟨u, h1, h2⟩ := c.rel.val j d' q
      exact ⟨u, by rw [List.getElem?_set_ne (Ne.symm hj)]; exact h1, h2⟩
  · rcases get_set e with ⟨rfl, q⟩ | ⟨hj, q⟩
    · cases q
    · obtain ⟨a, o, h1, h2, h3, h4⟩ := c.rel.own j d' q
      exact ⟨a, o, by rw [List.getElem?_set_ne (Ne.symm hj)]; exact h1, by rw [List.getElem?_set_ne (Ne.symm hj)]; exact h2, h3, h4⟩
  · exact c.rel.off a (mem_set_none e)
  · rcases get_set e1 with ⟨_, q⟩ | ⟨_, q1⟩
    · cases q
    · rcases get_set e2 with ⟨_, q⟩ | ⟨_, q2⟩
      · cases q
      · exact c.rel.inj j k a q1 q2
  · rcases get_set e with ⟨_, q⟩ | ⟨hj, q⟩
    · cases q
    · obtain ⟨d', h1⟩ := c.rel.has j a q
      exact ⟨d', by rw [List.getElem?_set_ne (Ne.symm hj)]; exact h1⟩
  · have hj : j ≠ i := fun z => hn a (z ▸ e)
    rw [List.getElem?_set_ne (Ne.symm hj)]
    exact c.keep j a e
/-- a new object of the frame's own is stored in a slot -/
theorem Cur.setOwn (c : Cur K F A env G σ H) {i : Nat} {d : D} {p : Addr} {o : HO} (hf : free F.np i env = true) (hp : H p = none) (ho : OwnO K G d o) : Cur K F (A.set i (some p)) (env.set i (.own d)) G (σ.set i (some (.ref p))) (upd H p o) := by
  have hn := c.notLent hf
  have hi : i < env.length := by
    unfold free at hf
    simp only [Bool.and_eq_true, decide_eq_true_eq] at hf
    exact hf.1
  have hi2 : i < σ.length := by rw [← c.rel.len]; exact hi
  have hi3 : i < A.length := by rw [c.rel.lenA]; exact hi2
  have hG : G p = none := c.rel.ex.free hp
  have hA : ∀ a, some a ∈ A → a ≠ p := fun a h z => by
    subst z
    exact (c.rel.off _ h).2 hp
  have hm : ∀ a, some a ∈ A.set i (some p) → a = p ∨ some a ∈ A := fun a h => by
    obtain ⟨j, hj⟩ := List.mem_iff_getElem?.mp h
    rcases get_set hj with ⟨_, e⟩ | ⟨_, e⟩
    · exact .inl (Option.some.inj e).symm
    · exact .inr (List.mem_of_getElem? e)
  refine ⟨⟨fun a u e => ?_, by rw [List.length_set, List.length_set]; exact c.rel.len, by rw [List.length_set, List.length_set]; exact c.rel.lenA, fun j d' e => ?_, fun j d' e => ?_, fun a e => ?_, fun j k a e1 e2 => ?_, fun j a e => ?_⟩,
    ⟨c.adv.g, c.adv.new, fun b u n e => ?_, fun b e => ?_⟩, fun a e => ?_, fun j a e => ?_, c.loc⟩
  · exact same_upd hp a u (c.rel.ex a u e)
  · rcases get_set e with ⟨rfl, q⟩ | ⟨hj, q⟩
    · cases q
    · obtain ⟨u, h1, h2⟩ := c.rel.val j d' q
      exact ⟨u, by rw [List.getElem?_set_ne (Ne.symm hj)]; exact h1, h2⟩
  · rcases get_set e with ⟨rfl, q⟩ | ⟨hj, q⟩
    · cases q
      exact ⟨p, o, by rw [List.getElem?_set_self hi3], by rw [List.getElem?_set_self hi2], upd_same, ho⟩
    · obtain ⟨a, u, h1, h2, h3, h4⟩ := c.rel.own j d' q
      refine ⟨a, u, by rw [List.getElem?_set_ne (Ne.symm hj)]; exact h1, by rw [List.getElem?_set_ne (Ne.symm hj)]; exact h2, ?_, h4⟩
      rw [upd_ne (hA a (List.mem_of_getElem? h1))]
      exact h3
  · rcases hm a e with rfl | q
    · exact ⟨hG, by rw [upd_same]; simp⟩
    · refine ⟨(c.rel.off a q).1, ?_⟩
      rw [upd_ne (hA a q)]
      exact (c.rel.off a q).2
  · rcases get_set e1 with ⟨rfl, q1⟩ | ⟨h1, q1⟩
    · cases q1
      rcases get_set e2 with ⟨rfl, q2⟩ | ⟨h2, q2⟩
      · rfl
      · exact absurd rfl (hA _ (List.mem_of_getElem? q2))
    · rcases get_set e2 with ⟨rfl, q2⟩ | ⟨h2, q2⟩
      · cases q2
        exact absurd rfl (hA _ (List.mem_of_getElem? q1))
      · exact c.rel.inj j k a q1 q2
  · rcases get_set e with ⟨rfl, q⟩ | ⟨hj, q⟩
    · exact ⟨d, by rw [List.getElem?_set_self hi]⟩
    · obtain ⟨d', h1⟩ := c.rel.has j a q
      exact ⟨d', by rw [List.getElem?_set_ne (Ne.symm hj)]; exact h1⟩
  · exact same_upd hp b u (c.adv.fr b u n e)
  · refine c.adv.th b ?_
    by_cases hb : b = p
    · rw [hb]
      exact hp
    · rw [upd_ne hb] at e
      exact e
  · rcases hm a e with rfl | q
    · exact .inr (c.adv.th _ hp)
    · exact c.fresh a q
  · have hj : j ≠ i := fun z => hn a (z ▸ e)
    rw [List.getElem?_set_ne (Ne.symm hj)]
    exact c.keep j a e
end
/-! ### statements -/
section
variable {X : Cx} {W : WX} {np : Option Nat}
theorem sss_nil : SSs X W np [] (fun e => .ok .nx e) := ⟨_, pss_nil, fun F A env G σ H E hnp c h => h A G σ H (Same.refl G) c⟩
/-- one behind another -/
def seqM (m n : MS) : MS := fun e => (m e).bind fun f e1 => match f with
  | .nx => n e1
  | f => .ok f e1
theorem sss_cons {s : Stmt} {r : List Stmt} {m n : MS} (h : SS X W np s m) (h2 : SSs X W np r n) : SSs X W np (s :: r) (seqM m n) := by
  obtain ⟨t, p, k⟩ := h
  obtain ⟨u, q, l⟩ := h2
  refine ⟨_, pss_cons p q, fun F A env G σ H E hnp c h => ?_⟩
  refine k F A env G σ H _ hnp c ?_
  unfold seqM at h
  cases e : m env with
  | ok f e1 =>
    rw [e] at h
    cases f with
    | nx => exact fun A' G' σ' H' s c' => l F A' e1 G' σ' H' E hnp c' (PostS.from s h)
    | rt d => exact h
    | ro d => exact h
    | bk => exact h
    | ct => exact h
  | err x e1 =>
    rw [e] at h
    exact h
  | stuck =>
    rw [e] at h
    exact h
theorem sss_one {s : Stmt} {m : MS} (h : SS X W np s m) : SSs X W np [s] m := let ⟨t, p, k⟩ := h; ⟨t, pss_one p, k⟩
theorem ss_pass {pos : Pos} : SS X W np (.Pass pos) (fun e => .ok .nx e) := ⟨_, ps_pass, fun F A env G σ H E hnp c h => h A G σ H (Same.refl G) c⟩
theorem ss_break {pos : Pos} : SS X W np (.Break pos) (fun e => .ok .bk e) := ⟨_, ps_break, fun F A env G σ H E hnp c h => h A G σ H (Same.refl G) c⟩
theorem ss_continue {pos : Pos} : SS X W np (.Continue pos) (fun e => .ok .ct e) := ⟨_, ps_continue, fun F A env G σ H E hnp c h => h A G σ H (Same.refl G) c⟩
def retM (m : M D) : MS := fun e => (m e).bind fun d e1 => .ok (.rt d) e1
theorem ss_ret {e : Expr} {m : M D} {pos : Pos} (h : SE X W e m) : SS X W np (.Return (some e) pos) (retM m) := by
  obtain ⟨t, p, k⟩ := h
  refine ⟨_, ps_ret p, fun F A env G σ H E hnp c h => ?_⟩
  exact k A env G σ H _ c.rel (Post.mono (Post.stmt c h) fun d e1 G1 H1 ad rl z v rv => z.2 A G1 σ H1 v (Same.refl G1) z.1 rv)
theorem ss_retN {pos : Pos} : SS X W np (.Return none pos) (fun e => .ok (.rt .non) e) := ⟨_, ps_retN, fun F A env G σ H E hnp c h => h A G σ H .non (Same.refl G) c rfl⟩
def dropM (m : M D) : MS := fun e => (m e).bind fun _ e1 => .ok .nx e1
theorem ss_expr {e : Expr} {m : M D} {pos : Pos} (h : SE X W e m) (hs : swapsWith e none pos.line X.env = pure false) : SS X W np (.Expr e pos) (dropM m) := by
  obtain ⟨t, p, k⟩ := h
  refine ⟨_, ps_expr p hs, fun F A env G σ H E hnp c h => ?_⟩
  exact k A env G σ H _ c.rel (Post.mono (Post.stmt c h) fun d e1 G1 H1 ad rl z v rv => z.2 A G1 σ H1 (Same.refl G1) z.1)
theorem ss_if {c : Expr} {a b : List Stmt} {t : M Bool} {m n : MS} {pos : Pos} (hc : ST X W c t) (ha : SSs X W np a m) (hb : SSs X W np b n) : SS X W np (.If c a b pos) (ifM t m n) := by
  obtain ⟨tc, pc, kc⟩ := hc
  obtain ⟨ta, pa, ka⟩ := ha
  obtain ⟨tb, pb, kb⟩ := hb
  refine ⟨_, ps_if pc pa pb, fun F A env G σ H E hnp c h => ?_⟩
  refine kc A env G σ H _ c.rel (Post.mono (Post.stmt c h) fun b e1 G1 H1 ad rl z => ?_)
  cases b with
  | true => exact ka F A e1 G1 σ H1 E hnp z.1 z.2
  | false => exact kb F A e1 G1 σ H1 E hnp z.1 z.2
/-- x = e -/
def setM (np : Option Nat) (i : Nat) (m : M D) : MS := fun e => (m e).bind fun d e1 => if free np i e1 then .ok .nx (e1.set i (.val d)) else .stuck
theorem ss_set {i : Nat} {x : Str} {pos pos' : Pos} {e : Expr} {m : M D} (hN : X.N.Nodup) (hi : X.N[i]? = some x) (hx : Loc X.env.scope x) (hf : X.fn x = true ∨ X.env.scope.names.lookup x = some .local) (hs : swapsWith e (some (.Name x pos')) pos.line X.env = pure false)
    (h : SE X W e m) : SS X W np (.Assign [.Name x pos'] e pos) (setM np i m) := by
  obtain ⟨t, p, k⟩ := h
  refine ⟨_, ps_asg p (pg_name hN hi hx hf) hs, fun F A env G σ H E hnp c h => ?_⟩
  refine k A env G σ H _ c.rel (Post.mono (Post.stmt c h) fun d e1 G1 H1 ad rl z v rv => ?_)
  obtain ⟨z1, z2⟩ := z
  subst hnp
  cases q : free F.np i e1 with
  | true =>
    rw [q, if_pos rfl] at z2
    exact z2 _ G1 _ H1 (Same.refl G1) (z1.setVal q rv)
  | false =>
    rw [q, if_neg Bool.false_ne_true] at z2
    exact z2.elim
/-- x[e1] = e2, x an own list of the frame -/
def sub2M (i : Nat) (me mi : M D) : MS := fun e => (me e).bind fun d e1 => match e1[i]? with
  | some (.own _) => (mi e1).bind fun b e2 => (match e2[i]?, b with
    | some (.own (.lst ds)), .int j => (match ixN ds.length j with
      | some n => .ok .nx (e2.set i (.own (.lst (ds.set n d))))
      | none => .stuck)
    | _, _ => .stuck)
  | _ => .stuck
end
end Mini
set_option maxHeartbeats 1000000
/-! Mini, part 6: own objects changed, several targets, loops. -/
namespace Mini
open PySem PySem.Spec PyProof.Rows L2
section
variable {K : PySem.W.Frag} {F : Fn} {A : List (Option Addr)} {env : En} {G H : Hp} {σ : L2.St}
/-- an own object is changed -/
theorem Rel.put (r : Rel K A env G σ H) {i : Nat} {a : Addr} {d d' : D} {o : HO} (e : env[i]? = some (.own d)) (ea : A[i]? = some (some a)) (ho : OwnO K G d' o) : Rel K A (env.set i (.own d')) G σ (upd H a o) := by
  have hi : i < env.length := (List.getElem?_eq_some_iff.mp e).1
  obtain ⟨a', o', h1, h2, h3, h4⟩ := r.own i d e
  rw [ea] at h1
  cases h1
  have hG : G a = none := (r.off a (List.mem_of_getElem? ea)).1
  refine ⟨fun b u q => ?_, by rw [List.length_set]; exact r.len, r.lenA, fun j c q => ?_, fun j c q => ?_, fun b q => ⟨(r.off b q).1, ?_⟩, r.inj, fun j b q => ?_⟩
  · rw [upd_ne (ne_of_none q hG)]
    exact r.ex b u q
  · rcases get_set q with ⟨_, z⟩ | ⟨_, z⟩
    · cases z
    · exact r.val j c z
  · rcases get_set q with ⟨rfl, z⟩ | ⟨hj, z⟩
    · cases z
      exact ⟨a, o, ea, h2, upd_same, ho⟩
    · obtain ⟨b, u, k1, k2, k3, k4⟩ := r.own j c z
      refine ⟨b, u, k1, k2, ?_, k4⟩
      rw [upd_ne (fun y => hj (r.inj j i a (by rw [← y]; exact k1) ea))]
      exact k3
  · by_cases hb : b = a
    · rw [hb, upd_same]
      simp
    · rw [upd_ne hb]
      exact (r.off b q).2
  · by_cases hj : i = j
    · subst hj
      exact ⟨d', by rw [List.getElem?_set_self hi]⟩
    · rw [List.getElem?_set_ne hj]
      exact r.has j b q
theorem Adv.put {a : Addr} {o : HO} (ha : some a ∈ A) (h : H a ≠ none) : Adv A G H G (upd H a o) where
  g := Same.refl G
  new := fun b u q => .inl q
  fr := fun b u n q => by
    by_cases hb : b = a
    · subst hb
      exact absurd ha n
    · rw [upd_ne hb]
      exact q
  th := fun b q => by
    by_cases hb : b = a
    · subst hb
      rw [upd_same] at q
      cases q
    · rw [upd_ne hb] at q
      exact q
theorem Cur.put (c : Cur K F A env G σ H) {i : Nat} {a : Addr} {d d' : D} {o : HO} (e : env[i]? = some (.own d)) (ea : A[i]? = some (some a)) (ho : OwnO K G d' o) : Cur K F A (env.set i (.own d')) G σ (upd H a o) :=
  c.step (Adv.put (List.mem_of_getElem? ea) (c.rel.off a (List.mem_of_getElem? ea)).2) (c.rel.put e ea ho)
/-- an own object is let go: from now on it is shared, and never changes any more -/
def frz (i : Nat) (env : En) : En := match env[i]? with
  | some (.own d) => env.set i (.val d)
  | _ => env
end
section
variable {X : Cx} {W : WX} {np : Option Nat}
theorem ss_sub2 {i : Nat} {x : Str} {p0 p1 pos : Pos} {e ie : Expr} {me mi : M D} (hN : X.N[i]? = some x) (hv : Vis X.env.scope x) (hd : (x == ("__debug__" : Str)) = false) (hcd : (x == ("__classdict__" : Str)) = false)
    (he : SE X W e me) (hi : SE X W ie mi)
    (mk : ∀ te ti, PE X e te → PE X ie ti → PS X (.Assign [.Subscript (.Name x p0) ie p1] e pos) (tAsg te (gSub (tVar i) ti rSetL))) :
    SS X W np (.Assign [.Subscript (.Name x p0) ie p1] e pos) (sub2M i me mi) := by
  obtain ⟨te, pe, ke⟩ := he
  obtain ⟨ti, pi, ki⟩ := hi
  refine ⟨_, mk te ti pe pi, fun F A env G σ H E hnp c h => ?_⟩
  refine ke A env G σ H _ c.rel (Post.mono (Post.stmt c h) fun d e1 G1 H1 ad rl z v rv => ?_)
  obtain ⟨c1, z1⟩ := z
  split at z1
  · rename_i d0 q0
    obtain ⟨a, o, h1, h2, h3, h4⟩ := c1.rel.own i d0 q0
    refine ⟨.ref a, h2, ?_⟩
    refine ki A e1 G1 σ H1 _ c1.rel (Post.mono (Post.stmt c1 z1) fun b e2 G2 H2 ad2 rl2 z2 y ry => ?_)
    obtain ⟨c2, z2⟩ := z2
    split at z2
    · rename_i ds j q2
      obtain ⟨a2, o2, k1, k2, k3, k4⟩ := c2.rel.own i _ q2
      rw [h2] at k2
      cases k2
      obtain ⟨xs, rfl, rx⟩ := k4
      split at z2
      · rename_i n en
        refine ⟨a, xs, j, n, rfl, ry, k3, by rw [rx.length]; exact en, ?_⟩
        exact z2 A G2 σ _ (Same.refl G2) (c2.put q2 k1 ⟨_, rfl, rx.set n (rv.mono ad2.g)⟩)
      · exact z2.elim
    · exact z2.elim
  · exact z1.elim
/-- x, y = e1, e2 -/
def parM (np : Option Nat) (i j : Nat) (ma mb : M D) : MS := fun e => (ma e).bind fun a e1 => (mb e1).bind fun b e2 => if free np i e2 && free np j (e2.set i (.val a)) then .ok .nx ((e2.set i (.val a)).set j (.val b)) else .stuck
theorem ss_par {i j : Nat} {x y : Str} {a b : Expr} {ma mb : M D} {px py pt pt2 pos : Pos} {kt k2 : Nat} (hc : X.calm = true) (hN : X.N.Nodup) (hi : X.N[i]? = some x) (hj : X.N[j]? = some y) (hij : i ≠ j)
    (hx : X.env.scope.names.lookup x = some .local) (hy : X.env.scope.names.lookup y = some .local) (ha : SE X W a ma) (hb : SE X W b mb) (hsa : starEach [a, b] X.env = (false, eval a X.env) :: starEach [b] X.env) (hsb : starEach [b] X.env = (false, eval b X.env) :: starEach [] X.env)
    (hw : swappedStores [.Tuple [.Name x px, .Name y py] kt pt] (.Tuple [a, b] k2 pt2) X.env = pure (some [x, y]))
    (mk : ∀ t, PA X [a, b] t → PS X (.Assign [.Tuple [.Name x px, .Name y py] kt pt] (.Tuple [a, b] k2 pt2) pos) (tPar i j t)) :
    SS X W np (.Assign [.Tuple [.Name x px, .Name y py] kt pt] (.Tuple [a, b] k2 pt2) pos) (parM np i j ma mb) := by
  obtain ⟨t, p, k⟩ := sa_cons ha (sa_cons hb sa_nil hsb) hsa
  refine ⟨_, mk t p, fun F A env G σ H E hnp c h => ?_⟩
  have h' : PostS X.K F G W ((consM ma (consM mb (ret [])) env).bind fun ds e2 => match ds with
    | [d, d2] => if free np i e2 && free np j (e2.set i (.val d)) then .ok .nx ((e2.set i (.val d)).set j (.val d2)) else .stuck
    | _ => .stuck) E := by
    unfold parM at h
    unfold consM
    cases q : ma env with
    | ok a1 e1 =>
      rw [q] at h
      simp only [R.bind_ok] at h ⊢
      cases q2 : mb e1 with
      | ok b1 e2 =>
        rw [q2] at h
        exact h
      | err z e2 =>
        rw [q2] at h
        exact h
      | stuck =>
        rw [q2] at h
        exact h
    | err z e1 =>
      rw [q] at h
      exact h
    | stuck =>
      rw [q] at h
      exact h
  refine k A env G σ H _ c.rel (Post.mono (Post.stmt c h') fun ds e2 G2 H2 ad rl z vs rvs => ?_)
  obtain ⟨c2, z2⟩ := z
  split at z2
  · rename_i d d2
    obtain ⟨v, vs1, rfl, r1, v2, vs2, rfl, r2, rfl⟩ := rvs
    refine ⟨v, v2, rfl, ?_⟩
    split at z2
    · rename_i q
      obtain ⟨q1, q2⟩ := Bool.and_eq_true_iff.mp q
      subst hnp
      exact z2 _ G2 _ H2 (Same.refl G2) ((c2.setVal q1 r1).setVal q2 r2)
    · exact z2.elim
  · exact z2.elim
/-! ### loops -/
/-- turn by turn over the items -/
def loopM (put : D → En → Option En) (body : MS) : List D → MS
  | [], e => .ok .nx e
  | d :: ds, e => match put d e with
    | none => .stuck
    | some e1 => (match body e1 with
      | .ok .nx e2 => loopM put body ds e2
      | .ok .ct e2 => loopM put body ds e2
      | .ok .bk e2 => .ok .nx e2
      | .ok (.rt v) e2 => .ok (.rt v) e2
      | .ok (.ro v) e2 => .ok (.ro v) e2
      | .err x e2 => .err x e2
      | .stuck => .stuck)
theorem wipe_get {σ : L2.St} {j : Nat} : ∀ {vs : List Nat}, (wipe σ vs)[j]? = if j ∈ vs then (σ[j]?).map fun _ => none else σ[j]?
  | [] => by
    rw [if_neg (by simp)]
    rfl
  | v :: vs => by
    unfold wipe
    by_cases e : v = j
    · subst e
      rw [List.getElem?_set_self', wipe_get, if_pos (List.mem_cons_self ..)]
      by_cases h : v ∈ vs
      · rw [if_pos h]
        cases σ[v]? <;> rfl
      · rw [if_neg h]
        cases σ[v]? <;> rfl
    · rw [List.getElem?_set_ne e, wipe_get]
      have q : j ∈ v :: vs ↔ j ∈ vs := ⟨fun z => (List.mem_cons.mp z).elim (fun y => absurd y.symm e) id, List.mem_cons_of_mem _⟩
      by_cases h : j ∈ vs
      · rw [if_pos h, if_pos (q.mpr h)]
      · rw [if_neg h, if_neg (fun z => h (q.mp z))]
theorem wipe_set {σ : L2.St} {i : Nat} {x : Option V} {vs : List Nat} (h : i ∈ vs) : wipe (σ.set i x) vs = wipe σ vs := by
  apply List.ext_getElem?
  intro j
  rw [wipe_get, wipe_get]
  by_cases e : i = j
  · subst e
    rw [if_pos h, if_pos h, List.getElem?_set_self']
    cases σ[i]? <;> rfl
  · rw [List.getElem?_set_ne e]
/-- a target of a loop; is: the slots that it stores into -/
def SG (X : Cx) (np : Option Nat) (tg : Expr) (is : List Nat) (put : D → En → Option En) : Prop := ∃ g, PG X tg g ∧ ∀ (F : Fn) A env G σ H (Q : L2.St → Hp → Prop) d v e1, F.np = np → Cur X.K F A env G σ H → Rep X.K G d v → put d env = some e1 →
  (∀ A' σ', Cur X.K F A' e1 G σ' H → (∀ vs : List Nat, (∀ i ∈ is, i ∈ vs) → wipe σ' vs = wipe σ vs) → Q σ' H) → g v σ H Q
def put1 (np : Option Nat) (i : Nat) : D → En → Option En := fun d e => if free np i e then some (e.set i (.val d)) else none
theorem sg_name {i : Nat} {x : Str} {pos : Pos} (hN : X.N.Nodup) (hi : X.N[i]? = some x) (hx : Loc X.env.scope x) (hf : X.fn x = true ∨ X.env.scope.names.lookup x = some .local) : SG X np (.Name x pos) [i] (put1 np i) := by
  refine ⟨_, pg_name hN hi hx hf, fun F A env G σ H Q d v e1 hnp c r hp q => ?_⟩
  unfold put1 at hp
  split at hp
  · rename_i hfree
    cases hp
    subst hnp
    exact q _ _ (c.setVal hfree r) fun vs h => wipe_set (h _ (List.mem_singleton.mpr rfl))
  · cases hp
def putAll (np : Option Nat) : List Nat → List D → En → Option En
  | [], [], e => some e
  | i :: is, d :: ds, e => if free np i e then putAll np is ds (e.set i (.val d)) else none
  | _, _, _ => none
def putT (np : Option Nat) (is : List Nat) : D → En → Option En := fun d e => match d with
  | .tup ds => putAll np is ds e
  | _ => none
/-- the names of a tuple target, with their slots -/
inductive Tgs (X : Cx) : List Expr → List Nat → Prop where
  | nil : Tgs X [] []
  | cons {i : Nat} {x : Str} {pos : Pos} {es : List Expr} {is : List Nat} : X.N[i]? = some x → Loc X.env.scope x → (X.fn x = true ∨ X.env.scope.names.lookup x = some .local) → Tgs X es is → Tgs X (.Name x pos :: es) (i :: is)
theorem Tgs.len {es : List Expr} {is : List Nat} (h : Tgs X es is) : es.length = is.length := by
  induction h with
  | nil => rfl
  | cons _ _ _ _ ih => exact congrArg Nat.succ ih
theorem sg_all (hN : X.N.Nodup) {es : List Expr} {is : List Nat} (h : Tgs X es is) : ∃ g, PGs X es g ∧ ∀ (F : Fn) A env G σ H (Q : L2.St → Hp → Prop) ds vs e1, F.np = np → Cur X.K F A env G σ H → Reps X.K G ds vs → putAll np is ds env = some e1 →
    (∀ A' σ', Cur X.K F A' e1 G σ' H → (∀ ws : List Nat, (∀ i ∈ is, i ∈ ws) → wipe σ' ws = wipe σ ws) → Q σ' H) → g vs σ H Q := by
  induction h with
  | nil =>
    refine ⟨_, pgs_nil, fun F A env G σ H Q ds vs e1 hnp c r hp q => ?_⟩
    cases ds with
    | nil =>
      cases hp
      exact ⟨r, q _ _ c fun _ _ => rfl⟩
    | cons d ds => cases hp
  | cons h1 h2 h3 h4 ih =>
    obtain ⟨g, pg, kg⟩ := ih
    refine ⟨_, pgs_cons (pg_name hN h1 h2 h3) pg, fun F A env G σ H Q ds vs e1 hnp c r hp q => ?_⟩
    cases ds with
    | nil => cases hp
    | cons d ds =>
      obtain ⟨v, vs, rfl, r1, r2⟩ := r
      refine ⟨v, vs, rfl, ?_⟩
      unfold putAll at hp
      split at hp
      · rename_i hfree
        subst hnp
        exact kg F _ _ G _ H Q ds vs e1 rfl (c.setVal hfree r1) r2 hp fun A' σ' c' w => q A' σ' c' fun ws h => (w ws fun i hi => h i (List.mem_cons_of_mem _ hi)).trans (wipe_set (h _ (List.mem_cons_self ..)))
      · cases hp
theorem putAll_len : ∀ {is : List Nat} {ds : List D} {e e1 : En}, putAll np is ds e = some e1 → ds.length = is.length
  | [], [], _, _, _ => rfl
  | [], _ :: _, _, _, h => by cases h
  | _ :: _, [], _, _, h => by cases h
  | i :: is, d :: ds, e, e1, h => by
    unfold putAll at h
    split at h
    · exact congrArg Nat.succ (putAll_len h)
    · cases h
theorem sg_tup (hc : X.calm = true) (hN : X.N.Nodup) {es : List Expr} {is : List Nat} {k : Nat} {pos : Pos} (h : Tgs X es is) (mk : ∀ g, PGs X es g → PG X (.Tuple es k pos) (gTup X.K es.length g)) : SG X np (.Tuple es k pos) is (putT np is) := by
  obtain ⟨g, pg, kg⟩ := sg_all (np := np) hN h
  refine ⟨_, mk g pg, fun F A env G σ H Q d v e1 hnp c r hp q => ?_⟩
  cases d with
  | tup ds =>
    obtain ⟨a, xs, rfl, h1, h2⟩ := r
    refine ⟨a, xs, rfl, sq_t c.rel.ex h1, ?_, kg F A env G σ H Q ds xs e1 hnp c h2 hp q⟩
    rw [h2.length, putAll_len (show putAll np is ds env = some e1 from hp), h.len]
  | _ => cases hp
end
end Mini
set_option maxHeartbeats 1000000
/-! Mini, part 7: what loops walk, for, comprehensions. -/
namespace Mini
open PySem PySem.Spec PyProof.Rows L2
/-- J yields what stands for the data, one by one -/
def Walks (K : PySem.W.Frag) (J : It) (G : Hp) (ds : List D) : Prop := ∀ (i : Nat) (G1 H1 : Hp), Same G G1 → Same G1 H1 →
  (ds.length ≤ i → J.stop i H1) ∧ ∀ d, ds[i]? = some d → J.go i H1 ∧ ∀ x H', J.yld i H1 x H' → (H' = H1 ∧ Rep K G1 d x) ∨ ∃ p o, H1 p = none ∧ H' = upd H1 p o ∧ Rep K (upd G1 p o) d x
def SI (X : Cx) (W : WX) (tg iter : Expr) (m : M (List D)) : Prop := ∃ wi, PI X tg iter wi ∧ ∀ A env G σ H (Rk : It → Hp → Prop), Rel X.K A env G σ H →
  Post X.K A G σ H W (m env) (fun ds _ G' H' => ∀ J, Walks X.K J G' ds → Rk J H') → wi σ H Rk
section
variable {K : PySem.W.Frag} {a : Addr} {G : Hp} {ds : List D} {xs : List V}
theorem walks_l (h : SqL K G a xs) (r : Reps K G ds xs) : Walks K (Itl K a) G ds := fun i G1 H1 s1 s2 =>
  ⟨fun hi => ⟨xs, s2.seq (s1.seq h), by rw [r.length]; exact hi⟩, fun d e => by
    obtain ⟨v, e2, rv⟩ := r.get e
    refine ⟨⟨xs, v, s2.seq (s1.seq h), e2⟩, fun x H' y => .inl ⟨y.1, ?_⟩⟩
    have q := y.2 xs (s2.seq (s1.seq h))
    rw [e2] at q
    cases q
    exact rv.mono s1⟩
theorem walks_t (h : SqT K G a xs) (r : Reps K G ds xs) : Walks K (Itt K a) G ds := fun i G1 H1 s1 s2 =>
  ⟨fun hi => ⟨xs, sq_t s2 (sq_t s1 h), by rw [r.length]; exact hi⟩, fun d e => by
    obtain ⟨v, e2, rv⟩ := r.get e
    refine ⟨⟨xs, v, sq_t s2 (sq_t s1 h), e2⟩, fun x H' y => .inl ⟨y.1, ?_⟩⟩
    have q := y.2 xs (sq_t s2 (sq_t s1 h))
    rw [e2] at q
    cases q
    exact rv.mono s1⟩
/-- lo, lo + 1, .. -/
def ups (lo : Int) (n : Nat) : List D := (List.range n).map fun (i : Nat) => D.int (lo + (i : Int))
theorem walks_r {lo : Int} {n : Nat} : Walks K (Itr lo n) G (ups lo n) := fun i G1 H1 s1 s2 => by
  have hl : (ups lo n).length = n := by unfold ups; rw [List.length_map, List.length_range]
  refine ⟨fun hi => by rw [hl] at hi; exact hi, fun d e => ?_⟩
  have hi : i < n := by rw [← hl]; exact (List.getElem?_eq_some_iff.mp e).1
  refine ⟨hi, fun x H' y => .inl ⟨y.1, ?_⟩⟩
  have hd : d = .int (lo + i) := by
    unfold ups at e
    rw [List.getElem?_map, List.getElem?_range hi] at e
    exact (Option.some.inj e).symm
  rw [hd]
  exact y.2
end
section
variable {X : Cx} {W : WX} {np : Option Nat} {tg : Expr}
/-- an iterator over a list, a tuple, whichever stands there -/
theorem seq_iter {pins : List (Addr × Obj)} {σ : L2.St} {H : Hp} {s : Shared} {Rk : It → Hp → Prop} {a : Addr} {xs : List V} (I : Inv X pins σ H s)
    (h : (SqL X.K H a xs ∧ Rk (Itl X.K a) H) ∨ (SqT X.K H a xs ∧ Rk (Itt X.K a) H)) : wpAny (model X.prog X.w) X.A (pyIter (.ref a)) (PIE X pins σ tg Rk) X.xe s := by
  have keep : ∀ (o : Obj) b u, s.heap.get? b = some u → (s.heap.push o).get? b = some u := fun o b u e => Heap.get?_push_of_some _ e
  have ok : ∀ b ∈ [s.heap.objs.size], FpOk X pins H b := fun b hb => by
    cases List.mem_singleton.mp hb
    exact I.fpOk (Nat.le_refl _) I.fresh
  rcases h with ⟨h, q⟩ | ⟨h, q⟩
  · obtain ⟨its, rv, p, hz⟩ := I.list h
    exact wpAny_pyIter_list p.isList ⟨_, [s.heap.objs.size], _, _, H, rfl, I.kept (t' := s.toks) (keep _), turn_list a _, ⟨_, Heap.get?_push_size _ rfl, rfl, rfl⟩, ok, q⟩
  · obtain ⟨its, rv, p, hz⟩ := I.tuple h
    exact wpAny_pyIter_tuple (show s.heap.IsTuple a its.toArray from p) ⟨_, [s.heap.objs.size], _, _, H, rfl, I.kept (t' := s.toks) (keep _), turn_tuple a _, ⟨_, Heap.get?_push_size _ rfl, rfl, rfl⟩, ok, q⟩
def itemsD : D → Option (List D)
  | .lst ds => some ds
  | .tup ds => some ds
  | .scr ns => some (ns.map .int)
  | _ => none
def itemsM (m : M D) : M (List D) := fun e => (m e).bind fun d e1 => match itemsD d with
  | some ds => .ok ds e1
  | none => .stuck
theorem si_seq {e : Expr} {m : M D} (h : SE X W e m) : SI X W tg e (itemsM m) := by
  obtain ⟨t, p, k⟩ := h
  refine ⟨fun σ H Rk => t σ H fun x H1 => ∃ a xs, x = .ref a ∧ ((SqL X.K H1 a xs ∧ Rk (Itl X.K a) H1) ∨ (SqT X.K H1 a xs ∧ Rk (Itt X.K a) H1)), ⟨fun pins s σ H Rk I h => ?_⟩, fun A env G σ H Rk rl h => ?_⟩
  · refine thn (p.run pins s σ H _ I h) fun v s1 ⟨x, H1, I1, r1, a, xs, e, q⟩ => ?_
    subst e
    obtain rfl : v = Value.ref a := r1
    exact seq_iter I1 q
  · refine k A env G σ H _ rl (Post.mono (Post.bind h) fun d e1 G1 H1 ad rl1 z x rx => ?_)
    cases d with
    | lst ds =>
      obtain ⟨a, xs, rfl, h1, h2⟩ := rx
      exact ⟨a, xs, rfl, .inl ⟨SqL.of (rl1.ex _ _ h1), Post.here z rl1 _ (walks_l (SqL.of h1) h2)⟩⟩
    | scr ns =>
      obtain ⟨a, rfl, h1⟩ := rx
      exact ⟨a, _, rfl, .inl ⟨rl1.ex.seq h1, Post.here z rl1 _ (walks_l h1 (reps_ints ns))⟩⟩
    | tup ds =>
      obtain ⟨a, xs, rfl, h1, h2⟩ := rx
      exact ⟨a, xs, rfl, .inr ⟨sq_t rl1.ex h1, Post.here z rl1 _ (walks_t h1 h2)⟩⟩
    | _ => exact False.elim z
def tiny (i : Int) : Bool := decide (-(2 ^ 62) ≤ i) && decide (i < 2 ^ 62)
theorem tiny_ok {i : Int} (h : tiny i = true) : -(2 ^ 62) ≤ i ∧ i < 2 ^ 62 := by
  unfold tiny at h
  simp only [Bool.and_eq_true, decide_eq_true_eq] at h
  exact h
def range1M (ms : M (List D)) : M (List D) := fun e => (ms e).bind fun ds e1 => match ds with
  | [.int j] => if tiny j then .ok (ups 0 j.toNat) e1 else .stuck
  | _ => .stuck
def range2M (ms : M (List D)) : M (List D) := fun e => (ms e).bind fun ds e1 => match ds with
  | [.int i, .int j] => if tiny i && tiny j then .ok (ups i (j - i).toNat) e1 else .stuck
  | _ => .stuck
theorem si_range1 {a : Expr} {ms : M (List D)} {p pos : Pos} (hg : Gl X "range") (hm : X.mg "range" = none) (ha : SA X W [a] ms) (hs : starEach [a] X.env = [(false, eval a X.env)]) : SI X W tg (.Call (.Name "range" p) [a] [] pos) (range1M ms) := by
  obtain ⟨t, q, k⟩ := ha
  refine ⟨_, pi_range1 hg hm q hs, fun A env G σ H Rk rl h => ?_⟩
  refine k A env G σ H _ rl (Post.mono (Post.bind h) fun ds e1 G1 H1 ad rl1 z vs rvs => ?_)
  split at z
  · rename_i j
    obtain ⟨v, vs1, rfl, r1, rfl⟩ := rvs
    cases r1
    split at z
    · rename_i hj
      obtain ⟨h1, h2⟩ := tiny_ok hj
      exact ⟨j, rfl, h1, h2, Post.here z rl1 _ walks_r⟩
    · exact z.elim
  · exact z.elim
theorem si_range2 {a b : Expr} {ms : M (List D)} {p pos : Pos} (ha : SA X W [a, b] ms) (mk : ∀ t, PA X [a, b] t → PI X tg (.Call (.Name "range" p) [a, b] [] pos) (iRng2 t)) : SI X W tg (.Call (.Name "range" p) [a, b] [] pos) (range2M ms) := by
  obtain ⟨t, q, k⟩ := ha
  refine ⟨_, mk t q, fun A env G σ H Rk rl h => ?_⟩
  refine k A env G σ H _ rl (Post.mono (Post.bind h) fun ds e1 G1 H1 ad rl1 z vs rvs => ?_)
  split at z
  · rename_i i j
    obtain ⟨v, vs1, rfl, r1, v2, vs2, rfl, r2, rfl⟩ := rvs
    cases r1
    cases r2
    split at z
    · rename_i hj
      obtain ⟨h1, h2⟩ := Bool.and_eq_true_iff.mp hj
      obtain ⟨h3, h4⟩ := tiny_ok h1
      obtain ⟨h5, h6⟩ := tiny_ok h2
      exact ⟨i, j, rfl, ⟨h3, h4, h5, h6⟩, Post.here z rl1 _ walks_r⟩
    · exact z.elim
  · exact z.elim
def Nxt (K : PySem.W.Frag) (F : Fn) (W : WX) (G1 : Hp) (E : Ends) (rest : MS) : L2.St → Hp → Prop := fun σ2 H2 => ∃ A2 env2 G2, Same G1 G2 ∧ Cur K F A2 env2 G2 σ2 H2 ∧ PostS K F G2 W (rest env2) E
/-- for tg in iter: body -/
def forM (mi : M (List D)) (put : D → En → Option En) (body : MS) : MS := fun e => (mi e).bind fun ds e1 => loopM put body ds e1
theorem ss_for {tg iter : Expr} {body : List Stmt} {pos : Pos} {mi : M (List D)} {put : D → En → Option En} {mb : MS} (hp : PassesOwn (model X.prog X.w) X.A X.env X.xe) (hc : X.calm = true) (hi : SI X W tg iter mi) {is : List Nat} (hg : SG X np tg is put) (hb : SSs X W np body mb) (hs : ∀ x, foldedSetIterable iter X.env x = pure x) :
    SS X W np (.For tg iter body [] pos) (forM mi put mb) := by
  obtain ⟨wi, pi, ki⟩ := hi
  obtain ⟨g, pg, kg⟩ := hg
  obtain ⟨tb, pb, kb⟩ := hb
  refine ⟨_, ps_for hp hc pi pg pb hs, fun F A env G σ H E hnp c h => ?_⟩
  refine ki A env G σ H _ c.rel (Post.mono (Post.stmt c h) fun ds e1 G1 H1 ad rl z J wk => ?_)
  obtain ⟨c1, z1⟩ := z
  refine ⟨fun i k σ' H' => ∃ A' env' G', k = ds.length - i ∧ i ≤ ds.length ∧ Same G1 G' ∧ Cur X.K F A' env' G' σ' H' ∧ PostS X.K F G' W (loopM put mb (ds.drop i) env') E, ⟨_, A, e1, G1, rfl, Nat.zero_le _, Same.refl G1, c1, z1⟩, ?_⟩
  rintro i k σ' H' ⟨A', env', G', rfl, hi, sg, c', post⟩
  obtain ⟨w1, w2⟩ := wk i G' H' sg c'.rel.ex
  by_cases hlt : i < ds.length
  · have e2 : ds[i]? = some ds[i] := List.getElem?_eq_getElem hlt
    obtain ⟨w3, w4⟩ := w2 _ e2
    rw [List.drop_eq_getElem_cons hlt] at post
    unfold loopM at post
    refine .inr ⟨w3, Nxt X.K F W G1 E (loopM put mb (ds.drop (i + 1))), fun σ2 H2 ⟨A2, env2, G2, q1, q2, q3⟩ => ⟨_, by omega, A2, env2, G2, rfl, hlt, q1, q2, q3⟩, fun x H2 y => ?_⟩
    cases q : put ds[i] env' with
    | none =>
      rw [q] at post
      exact post.elim
    | some e3 =>
      rw [q] at post
      dsimp only at post
      have go : ∀ G2 H2, Same G' G2 → Cur X.K F A' env' G2 σ' H2 → Rep X.K G2 ds[i] x → g x σ' H2 fun σ3 H3 => tb ⟨Nxt X.K F W G1 E (loopM put mb (ds.drop (i + 1))), E.rt, E.nx, Nxt X.K F W G1 E (loopM put mb (ds.drop (i + 1)))⟩ σ3 H3 := by
        intro G2 H2 sg2 c2 rx
        refine kg F A' env' G2 σ' H2 _ ds[i] x e3 hnp c2 rx q fun A3 σ3 c3 _ => ?_
        refine kb F A3 e3 G2 σ3 H2 _ hnp c3 ?_
        cases r : mb e3 with
        | ok f e4 =>
          rw [r] at post
          cases f with
          | nx => exact fun A4 G4 σ4 H4 s4 c4 => ⟨A4, e4, G4, sg.trans (sg2.trans s4), c4, PostS.from (sg2.trans s4) post⟩
          | ct => exact fun A4 G4 σ4 H4 s4 c4 => ⟨A4, e4, G4, sg.trans (sg2.trans s4), c4, PostS.from (sg2.trans s4) post⟩
          | bk => exact fun A4 G4 σ4 H4 s4 c4 => post A4 G4 σ4 H4 (sg2.trans s4) c4
          | rt v => exact fun A4 G4 σ4 H4 u s4 c4 rv => post A4 G4 σ4 H4 u (sg2.trans s4) c4 rv
          | ro v => exact fun A4 G4 σ4 H4 p o s4 c4 => post A4 G4 σ4 H4 p o (sg2.trans s4) c4
        | err z e4 =>
          rw [r] at post
          exact fun A4 G4 σ4 H4 C d s4 c4 xr => post A4 G4 σ4 H4 C d (sg2.trans s4) c4 xr
        | stuck =>
          rw [r] at post
          exact post.elim
      rcases w4 x H2 y with ⟨rfl, rx⟩ | ⟨p, o, np, rfl, rx⟩
      · exact go G' H2 (Same.refl G') c' rx
      · exact go _ _ (same_upd (c'.rel.ex.free np)) (c'.step (Adv.laid c'.rel.ex np) (c'.rel.laid np)) rx
  · have e2 : i = ds.length := by omega
    subst e2
    rw [List.drop_length] at post
    exact .inl ⟨w1 (Nat.le_refl _), post A' G' σ' H' (Same.refl G') c'⟩
end
end Mini
set_option maxHeartbeats 1000000
/-! Mini, part 8: list comprehensions. -/
namespace Mini
open PySem PySem.Spec PyProof.Rows L2
/-- no exception leaves -/
abbrev W0 : WX := fun _ _ _ _ => False
/-- one reading for all contexts: what m says -/
def rdE (K : PySem.W.Frag) (W : WX) (m : M D) : TE := fun σ H Q => ∃ A env G, Rel K A env G σ H ∧ Post K A G σ H W (m env) fun d _ G' H' => ∀ v, Rep K G' d v → Q v H'
def rdT (K : PySem.W.Frag) (W : WX) (m : M Bool) : TT := fun σ H Q => ∃ A env G, Rel K A env G σ H ∧ Post K A G σ H W (m env) fun b _ _ H' => Q b H'
def rdG (K : PySem.W.Frag) (is : List Nat) (put : D → En → Option En) : TG := fun v σ H Q => ∃ A env G d e1, Rel K A env G σ H ∧ Rep K G d v ∧ put d env = some e1 ∧
  ∀ σ', Rel K A e1 G σ' H → (∀ vs : List Nat, (∀ i ∈ is, i ∈ vs) → wipe σ' vs = wipe σ vs) → Q σ' H
theorem SE.rd {X : Cx} {W : WX} {e : Expr} {m : M D} (h : SE X W e m) : PE X e (rdE X.K W m) := by
  obtain ⟨t, p, k⟩ := h
  exact ⟨fun pins s σ H Q I ⟨A, env, G, rl, q⟩ => p.run pins s σ H Q I (k A env G σ H Q rl q)⟩
/-- the tests of a comprehension -/
def SP (X : Cx) (W : WX) (ifs : List Expr) (m : M Bool) : Prop := ∃ t, PTs X ifs t ∧ ∀ A env G σ H (Q : Bool → Hp → Prop), Rel X.K A env G σ H →
  Post X.K A G σ H W (m env) (fun b _ _ H' => Q b H') → t σ H Q
theorem sp_nil {X : Cx} {W : WX} : SP X W [] (ret true) := ⟨_, pts_nil, fun A env G σ H Q rl h => Post.here h rl⟩
theorem sp_one {X : Cx} {W : WX} {c : Expr} {m : M Bool} (h : ST X W c m) : SP X W [c] m := let ⟨t, p, k⟩ := h; ⟨t, pts_one p, k⟩
theorem SP.rd {X : Cx} {W : WX} {e : List Expr} {m : M Bool} (h : SP X W e m) : PTs X e (rdT X.K W m) := by
  obtain ⟨t, p, k⟩ := h
  exact ⟨fun pins s σ H Q I ⟨A, env, G, rl, q⟩ => p.run pins s σ H Q I (k A env G σ H Q rl q)⟩
section
variable {K : PySem.W.Frag} {A : List (Option Addr)} {env : En} {G H : Hp} {σ : L2.St}
/-- the frame as a def's, all its own objects lent -/
theorem Rel.cur (r : Rel K A env G σ H) : Cur K ⟨none, A, G, H⟩ A env G σ H := ⟨r, Adv.refl, fun a h => .inl h, fun i a h => h, fun i n a h q => nomatch (show (none : Option Nat) = some n from q)⟩
theorem same_own {A' : List (Option Addr)} {e1 : En} {σ' : L2.St} (r : Rel K A env G σ H) (c : Cur K ⟨none, A, G, H⟩ A' e1 G σ' H) (hl : σ'.length = σ.length) : A' = A := by
  apply List.ext_getElem?
  intro i
  have l1 : A'.length = A.length := by rw [c.rel.lenA, r.lenA, hl]
  by_cases hi : i < A.length
  · cases q : A[i]? with
    | none => exact absurd (List.getElem?_eq_none_iff.mp q) (by omega)
    | some x =>
      cases x with
      | some a => exact c.keep i a q
      | none =>
        cases q2 : A'[i]? with
        | none => exact absurd (List.getElem?_eq_none_iff.mp q2) (by omega)
        | some y =>
          cases y with
          | none => rfl
          | some a =>
            exfalso
            rcases c.fresh a (List.mem_of_getElem? q2) with z | z
            · obtain ⟨j, hj⟩ := List.mem_iff_getElem?.mp z
              have e := c.rel.inj i j a q2 (c.keep j a hj)
              subst e
              rw [q] at hj
              cases hj
            · exact (c.rel.off a (List.mem_of_getElem? q2)).2 z
  · rw [List.getElem?_eq_none (by omega), List.getElem?_eq_none (by omega)]
end
theorem wipe_len {σ σ' : L2.St} {vs : List Nat} (h : wipe σ' vs = wipe σ vs) : σ'.length = σ.length := by
  have e := congrArg List.length h
  rw [wipe_length, wipe_length] at e
  exact e
theorem SG.rd {X : Cx} {tg : Expr} {is : List Nat} {put : D → En → Option En} (h : SG X none tg is put) : PG X tg (rdG X.K is put) := by
  obtain ⟨g, p, k⟩ := h
  refine ⟨fun pins s σ H v u Q I rv ⟨A, env, G, d, e1, rl, rd, hp, q⟩ => p.run pins s σ H v u Q I rv ?_⟩
  refine k ⟨none, A, G, H⟩ A env G σ H Q d v e1 rfl rl.cur rd hp fun A' σ' c w => ?_
  have e := same_own rl c (wipe_len (w is fun i hi => hi))
  subst e
  exact q σ' c.rel w
/-- the slots forgotten; all of them put back -/
def wipeE (vs : List Nat) (e : En) : En := match vs with
  | [] => e
  | v :: vs => (wipeE vs e).set v .no
def backE (old : En) (vs : List Nat) (e : En) : En := match vs with
  | [] => e
  | v :: vs => (backE old vs e).set v (old.getD v .no)
def noOwn (vs : List Nat) (e : En) : Bool := vs.all fun v => decide (v < e.length) && (match e[v]? with
  | some (.own _) => false
  | _ => true)
def lcLoop (vs : List Nat) (put : D → En → Option En) (mt : M Bool) (me : M D) : List D → List D → M (List D)
  | [], acc => fun e => .ok acc e
  | d :: ds, acc => fun e => match put d (wipeE vs e) with
    | none => .stuck
    | some e1 => (match mt e1 with
      | .ok true e2 => (match me e2 with
        | .ok y e3 => if acc.length < LIM then lcLoop vs put mt me ds (acc ++ [y]) e3 else .stuck
        | _ => .stuck)
      | .ok false e2 => lcLoop vs put mt me ds acc e2
      | _ => .stuck)
def lcEnd (old : En) (vs : List Nat) (r : R (List D)) : R D := match r with
  | .ok acc e2 => .ok (.lst acc) (backE old vs e2)
  | _ => .stuck
/-- [elt for tg in iter if ..]; vs: the slots of the comprehension's own names -/
def lcM (vs : List Nat) (mi : M (List D)) (put : D → En → Option En) (mt : M Bool) (me : M D) : M D := fun e => (mi e).bind fun ds e1 => if noOwn vs e1 then lcEnd e1 vs (lcLoop vs put mt me ds [] e1) else .stuck
theorem wipeE_len : ∀ {vs : List Nat} {e : En}, (wipeE vs e).length = e.length
  | [], _ => rfl
  | v :: vs, e => by
    unfold wipeE
    rw [List.length_set, wipeE_len]
theorem wipeE_get {e : En} {j : Nat} : ∀ {vs : List Nat}, (wipeE vs e)[j]? = if j ∈ vs then (e[j]?).map fun _ => Sl.no else e[j]?
  | [] => by
    rw [if_neg (by simp)]
    rfl
  | v :: vs => by
    unfold wipeE
    by_cases h0 : v = j
    · subst h0
      rw [List.getElem?_set_self', wipeE_get, if_pos (List.mem_cons_self ..)]
      by_cases h : v ∈ vs
      · rw [if_pos h]
        cases e[v]? <;> rfl
      · rw [if_neg h]
        cases e[v]? <;> rfl
    · rw [List.getElem?_set_ne h0, wipeE_get]
      have q : j ∈ v :: vs ↔ j ∈ vs := ⟨fun z => (List.mem_cons.mp z).elim (fun y => absurd y.symm h0) id, List.mem_cons_of_mem _⟩
      by_cases h : j ∈ vs
      · rw [if_pos h, if_pos (q.mpr h)]
      · rw [if_neg h, if_neg (fun z => h (q.mp z))]
theorem backE_len {old : En} : ∀ {vs : List Nat} {e : En}, (backE old vs e).length = e.length
  | [], _ => rfl
  | v :: vs, e => by
    unfold backE
    rw [List.length_set, backE_len]
theorem backE_get {old e : En} {j : Nat} (hl : old.length = e.length) : ∀ {vs : List Nat}, (backE old vs e)[j]? = if j ∈ vs then old[j]? else e[j]?
  | [] => by
    rw [if_neg (by simp)]
    rfl
  | v :: vs => by
    unfold backE
    by_cases h0 : v = j
    · subst h0
      rw [if_pos (List.mem_cons_self ..)]
      by_cases hv : v < e.length
      · rw [List.getElem?_set_self (by rw [backE_len]; exact hv)]
        rw [List.getD_eq_getElem?_getD, List.getElem?_eq_getElem (by omega)]
        rfl
      · rw [List.getElem?_eq_none (by rw [List.length_set, backE_len]; omega), List.getElem?_eq_none (by omega)]
    · rw [List.getElem?_set_ne h0, backE_get hl]
      have q : j ∈ v :: vs ↔ j ∈ vs := ⟨fun z => (List.mem_cons.mp z).elim (fun y => absurd y.symm h0) id, List.mem_cons_of_mem _⟩
      by_cases h : j ∈ vs
      · rw [if_pos h, if_pos (q.mpr h)]
      · rw [if_neg h, if_neg (fun z => h (q.mp z))]
end Mini
namespace Mini
open PySem PySem.Spec PyProof.Rows L2
section
variable {K : PySem.W.Frag} {A : List (Option Addr)} {env e1 : En} {G G1 H H1 : Hp} {σ σ2 : L2.St} {vs : List Nat}
theorem noOwn_at (h : noOwn vs env = true) {j : Nat} (hj : j ∈ vs) : j < env.length ∧ ∀ d, env[j]? ≠ some (.own d) := by
  have q := List.all_eq_true.mp h j hj
  obtain ⟨q1, q2⟩ := Bool.and_eq_true_iff.mp q
  refine ⟨of_decide_eq_true q1, fun d e => ?_⟩
  rw [e] at q2
  cases q2
theorem rel_wipe (r : Rel K A env G σ2 H) (hA : ∀ (j : Nat) (a : Addr), j ∈ vs → A[j]? ≠ some (some a)) (w : wipe σ2 vs = wipe σ vs) : Rel K A (wipeE vs env) G (wipe σ vs) H := by
  rw [← w]
  refine ⟨r.ex, by rw [wipeE_len, wipe_length]; exact r.len, by rw [wipe_length]; exact r.lenA, fun j d e => ?_, fun j d e => ?_, r.off, r.inj, fun j a e => ?_⟩
  · rw [wipeE_get] at e
    by_cases h : j ∈ vs
    · rw [if_pos h] at e
      cases q : env[j]? with
      | none =>
        rw [q] at e
        cases e
      | some z =>
        rw [q] at e
        cases e
    · rw [if_neg h] at e
      rw [wipe_get, if_neg h]
      exact r.val j d e
  · rw [wipeE_get] at e
    by_cases h : j ∈ vs
    · rw [if_pos h] at e
      cases q : env[j]? with
      | none =>
        rw [q] at e
        cases e
      | some z =>
        rw [q] at e
        cases e
    · rw [if_neg h] at e
      rw [wipe_get, if_neg h]
      exact r.own j d e
  · have h : j ∉ vs := fun z => hA j a z e
    rw [wipeE_get, if_neg h]
    exact r.has j a e
theorem rel_back (r0 : Rel K A e1 G1 σ H1) (rW : Rel K A (wipeE vs env) G (wipe σ vs) H) (no : noOwn vs e1 = true) (sg : Same G1 G) : Rel K A (backE e1 vs env) G σ H := by
  have l0 : env.length = σ.length := by
    have z := rW.len
    rw [wipeE_len, wipe_length] at z
    exact z
  have l1 : e1.length = env.length := by rw [l0]; exact r0.len
  refine ⟨rW.ex, by rw [backE_len]; exact l0, r0.lenA, fun j d e => ?_, fun j d e => ?_, rW.off, rW.inj, fun j a e => ?_⟩
  · rw [backE_get l1] at e
    by_cases h : j ∈ vs
    · rw [if_pos h] at e
      obtain ⟨v, h1, h2⟩ := r0.val j d e
      exact ⟨v, h1, h2.mono sg⟩
    · rw [if_neg h] at e
      obtain ⟨v, h1, h2⟩ := rW.val j d (by rw [wipeE_get, if_neg h]; exact e)
      rw [wipe_get, if_neg h] at h1
      exact ⟨v, h1, h2⟩
  · rw [backE_get l1] at e
    by_cases h : j ∈ vs
    · rw [if_pos h] at e
      exact absurd e ((noOwn_at no h).2 d)
    · rw [if_neg h] at e
      obtain ⟨a, o, h1, h2, h3, h4⟩ := rW.own j d (by rw [wipeE_get, if_neg h]; exact e)
      rw [wipe_get, if_neg h] at h2
      exact ⟨a, o, h1, h2, h3, h4⟩
  · obtain ⟨d, q⟩ := rW.has j a e
    rw [wipeE_get] at q
    by_cases h : j ∈ vs
    · rw [if_pos h] at q
      cases z : env[j]? with
      | none =>
        rw [z] at q
        cases q
      | some y =>
        rw [z] at q
        cases q
    · rw [if_neg h] at q
      rw [backE_get l1, if_neg h]
      exact ⟨d, q⟩
/-- a tracked object that is neither shared nor a slot's -/
theorem Rel.other (r : Rel K A env G σ H) {p : Addr} {o : HO} (hG : G p = none) (hA : some p ∉ A) : Rel K A env G σ (upd H p o) := by
  have hne : ∀ a, some a ∈ A → a ≠ p := fun a h z => hA (z ▸ h)
  refine ⟨fun b u e => ?_, r.len, r.lenA, r.val, fun j d e => ?_, fun a e => ⟨(r.off a e).1, ?_⟩, r.inj, r.has⟩
  · rw [upd_ne (ne_of_none e hG)]
    exact r.ex b u e
  · obtain ⟨a, u, h1, h2, h3, h4⟩ := r.own j d e
    exact ⟨a, u, h1, h2, by rw [upd_ne (hne a (List.mem_of_getElem? h1))]; exact h3, h4⟩
  · rw [upd_ne (hne a e)]
    exact (r.off a e).2
/-- .. made since H1, changed -/
theorem Adv.other (ad : Adv A G1 H1 G H) {p : Addr} {o : HO} (h : H1 p = none) : Adv A G1 H1 G (upd H p o) where
  g := ad.g
  new := ad.new
  fr := fun b u n e => by
    rw [upd_ne (ne_of_none e h)]
    exact ad.fr b u n e
  th := fun b e => by
    by_cases hb : b = p
    · rw [hb]
      exact h
    · rw [upd_ne hb] at e
      exact ad.th b e
/-- .. shared from now on -/
theorem Adv.share (ad : Adv A G1 H1 G H) {p : Addr} {o : HO} (h : H1 p = none) (hG : G p = none) : Adv A G1 H1 (upd G p o) H where
  g := ad.g.trans (same_upd hG)
  new := fun b u e => by
    by_cases hb : b = p
    · rw [hb]
      exact .inr h
    · rw [upd_ne hb] at e
      exact ad.new b u e
  fr := ad.fr
  th := ad.th
theorem Rel.share (r : Rel K A env G σ H) {p : Addr} {o : HO} (hG : G p = none) (hH : H p = some o) (hA : some p ∉ A) : Rel K A env (upd G p o) σ H := by
  have sg : Same G (upd G p o) := same_upd hG
  refine ⟨fun b u e => ?_, r.len, r.lenA, fun j d e => ?_, fun j d e => ?_, fun a e => ⟨?_, (r.off a e).2⟩, r.inj, r.has⟩
  · by_cases hb : b = p
    · rw [hb, upd_same] at e
      cases e
      rw [hb]
      exact hH
    · rw [upd_ne hb] at e
      exact r.ex b u e
  · obtain ⟨v, h1, h2⟩ := r.val j d e
    exact ⟨v, h1, h2.mono sg⟩
  · obtain ⟨a, u, h1, h2, h3, h4⟩ := r.own j d e
    exact ⟨a, u, h1, h2, h3, h4.mono sg⟩
  · rw [upd_ne (fun z => hA (by rw [← z]; exact e))]
    exact (r.off a e).1
end
section
variable {X : Cx} {W : WX}
/-- what a comprehension's reading asks, out of what lcM says -/
theorem lc_reads {wi : TI} {vs is : List Nat} {mi : M (List D)} {put : D → En → Option En} {mt : M Bool} {me : M D} (his : ∀ i ∈ is, i ∈ vs)
    (ki : ∀ A env G σ H (Rk : It → Hp → Prop), Rel X.K A env G σ H → Post X.K A G σ H W (mi env) (fun ds _ G' H' => ∀ J, Walks X.K J G' ds → Rk J H') → wi σ H Rk)
    {A : List (Option Addr)} {env : En} {G : Hp} {σ : L2.St} {H : Hp} {Q : VK} (rl : Rel X.K A env G σ H) (h : Post X.K A G σ H W (lcM vs mi put mt me env) fun d _ G' H' => ∀ v, Rep X.K G' d v → Q v H') :
    tLc wi (rdG X.K is put) (rdT X.K W0 mt) (rdE X.K W0 me) vs σ H Q := by
  refine ki A env G σ H _ rl (Post.mono (Post.bind h) fun ds e1 G1 H1 ad1 rl1 z J wk => ?_)
  split at z
  · rename_i no
    intro p hp
    have hG1 : G1 p = none := rl1.ex.free hp
    have hA : some p ∉ A := fun q => (rl1.off p q).2 hp
    have hAv : ∀ (j : Nat) (a : Addr), j ∈ vs → A[j]? ≠ some (some a) := fun j a hj q => by
      obtain ⟨d, e⟩ := rl1.has j a q
      exact (noOwn_at no hj).2 d e
    have l1 : (1 : Nat) ≤ LIM := by unfold LIM; decide
    refine ⟨fun (i k : Nat) (H' : Hp) => ∃ (env' : En) (acc : List D) (ys : List V) (G' : Hp), k = ds.length - i ∧ i ≤ ds.length ∧ Adv A G1 H1 G' H' ∧ Rel X.K A (wipeE vs env') G' (wipe σ vs) H' ∧ H' p = some (.lst ys) ∧ Reps X.K G' acc ys ∧ G' p = none ∧
      Post X.K A G1 σ H1 W (lcEnd e1 vs (lcLoop vs put mt me (ds.drop i) acc env')) fun d _ G' H' => ∀ v, Rep X.K G' d v → Q v H',
      ⟨_, e1, [], [], G1, rfl, Nat.zero_le _, Adv.other Adv.refl hp, (rel_wipe rl1 hAv rfl).other hG1 hA, upd_same, rfl, hG1, z⟩, ?_⟩
    rintro i k H' ⟨env', acc, ys, G', rfl, hi, ad, rw', hy, ra, hGp, post⟩
    obtain ⟨w1, w2⟩ := wk i G' H' ad.g rw'.ex
    by_cases hlt : i < ds.length
    · obtain ⟨w3, w4⟩ := w2 _ (List.getElem?_eq_getElem hlt)
      rw [List.drop_eq_getElem_cons hlt] at post
      unfold lcLoop at post
      refine .inr ⟨w3, fun H2 => ∃ env2 acc2 ys2 G2, Adv A G1 H1 G2 H2 ∧ Rel X.K A (wipeE vs env2) G2 (wipe σ vs) H2 ∧ H2 p = some (.lst ys2) ∧ Reps X.K G2 acc2 ys2 ∧ G2 p = none ∧
        Post X.K A G1 σ H1 W (lcEnd e1 vs (lcLoop vs put mt me (ds.drop (i + 1)) acc2 env2)) fun d _ G' H' => ∀ v, Rep X.K G' d v → Q v H', fun H2 ⟨env2, acc2, ys2, G2, q1, q2, q3, q4, q5, q6⟩ => ⟨_, by omega, env2, acc2, ys2, G2, rfl, hlt, q1, q2, q3, q4, q5, q6⟩, fun x H2 y => ?_⟩
      cases q : put ds[i] (wipeE vs env') with
      | none =>
        rw [q] at post
        exact post.elim
      | some e3 =>
        rw [q] at post
        dsimp only at post
        -- the turn, from the heap as the iterator left it
        have go : ∀ G2 H2, Adv A G1 H1 G2 H2 → Rel X.K A (wipeE vs env') G2 (wipe σ vs) H2 → H2 p = some (.lst ys) → Reps X.K G2 acc ys → G2 p = none → Rep X.K G2 ds[i] x →
            rdG X.K is put x (wipe σ vs) H2 fun σ2 H2 => wipe σ2 vs = wipe σ vs ∧ rdT X.K W0 mt σ2 H2 fun b H3 => if b = true then rdE X.K W0 me σ2 H3 fun y H4 => ∃ acc, H4 p = some (.lst acc) ∧ acc.length < sizeLine ∧
              (fun H2 => ∃ env2 acc2 ys2 G2, Adv A G1 H1 G2 H2 ∧ Rel X.K A (wipeE vs env2) G2 (wipe σ vs) H2 ∧ H2 p = some (.lst ys2) ∧ Reps X.K G2 acc2 ys2 ∧ G2 p = none ∧
                Post X.K A G1 σ H1 W (lcEnd e1 vs (lcLoop vs put mt me (ds.drop (i + 1)) acc2 env2)) fun d _ G' H' => ∀ v, Rep X.K G' d v → Q v H') (upd H4 p (.lst (acc ++ [y])))
              else (fun H2 => ∃ env2 acc2 ys2 G2, Adv A G1 H1 G2 H2 ∧ Rel X.K A (wipeE vs env2) G2 (wipe σ vs) H2 ∧ H2 p = some (.lst ys2) ∧ Reps X.K G2 acc2 ys2 ∧ G2 p = none ∧
                Post X.K A G1 σ H1 W (lcEnd e1 vs (lcLoop vs put mt me (ds.drop (i + 1)) acc2 env2)) fun d _ G' H' => ∀ v, Rep X.K G' d v → Q v H') H3 := by
          intro G2 H2 ad2 rl2 hy2 ra2 hG2 rx
          refine ⟨A, _, G2, ds[i], e3, rl2, rx, q, fun σ3 rl3 w3 => ?_⟩
          have hw : wipe σ3 vs = wipe σ vs := (w3 vs his).trans (by
            apply List.ext_getElem?
            intro j
            rw [wipe_get, wipe_get]
            by_cases hj : j ∈ vs
            · rw [if_pos hj, if_pos hj]
              cases σ[j]? <;> rfl
            · rw [if_neg hj])
          refine ⟨hw, A, e3, G2, rl3, ?_⟩
          cases r : mt e3 with
          | ok b e4 =>
            rw [r] at post
            intro G4 H4 ad4 rl4
            have adx := ad2.trans ad4
            have hA4 : ∀ (Gx Hx : Hp), Adv A G2 H2 Gx Hx → Gx p = none ∧ Hx p = some (.lst ys) := fun Gx Hx a => by
              refine ⟨?_, a.fr p _ hA hy2⟩
              cases c : Gx p with
              | none => rfl
              | some o =>
                rcases a.new p o c with y | y
                · rw [hG2] at y
                  cases y
                · rw [hy2] at y
                  cases y
            cases b with
            | false =>
              refine iteF ?_
              obtain ⟨c1, c2⟩ := hA4 _ _ ad4
              exact ⟨e4, acc, ys, G4, adx, rel_wipe rl4 hAv hw, c2, ra2.mono ad4.g, c1, post⟩
            | true =>
              refine iteT ?_
              refine ⟨A, e4, G4, rl4, ?_⟩
              dsimp only at post
              cases r2 : me e4 with
              | ok y0 e5 =>
                rw [r2] at post
                dsimp only at post
                by_cases hl : acc.length < LIM
                · rw [if_pos hl] at post
                  intro G5 H5 ad5 rl5 v rv
                  have adz := ad4.trans ad5
                  obtain ⟨c1, c2⟩ := hA4 _ _ adz
                  have ra5 := ra2.mono adz.g
                  refine ⟨ys, c2, lim_lt (by rw [ra5.length]; exact hl), e5, acc ++ [y0], ys ++ [v], G5, (ad2.trans adz).other hp, (rel_wipe rl5 hAv hw).other c1 hA, upd_same, ra5.append (Reps.one rv), c1, post⟩
                · rw [if_neg hl] at post
                  exact post.elim
              | err z0 e5 =>
                rw [r2] at post
                exact post.elim
              | stuck =>
                rw [r2] at post
                exact post.elim
          | err z0 e4 =>
            rw [r] at post
            exact post.elim
          | stuck =>
            rw [r] at post
            exact post.elim
        rcases w4 x H2 y with ⟨rfl, rx⟩ | ⟨p2, o, n2, rfl, rx⟩
        · exact go G' H2 ad rw' hy ra hGp rx
        · have np : p ≠ p2 := ne_of_none hy n2
          refine go _ _ (ad.trans (Adv.laid rw'.ex n2)) (rw'.laid n2) ?_ (ra.mono (same_upd (rw'.ex.free n2))) ?_ rx
          · rw [upd_ne np]
            exact hy
          · rw [upd_ne np]
            exact hGp
    · have e2 : i = ds.length := by omega
      subst e2
      rw [List.drop_length] at post
      refine .inl ⟨w1 (Nat.le_refl _), ?_⟩
      exact post _ H' (ad.share hp hGp) ((rel_back rl1 rw' no ad.g).share hGp hy hA) _ ⟨p, ys, rfl, upd_same, ra.mono (same_upd hGp)⟩
  · exact z.elim
/-- [elt for tg in iter if ..] -/
theorem se_lc {elt tg iter : Expr} {ifs : List Expr} {scope : Scope} {own : List (Str × Nat)} {pos : Pos} {is : List Nat} {mi : M (List D)} {put : D → En → Option En} {mt : M Bool} {me : M D} (hc : X.calm = true) (hN : X.N.Nodup) (ok : BlkOk X.N X.env.scope scope own)
    (hi : SI X W tg iter mi) (hg : ∀ (s : Shared) (H : Hp) (C : Addr) (cl : List (Str × Addr)) (fp : List Addr), SG (X.blk s H scope (compEnvC scope cl C X.env) fp) none tg is put)
    (ht : ∀ (s : Shared) (H : Hp) (C : Addr) (cl : List (Str × Addr)) (fp : List Addr), SP (X.blk s H scope (compEnvC scope cl C X.env) fp) W0 ifs mt)
    (he : ∀ (s : Shared) (H : Hp) (C : Addr) (cl : List (Str × Addr)) (fp : List Addr), SE (X.blk s H scope (compEnvC scope cl C X.env) fp) W0 elt me) (his : ∀ i ∈ is, i ∈ own.map (·.2)) (hs : ∀ x, foldedSetIterable iter X.env x = pure x) :
    SE X W (.ListComp elt [⟨tg, iter, ifs, 0⟩] scope pos) (lcM (own.map (·.2)) mi put mt me) := by
  obtain ⟨wi, pi, ki⟩ := hi
  exact ⟨_, pe_lc hc hN pi ok (fun s H C cl fp => (hg s H C cl fp).rd) (fun s H C cl fp => (ht s H C cl fp).rd) (fun s H C cl fp => (he s H C cl fp).rd) hs, fun A env G σ H Q rl h => lc_reads his ki rl h⟩
end
end Mini
set_option maxHeartbeats 2000000
/-! Mini, part 9: the program's own errors: super().__init__(f'..'), then fields. -/
namespace Mini
open PySem PySem.Spec PyProof.Rows L2 PySem.W
/-- what the written part says of an error's class at C, its __init__ at fI -/
structure ErrK (P : Program) (K : Frag) (C : Addr) (ps : List Str) (params : Arguments) (body : List Stmt) (scope : Scope) (qual : Str) (fI : Addr) : Prop where
  oex : OexC K C
  init : findIn K (.ref C) "__init__" = some (some (.ref fI))
  tyI : typeIn K (.ref fI) = some (.type "function")
  ex : ∃ (oc kV doc pm ct : Value) (od an : Option Addr) (osl : Array (Option Value)) (cda cc : Addr), K.lookup fI = some ⟨oc, od, .func (ksFn "__init__" qual params body scope .none kV doc pm an (.ref cda) ct cc), osl⟩ ∧ codeIn K (.ref cda) qual = true ∧
    (∃ o1 o2 o3 vs file tf, K.lookup cda = some ⟨o1, o2, .fields vs, o3⟩ ∧ vs[2]? = some (.str file tf) ∧ ((P.main.file : Str) == file) = true) ∧ ∃ o1 o2 o3, K.lookup cc = some ⟨o1, o2, .cell (some (.ref C)), o3⟩
  sup : ks_superIn K C C "__init__" = some (some (.builtin "ValueError.__init__"))
  isB : subIn K (.ref C) (.type "ValueError") = some true
  slf : mroIn K C (.ref C) = some true
  opq : nsIn K cStatics "thirdparty.any" = some none
  top : (P.main.scope.names.lookup ("super" : Str)).isSome = false
/-- a value goes into an f-string: some text, whatever else is laid -/
def FmtOk (P : Program) (w : World) (h : Heap) (v : Value) (n d : Nat) : Prop := ∀ (A : Around) (E : Value → Shared → Prop) (s : Shared) (Q : Value → Shared → Prop), A.guards = some [] → A.units + d < cLine → (∀ b o, h.get? b = some o → s.heap.get? b = some o) →
  (∀ (y : Str) (u : Tok) (h' : Heap) (tk : Nat), (∀ b o, s.heap.get? b = some o → h'.get? b = some o) → y.length ≤ n → Q (.str y u) { s with heap := h', toks := tk }) → wpAny (model P w) A (formatField v Str.empty) Q E s
section
variable {P : Program} {w : World} {A : Around} {h : Heap} {g : Array GenState} {d : Drawn} {t : Nat} {os : OsState} {K : Frag} {C fI : Addr} {ps : List Str} {params : Arguments} {body : List Stmt} {scope : Scope} {qual : Str} {R : Result → Shared → Prop} {mg mb : Str → Option Value}
/-- super() in such an __init__: the super object -/
theorem err_super {fI cda cc e : Addr} {x : Str} {p0 p1 : Pos} {oc kV doc pm ct : Value} {od an : Option Addr} {osl : Array (Option Value)} {o1 : Value} {o2 : Option Addr} {o3 : Array (Option Value)} {vs : Array Value} {file : Str} {tf : Tok} {L : Addr} {m : Str → Option Value} {q1 : Value} {q2 : Option Addr} {q3 : Array (Option Value)} {ar : Arg} {oe : Obj} {nm q : Str} {N : Addr} {bs bm sub : List Value} {sn : List Str} {ab : Bool} {col : Option Bool} {dd : Option Addr} {k0 k1 k2 k3 k5 : Option Value}
    {whole : Sem Value} {Q : Value → Shared → Prop} {E : Value → Shared → Prop} (X : K.In h) (gl : h.Ns mainGlobals mg) (hs : mg "super" = none) (bl : h.Ns builtinsNs mb) (hb : mb "super" = some (.type "super"))
    (hf : K.lookup fI = some ⟨oc, od, .func (ksFn "__init__" qual params body scope .none kV doc pm an (.ref cda) ct cc), osl⟩) (hcd : K.lookup cda = some ⟨o1, o2, .fields vs, o3⟩) (hvs : vs[2]? = some (.str file tf)) (hfile : ((P.main.file : Str) == file) = true)
    (hcc : K.lookup cc = some ⟨q1, q2, .cell (some (.ref C)), q3⟩) (hC : K.lookup C = some (excClassObj nm q C N bs bm true sn sub ab col dd k0 k1 k2 k3 k5 "ValueError.__new__")) (hsl : mroIn K C (.ref C) = some true) (htop : (P.main.scope.names.lookup ("super" : Str)).isSome = false)
    (hp : (params.posonlyargs ++ params.args).head? = some ar) (har : ar.arg = x) (hns : h.Ns L m) (hm : m x = some (.ref e)) (he : h.get? e = some oe) (hec : oe.cls = .ref C) (hen : ∀ c, oe.data ≠ .cls c)
    (hks : scope.names.lookup ("super" : Str) = some .globalImplicit) (hkc : scope.names.lookup ("__class__" : Str) = some .free) (hka : scope.names.lookup x = some .local) (hk : scope.kind = .function)
    (hq : ∀ h', h'.get? h.objs.size = some { cls := .type "super", dict := none, data := .fields #[.ref C, .ref e, .ref C], slots := #[] } → (∀ y o, h.get? y = some o → h'.get? y = some o) → Q (.ref h.objs.size) ⟨h', g, d, t, os⟩) :
    _root_.PySem.wpAt (model P w) A (.func body (ksEnv qual scope L fI (.ref cda) cc)) (attributeBase (.Call (.Name "super" p0) [] [] p1) "__init__" (ksEnv qual scope L fI (.ref cda) cc) whole) Q E ⟨h, g, d, t, os⟩ := by
  subst har
  refine ks_wpAt_super_base (env := ksEnv qual scope L fI (.ref cda) cc) hks hkc (by decide +kernel) rfl (X _ _ hf) rfl hp rfl (X _ _ hcd) rfl hvs hfile htop ?_
  refine ks_loadName_global hk hks (Calls.loadGlobal_builtin (env := ksEnv qual scope L fI (.ref cda) cc) gl hs bl hb ⟨rfl, ?_⟩)
  refine wpAny_loadName_free hk hkc rfl ⟨_, X _ _ hcc, rfl⟩ ?_
  refine wpAny_loadName_local hk hka hns hm ?_
  refine ks_wpAny_isType_cls (X _ _ hC) rfl ⟨rfl, ?_⟩
  exact ks_wpAny_call_super (X _ _ hC) rfl he hec hen (looks_mroIn X hsl) hq
/-- the bound ValueError.__init__, called with a text -/
theorem err_callbw {u e t0 : Addr} {nm q : Str} {N : Addr} {bs bm sub : List Value} {sn : List Str} {ab : Bool} {col : Option Bool} {dd : Option Addr} {k0 k1 k2 k3 k5 : Option Value} {rest : List Value} {Q : Value → Shared → Prop} {E : Value → Shared → Prop}
    (hC : h.get? C = some (excClassObj nm q C N bs bm true sn sub ab col dd k0 k1 k2 k3 k5 "ValueError.__new__")) (hbm : HandSPX.refsVE bm = true) (he : h.get? e = some (HandSPX.excO C t0)) (hu : h.get? u = some (kxs_mw "ValueError.__init__" e)) (hrest : rest.length ≤ sizeLine)
    (hq : ∀ h' t1, (∀ b o, b ≠ e → h.get? b = some o → h'.get? b = some o) → h'.get? e = some (HandSPX.excO C t1) → Q .none ⟨h', g, d, t, os⟩) :
    wpAny (model P w) A (call (.ref u) rest) Q E ⟨h, g, d, t, os⟩ := by
  refine wpAny_call (codeAny_of_tree ?_)
  show wpAny _ A.in1 (callAny (.ref u) ⟨rest, []⟩) _ _ _
  simp only [callAny]
  refine wpAny_bind (wpAny_load hu ?_)
  simp only [kxs_mw]
  refine KFB.if_so (by decide) ?_
  refine wpAny_bind (check_bound_init (F := F.excBase_ValueError.toExcCallFacts) hC he rfl (wpAny_pure ⟨Code.quiet_builtin _ (by decide +kernel),
    codeAny_builtin F.excBase_ValueError.initEntry ?_⟩))
  rw [Around.under_plainId F.excBase_ValueError.init.plain _]
  wp_walk
  have up := Heap.get?_push_of_some ({ cls := .type "tuple", data := .seq rest.toArray } : Obj) he
  refine hq _ h.objs.size (fun b o nb hb => ?_) ?_
  · exact (Heap.get?_update_other _ _ (Ne.symm nb)).trans (Heap.get?_push_of_some _ hb)
  · exact (Heap.get?_update_self _ up rfl).trans rfl
end
end Mini
set_option maxHeartbeats 1000000
/-! Mini, part 9: defs, what they promise; calls, own objects lent to them. -/
namespace Mini
open PySem PySem.Spec PyProof.Rows L2
/-- a def's promise, given where no repr is under way -/
structure FnG (P : Program) (w : World) (K : PySem.W.Frag) (mg : Str → Option Value) (base : Heap) (k : Nat) (f : Addr) (fd : FuncData) (ps : List Str) (sp : Sp) : Prop where
  len : ∀ vs H Q E, sp vs H Q E → vs.length = ps.length
  run : ∀ (A : Around) (below : List Env) (s : Shared) (H : Hp) (ar : Args) (us : List Value) (vs : List V) (Q : VK) (E : XK), A.guards = some [] → Room k A → Env0 P w K mg base A below s H → BindsTo s fd ar (ps.zip us) → Vals vs us → sp vs H Q E →
    codeAny (model P w) A (.call (.ref f) ar) (CR (L2.CX P w) below P w H s Q E) s
theorem FnG.of {P : Program} {w : World} {K : PySem.W.Frag} {mg : Str → Option Value} {base : Heap} {k : Nat} {f : Addr} {fd : FuncData} {ps : List Str} {sp : Sp} (F : FnOk P w K mg base (L2.CX P w) k f fd ps sp) : FnG P w K mg base k f fd ps sp :=
  ⟨F.len, fun A below s H ar us vs Q E _ => F.run A below s H ar us vs Q E⟩
theorem FnG.mono {P : Program} {w : World} {K : PySem.W.Frag} {mg : Str → Option Value} {base : Heap} {j k : Nat} {f : Addr} {fd : FuncData} {ps : List Str} {sp : Sp} (F : FnG P w K mg base j f fd ps sp) (h : j ≤ k) : FnG P w K mg base k f fd ps sp :=
  ⟨F.len, fun A below s H ar us vs Q E hg hr => F.run A below s H ar us vs Q E hg (hr.mono h)⟩
theorem room_deeper {k : Nat} {A : Around} (r : Room (k + 1) A) (env : Env) : Room k (A.deeper env) := Room.deeper r env
/-- a def by its body -/
theorem fnG_of {P : Program} {w : World} {K : PySem.W.Frag} {mg : Str → Option Value} {base : Heap} {k : Nat} {f : Addr} {name qual : Str} {params : Arguments} {body : List Stmt} {scope : Scope} {dV kV doc pm cdv ct oc : Value} {an od : Option Addr}
    {osl : Array (Option Value)} {N ps : List Str} {sp : Sp} (lk : K.lookup f = some ⟨oc, od, .func (PySem.W.fnOf name qual params body scope dV kV doc pm an cdv ct), osl⟩) (hcd : PySem.W.codeIn K cdv qual = true) (S : FnScope N ps scope)
    (len : ∀ vs H Q E, sp vs H Q E → vs.length = ps.length)
    (hb : ∀ (A : Around) (below : List Env) (s : Shared) (H : Hp) (vs : List V) (Q : VK) (E : XK), A.guards = some [] → Room k (A.deeper (envOfC qual scope s.heap.objs.size f cdv)) → sp vs H Q E →
      ∃ t, PSs (cxOf (L2.CX P w) P w K mg base N qual scope f cdv A below s H E) body t ∧ t { nx := fun _ H1 => Q .non H1, rt := Q } (start N vs) H) :
    FnG P w K mg base (k + 1) f (PySem.W.fnOf name qual params body scope dV kV doc pm an cdv ct) ps sp := by
  refine ⟨len, fun A below s H ar us vs Q E hg hr e0 bt rv hs => ?_⟩
  have inK : K.In s.heap := e0.mod.kin.keeps fun c u q => (e0.bs c u q).1
  have hn := e0.mod.nolimit.keeps fun c u q => (e0.bs c u q).1
  have par : ∀ z ∈ ps.zip us, scope.names.lookup z.1 = some .local ∨ (scope.names.lookup z.1 = some .cell ∧ ((cellsFrom (s.heap.objs.size + 1) scope.names []).lookup z.1).isSome = true) := by
    rintro ⟨x, u⟩ hz
    refine (S.par x (List.of_mem_zip hz).1).imp id fun q => ⟨q, PySem.W.cellsFrom_some _ _ _ (.inl q)⟩
  refine codeAny_call_function hr.depth (inK _ _ lk) rfl S.co S.gen rfl (PySem.W.codeRec_of inK hcd) (bt _ _ _ _ (wpAny_newFunctionEnv_cells S.kind par fun env' he s' hx => ?_))
  subst he
  obtain ⟨t, pt, go⟩ := hb A below s H vs Q E hg (hr.deeper _) hs
  have J : Inv (cxOf (L2.CX P w) P w K mg base N qual scope f cdv A below s H E) [] (start N vs) H s' := inv_start S hr.hd e0 (len _ _ _ _ hs) rv hx
  refine ⟨hn.keeps hx.toInCall.keep, codeAny_func (wpAny_mono (pt.run [] s' (start N vs) H _ J go) (fun fl s2 q => ?_) fun _ _ q => q)⟩
  cases fl with
  | next =>
    obtain ⟨σ2, H2, J2, q2⟩ := q
    exact ⟨.non, H2, J2.os, J2.bare, J2.base, J2.hok, rfl, q2⟩
  | ret u =>
    obtain ⟨v, σ2, H2, J2, r2, q2⟩ := q
    exact ⟨v, H2, J2.os, J2.bare, J2.base, J2.hok, r2, q2⟩
  | brk =>
    obtain ⟨_, _, _, z⟩ := q
    exact z.elim
  | cont =>
    obtain ⟨_, _, _, z⟩ := q
    exact z.elim
/-! ### promises by data -/
/-- what comes back: a shared datum, a new object that nobody else has -/
inductive Rv where
  | sh (d : D) | ow (d : D)
def RetOk (K : PySem.W.Frag) (G' H' H0 : Hp) : Rv → V → Prop
  | .sh d, v => Rep K G' d v
  | .ow d, v => ∃ p o, v = .ref p ∧ G' p = none ∧ H0 p = none ∧ H' p = some o ∧ OwnO K G' d o
/-- what was lent, behind the call -/
def Outs (K : PySem.W.Frag) (B : List (Option Addr)) (G' H' : Hp) (e' : En) : Prop := ∀ (i : Nat) (a : Addr), B[i]? = some (some a) → ∃ d o, e'[i]? = some (.own d) ∧ H' a = some o ∧ OwnO K G' d o ∧ G' a = none
def PostF (K : PySem.W.Frag) (B : List (Option Addr)) (G H : Hp) (r : R Rv) (Q : VK) (E : XK) : Prop := match r with
  | .ok d e' => ∀ G' H' v, Same G' H' → Adv B G H G' H' → Outs K B G' H' e' → RetOk K G' H' H d v → Q v H'
  | .err x e' => ∀ G' H' C d, Same G' H' → Adv B G H G' H' → Outs K B G' H' e' → XRep K G' H' x C d → E C d H'
  | .stuck => False
abbrev Run := List Sl → R Rv
def spM (K : PySem.W.Frag) (np : Nat) (run : Run) : Sp := fun vs H Q E => vs.length = np ∧ ∃ B args G, Rel K B args G (vs.map some) H ∧ PostF K B G H (run args) Q E
def pad (n : Nat) (args : List Sl) : En := args ++ List.replicate (n - args.length) .no
def bodyRun (n : Nat) (m : MS) : Run := fun args => match m (pad n args) with
  | .ok .nx e => .ok (.sh .non) e
  | .ok (.rt d) e => .ok (.sh d) e
  | .ok (.ro d) e => .ok (.ow d) e
  | .ok .bk _ => .stuck
  | .ok .ct _ => .stuck
  | .err x e => .err x e
  | .stuck => .stuck
section
variable {K : PySem.W.Frag} {B : List (Option Addr)} {args : En} {G H : Hp} {σ : L2.St}
theorem pad_get {α : Type} {l : List α} {x y : α} {n i : Nat} (h : (l ++ List.replicate n x)[i]? = some y) : l[i]? = some y ∨ (l.length ≤ i ∧ y = x) := by
  by_cases q : i < l.length
  · rw [List.getElem?_append_left q] at h
    exact .inl h
  · rw [List.getElem?_append_right (by omega), List.getElem?_replicate] at h
    split at h
    · cases h
      exact .inr ⟨by omega, rfl⟩
    · cases h
theorem get_pad {α : Type} {l : List α} {x y : α} {n i : Nat} (h : l[i]? = some y) : (l ++ List.replicate n x)[i]? = some y := by
  rw [List.getElem?_append_left (List.getElem?_eq_some_iff.mp h).1]
  exact h
theorem mem_pad {B : List (Option Addr)} {n : Nat} {a : Addr} : some a ∈ B ++ List.replicate n none ↔ some a ∈ B := by
  rw [List.mem_append]
  exact ⟨fun h => h.elim id fun z => (nomatch (List.mem_replicate.mp z).2), .inl⟩
theorem Rel.pad (r : Rel K B args G σ H) (n : Nat) : Rel K (B ++ List.replicate n none) (args ++ List.replicate n .no) G (σ ++ List.replicate n none) H where
  ex := r.ex
  len := by simp [r.len]
  lenA := by simp [r.lenA]
  val := fun i d e => by
    rcases pad_get e with e | ⟨_, e⟩
    · obtain ⟨v, h1, h2⟩ := r.val i d e
      exact ⟨v, get_pad h1, h2⟩
    · cases e
  own := fun i d e => by
    rcases pad_get e with e | ⟨_, e⟩
    · obtain ⟨a, o, h1, h2, h3, h4⟩ := r.own i d e
      exact ⟨a, o, get_pad h1, get_pad h2, h3, h4⟩
    · cases e
  off := fun a h => r.off a (mem_pad.mp h)
  inj := fun i j a h1 h2 => by
    rcases pad_get h1 with h1 | ⟨_, h1⟩
    · rcases pad_get h2 with h2 | ⟨_, h2⟩
      · exact r.inj i j a h1 h2
      · cases h2
    · cases h1
  has := fun i a h => by
    rcases pad_get h with h | ⟨_, h⟩
    · obtain ⟨d, q⟩ := r.has i a h
      exact ⟨d, get_pad q⟩
    · cases h
theorem Adv.unpad {n : Nat} {G' H' : Hp} (a : Adv (B ++ List.replicate n none) G H G' H') : Adv B G H G' H' := ⟨a.g, a.new, fun b o h => a.fr b o fun z => h (mem_pad.mp z), a.th⟩
end
/-- a def's body keeps what its promise says -/
theorem body_reads {X : Cx} {N ps : List Str} {body : List Stmt} {m : MS} {vs : List V} {H : Hp} {Q : VK} {E : XK} (hb : SSs X (fun C d _ H1 => E C d H1) (some ps.length) body m) (hsp : spM X.K ps.length (bodyRun N.length m) vs H Q E) :
    ∃ t, PSs X body t ∧ t { nx := fun _ H1 => Q .non H1, rt := Q } (start N vs) H := by
  obtain ⟨t, pt, kt⟩ := hb
  refine ⟨t, pt, ?_⟩
  obtain ⟨hl, B, args, G, rl, post⟩ := hsp
  have la : args.length = vs.length := by rw [rl.len, List.length_map]
  have r2 := rl.pad (N.length - vs.length)
  refine kt ⟨some ps.length, B ++ List.replicate (N.length - vs.length) none, G, H⟩ (B ++ List.replicate (N.length - vs.length) none) (pad N.length args) G (start N vs) H { nx := fun _ H1 => Q .non H1, rt := Q } rfl ?_ ?_
  · have e1 : pad N.length args = args ++ List.replicate (N.length - vs.length) .no := by unfold pad; rw [la]
    rw [e1]
    refine ⟨r2, Adv.refl, fun a h => .inl h, fun i a h => h, fun i n a h q => ?_⟩
    cases q
    rcases pad_get h with h | ⟨_, h⟩
    · have := (List.getElem?_eq_some_iff.mp h).1
      rw [rl.lenA, List.length_map] at this
      omega
    · cases h
  · -- the ends
    have outs : ∀ {A' : List (Option Addr)} {G' H' : Hp} {σ' : L2.St} {e' : En}, Cur X.K ⟨some ps.length, B ++ List.replicate (N.length - vs.length) none, G, H⟩ A' e' G' σ' H' → Outs X.K B G' H' e' := fun {A' G' H' σ' e'} c i a h => by
      have h2 := c.keep i a (get_pad h)
      obtain ⟨d, q⟩ := c.rel.has i a h2
      obtain ⟨a2, o, k1, k2, k3, k4⟩ := c.rel.own i d q
      rw [h2] at k1
      cases k1
      exact ⟨d, o, q, k3, k4, (c.rel.off a (List.mem_of_getElem? h2)).1⟩
    unfold bodyRun at post
    cases q : m (pad N.length args) with
    | ok fl e =>
      rw [q] at post
      cases fl with
      | nx => exact fun A' G' σ' H' sg c => post G' H' .non c.rel.ex c.adv.unpad (outs c) rfl
      | rt d => exact fun A' G' σ' H' v sg c rv => post G' H' v c.rel.ex c.adv.unpad (outs c) rv
      | ro d => exact fun A' G' σ' H' p o sg c h1 h2 h3 h4 => post G' H' (.ref p) c.rel.ex c.adv.unpad (outs c) ⟨p, o, rfl, h1, h2, h3, h4⟩
      | bk => exact post.elim
      | ct => exact post.elim
    | err x e =>
      rw [q] at post
      exact fun A' G' σ' H' C d sg c xr => post G' H' C d c.rel.ex c.adv.unpad (outs c) xr
    | stuck =>
      rw [q] at post
      exact post.elim
/-- a def of the text, by what its body says -/
theorem fnM {P : Program} {w : World} {K : PySem.W.Frag} {mg : Str → Option Value} {base : Heap} {k : Nat} {f : Addr} {name qual : Str} {params : Arguments} {body : List Stmt} {scope : Scope} {dV kV doc pm cdv ct oc : Value} {an od : Option Addr}
    {osl : Array (Option Value)} {N ps : List Str} {m : MS} (lk : K.lookup f = some ⟨oc, od, .func (PySem.W.fnOf name qual params body scope dV kV doc pm an cdv ct), osl⟩) (hcd : PySem.W.codeIn K cdv qual = true) (S : FnScope N ps scope)
    (hb : ∀ (A : Around) (below : List Env) (s : Shared) (H : Hp) (E : XK), A.guards = some [] → Room k (A.deeper (envOfC qual scope s.heap.objs.size f cdv)) →
      SSs (cxOf (L2.CX P w) P w K mg base N qual scope f cdv A below s H E) (fun C d _ H1 => E C d H1) (some ps.length) body m) :
    FnG P w K mg base (k + 1) f (PySem.W.fnOf name qual params body scope dV kV doc pm an cdv ct) ps (spM K ps.length (bodyRun N.length m)) :=
  fnG_of lk hcd S (fun vs H Q E h => h.1) fun A below s H vs Q E hg hr hsp => body_reads (hb A below s H E hg hr) hsp
end Mini
set_option maxHeartbeats 1000000
/-! Mini, part 10: calls of defs; own objects lent. -/
namespace Mini
open PySem PySem.Spec PyProof.Rows L2
/-- an argument: a datum; the own object at a slot -/
inductive Ag where
  | vl (d : D) | ln (i : Nat)
def RepAg (K : PySem.W.Frag) (A : List (Option Addr)) (G : Hp) : Ag → V → Prop
  | .vl d, v => Rep K G d v
  | .ln i, v => ∃ a, A[i]? = some (some a) ∧ v = .ref a
def RepAgs (K : PySem.W.Frag) (A : List (Option Addr)) (G : Hp) : List Ag → List V → Prop
  | [], vs => vs = []
  | g :: gs, vs => ∃ u us, vs = u :: us ∧ RepAg K A G g u ∧ RepAgs K A G gs us
theorem RepAg.mono {K : PySem.W.Frag} {A : List (Option Addr)} {G G' : Hp} (e : Same G G') {g : Ag} {v : V} (h : RepAg K A G g v) : RepAg K A G' g v := by
  cases g with
  | vl d => exact Rep.mono e d v h
  | ln i => exact h
/-- one argument -/
def SAr (X : Cx) (W : WX) (e : Expr) (m : M Ag) : Prop := ∃ t, PE X e t ∧ ∀ A env G σ H (Q : VK), Rel X.K A env G σ H →
  Post X.K A G σ H W (m env) (fun d _ G' H' => ∀ v, RepAg X.K A G' d v → Q v H') → t σ H Q
def SAg (X : Cx) (W : WX) (es : List Expr) (m : M (List Ag)) : Prop := ∃ t, PA X es t ∧ ∀ A env G σ H (Q : List V → Hp → Prop), Rel X.K A env G σ H →
  Post X.K A G σ H W (m env) (fun ds _ G' H' => ∀ vs, RepAgs X.K A G' ds vs → Q vs H') → t σ H Q
section
variable {X : Cx} {W : WX}
def vlM (m : M D) : M Ag := fun e => (m e).bind fun d e1 => .ok (.vl d) e1
theorem sar_vl {e : Expr} {m : M D} (h : SE X W e m) : SAr X W e (vlM m) := by
  obtain ⟨t, p, k⟩ := h
  exact ⟨t, p, fun A env G σ H Q rl h => k A env G σ H _ rl (Post.mono (Post.bind h) fun d e1 G1 H1 ad rl1 z v rv => Post.here z rl1 v rv)⟩
/-- a name: its datum, or its own object lent -/
def lnM (i : Nat) : M Ag := fun e => match e[i]? with
  | some (.val d) => .ok (.vl d) e
  | some (.own _) => .ok (.ln i) e
  | _ => .stuck
theorem sar_name {i : Nat} {x : Str} {pos : Pos} (hN : X.N[i]? = some x) (hv : Vis X.env.scope x) (hd : (x == ("__debug__" : Str)) = false) (hcd : (x == ("__classdict__" : Str)) = false) : SAr X W (.Name x pos) (lnM i) := by
  refine ⟨_, pe_var hN hv hd hcd, fun A env G σ H Q rl h => ?_⟩
  unfold lnM at h
  split at h
  · rename_i d e
    obtain ⟨v, a, b⟩ := rl.val i d e
    exact ⟨v, a, Post.here h rl v b⟩
  · rename_i d e
    obtain ⟨a, o, h1, h2, h3, h4⟩ := rl.own i d e
    exact ⟨_, h2, Post.here h rl _ ⟨a, h1, rfl⟩⟩
  · exact h.elim
theorem sag_nil : SAg X W [] (ret []) := ⟨_, pa_nil, fun A env G σ H Q rl h => Post.here h rl [] rfl⟩
def consA (m : M Ag) (ms : M (List Ag)) : M (List Ag) := fun e => (m e).bind fun d e1 => (ms e1).bind fun ds e2 => .ok (d :: ds) e2
theorem sag_cons {e : Expr} {es : List Expr} {m : M Ag} {ms : M (List Ag)} (h : SAr X W e m) (hs : SAg X W es ms) (hst : starEach (e :: es) X.env = (false, eval e X.env) :: starEach es X.env) : SAg X W (e :: es) (consA m ms) := by
  obtain ⟨t, p, k⟩ := h
  obtain ⟨u, q, l⟩ := hs
  refine ⟨_, pa_cons p q hst, fun A env G σ H Q rl h => ?_⟩
  refine k A env G σ H _ rl (Post.mono (Post.bind h) fun d e1 G1 H1 ad rl1 z v rv => ?_)
  refine l A e1 G1 σ H1 _ rl1 (Post.mono (Post.bind z) fun ds e2 G2 H2 ad2 rl2 z2 vs rvs => ?_)
  exact Post.here z2 rl2 _ ⟨v, vs, rfl, rv.mono ad2.g, rvs⟩
end
/-- the callee's slots -/
def enter (env : En) : List Ag → Option (List Sl)
  | [] => some []
  | .vl d :: r => (enter env r).map (.val d :: ·)
  | .ln i :: r => match env[i]? with
    | some (.own d) => (enter env r).map (.own d :: ·)
    | _ => none
def lents : List Ag → List Nat
  | [] => []
  | .vl _ :: r => lents r
  | .ln i :: r => i :: lents r
def leave (env e' : En) : List Ag → Nat → En
  | [], _ => env
  | .vl _ :: r, j => leave env e' r (j + 1)
  | .ln i :: r, j => (leave env e' r (j + 1)).set i (e'.getD j .no)
def Bof (A : List (Option Addr)) : List Ag → List (Option Addr)
  | [] => []
  | .vl _ :: r => none :: Bof A r
  | .ln i :: r => (A[i]?).getD none :: Bof A r
section
variable {K : PySem.W.Frag} {A : List (Option Addr)} {env e' : En} {G H G' H' : Hp} {σ : L2.St}
theorem Bof_at : ∀ {ags : List Ag} {j : Nat} {a : Addr}, (Bof A ags)[j]? = some (some a) → ∃ i, ags[j]? = some (.ln i) ∧ A[i]? = some (some a)
  | [], _, _, h => by cases h
  | .vl _ :: _, 0, _, h => by cases h
  | .ln i :: _, 0, a, h => by
    refine ⟨i, rfl, ?_⟩
    have h : (A[i]?).getD none = some a := Option.some.inj h
    cases q : A[i]? with
    | none =>
      rw [q] at h
      cases h
    | some x =>
      rw [q] at h
      exact congrArg some h
  | .vl _ :: r, j + 1, a, h => Bof_at (ags := r) (j := j) h
  | .ln _ :: r, j + 1, a, h => Bof_at (ags := r) (j := j) h
theorem Bof_of : ∀ {ags : List Ag} {j i : Nat} {a : Addr}, ags[j]? = some (.ln i) → A[i]? = some (some a) → (Bof A ags)[j]? = some (some a)
  | [], _, _, _, h, _ => by cases h
  | .vl _ :: _, 0, _, _, h, _ => by cases h
  | .ln i :: _, 0, _, a, h, k => by
    cases h
    show some ((A[i]?).getD none) = _
    rw [k]
    rfl
  | .vl _ :: r, j + 1, _, _, h, k => Bof_of (ags := r) (j := j) h k
  | .ln _ :: r, j + 1, _, _, h, k => Bof_of (ags := r) (j := j) h k
theorem mem_lents : ∀ {ags : List Ag} {j i : Nat}, ags[j]? = some (.ln i) → i ∈ lents ags
  | .ln _ :: _, 0, _, h => by
    cases h
    exact List.mem_cons_self ..
  | .vl _ :: r, j + 1, _, h => mem_lents (ags := r) (j := j) h
  | .ln _ :: r, j + 1, _, h => List.mem_cons_of_mem _ (mem_lents (ags := r) (j := j) h)
theorem lents_mem : ∀ {ags : List Ag} {i : Nat}, i ∈ lents ags → ∃ j : Nat, ags[j]? = some (Ag.ln i)
  | .ln k :: r, i, h => by
    rcases List.mem_cons.mp h with h | h
    · exact ⟨0, by rw [h]; rfl⟩
    · obtain ⟨j, q⟩ := lents_mem h
      exact ⟨j + 1, q⟩
  | .vl _ :: r, i, h => by
    obtain ⟨j, q⟩ := lents_mem (ags := r) h
    exact ⟨j + 1, q⟩
theorem lents_inj : ∀ {ags : List Ag} {i j k : Nat}, (lents ags).Nodup → ags[j]? = some (.ln i) → ags[k]? = some (.ln i) → j = k
  | .ln _ :: r, i, 0, 0, _, _, _ => rfl
  | .ln _ :: r, i, 0, k + 1, nd, h1, h2 => by
    cases h1
    exact absurd (mem_lents (ags := r) (j := k) h2) (List.nodup_cons.mp nd).1
  | .ln _ :: r, i, j + 1, 0, nd, h1, h2 => by
    cases h2
    exact absurd (mem_lents (ags := r) (j := j) h1) (List.nodup_cons.mp nd).1
  | .ln _ :: r, i, j + 1, k + 1, nd, h1, h2 => congrArg Nat.succ (lents_inj (ags := r) (List.nodup_cons.mp nd).2 h1 h2)
  | .vl _ :: r, i, 0, _, _, h1, _ => by cases h1
  | .vl _ :: r, i, _ + 1, 0, _, _, h2 => by cases h2
  | .vl _ :: r, i, j + 1, k + 1, nd, h1, h2 => congrArg Nat.succ (lents_inj (ags := r) nd h1 h2)
theorem enter_len : ∀ {ags : List Ag} {args : List Sl}, enter env ags = some args → args.length = ags.length
  | [], _, h => by
    cases h
    rfl
  | .vl d :: r, _, h => by
    unfold enter at h
    cases q : enter env r with
    | none =>
      rw [q] at h
      cases h
    | some as =>
      rw [q] at h
      cases h
      exact congrArg Nat.succ (enter_len q)
  | .ln i :: r, _, h => by
    unfold enter at h
    split at h
    · cases q : enter env r with
      | none =>
        rw [q] at h
        cases h
      | some as =>
        rw [q] at h
        cases h
        exact congrArg Nat.succ (enter_len q)
    · cases h
theorem enter_at : ∀ {ags : List Ag} {args : List Sl} {j : Nat} {g : Ag}, enter env ags = some args → ags[j]? = some g → (∃ d, g = .vl d ∧ args[j]? = some (.val d)) ∨ ∃ i d, g = .ln i ∧ env[i]? = some (.own d) ∧ args[j]? = some (.own d)
  | .vl d :: r, _, j, g, h, e => by
    unfold enter at h
    cases q : enter env r with
    | none =>
      rw [q] at h
      cases h
    | some as =>
      rw [q] at h
      cases h
      cases j with
      | zero =>
        cases e
        exact .inl ⟨d, rfl, rfl⟩
      | succ j => exact enter_at (ags := r) (j := j) q e
  | .ln i :: r, _, j, g, h, e => by
    unfold enter at h
    split at h
    · rename_i d hd
      cases q : enter env r with
      | none =>
        rw [q] at h
        cases h
      | some as =>
        rw [q] at h
        cases h
        cases j with
        | zero =>
          cases e
          exact .inr ⟨i, d, rfl, hd, rfl⟩
        | succ j => exact enter_at (ags := r) (j := j) q e
    · cases h
theorem repags_at : ∀ {ags : List Ag} {vs : List V} {j : Nat} {g : Ag}, RepAgs K A G ags vs → ags[j]? = some g → ∃ v, vs[j]? = some v ∧ RepAg K A G g v
  | _ :: r, _, 0, g, ⟨u, us, h1, h2, h3⟩, e => by
    cases e
    subst h1
    exact ⟨u, rfl, h2⟩
  | _ :: r, _, j + 1, g, ⟨u, us, h1, h2, h3⟩, e => by
    subst h1
    exact repags_at (ags := r) (j := j) h3 e
theorem repags_len : ∀ {ags : List Ag} {vs : List V}, RepAgs K A G ags vs → vs.length = ags.length
  | [], _, h => by
    rw [show _ = [] from h]
    rfl
  | _ :: r, _, ⟨u, us, h1, h2, h3⟩ => by
    subst h1
    exact congrArg Nat.succ (repags_len h3)
theorem Bof_len : ∀ {ags : List Ag}, (Bof A ags).length = ags.length
  | [] => rfl
  | .vl _ :: r => congrArg Nat.succ (Bof_len (ags := r))
  | .ln _ :: r => congrArg Nat.succ (Bof_len (ags := r))
theorem Rel.enter (r : Rel K A env G σ H) {ags : List Ag} {vs : List V} {args : List Sl} (rv : RepAgs K A G ags vs) (he : enter env ags = some args) (nd : (lents ags).Nodup) : Rel K (Bof A ags) args G (vs.map some) H := by
  have l1 := enter_len he
  have l2 := repags_len rv
  have at1 : ∀ {j : Nat} {x : Sl}, args[j]? = some x → ∃ g, ags[j]? = some g := fun {j x} h => by
    have := (List.getElem?_eq_some_iff.mp h).1
    exact ⟨_, List.getElem?_eq_getElem (by omega)⟩
  refine ⟨r.ex, by rw [List.length_map]; omega, by rw [List.length_map, Bof_len]; omega, fun j d e => ?_, fun j d e => ?_, fun a h => ?_, fun j k a h1 h2 => ?_, fun j a h => ?_⟩
  · obtain ⟨g, hg⟩ := at1 e
    rcases enter_at he hg with ⟨d2, rfl, q⟩ | ⟨i, d2, rfl, _, q⟩
    · rw [q] at e
      cases e
      obtain ⟨v, h1, h2⟩ := repags_at rv hg
      exact ⟨v, by rw [List.getElem?_map, h1]; rfl, h2⟩
    · rw [q] at e
      cases e
  · obtain ⟨g, hg⟩ := at1 e
    rcases enter_at he hg with ⟨d2, rfl, q⟩ | ⟨i, d2, rfl, q0, q⟩
    · rw [q] at e
      cases e
    · rw [q] at e
      cases e
      obtain ⟨v, h1, a, h2, h3⟩ := repags_at rv hg
      obtain ⟨a2, o, k1, k2, k3, k4⟩ := r.own i _ q0
      rw [h2] at k1
      cases k1
      subst h3
      exact ⟨a, o, Bof_of hg h2, by rw [List.getElem?_map, h1]; rfl, k3, k4⟩
  · obtain ⟨j, hj⟩ := List.mem_iff_getElem?.mp h
    obtain ⟨i, _, q⟩ := Bof_at hj
    exact r.off a (List.mem_of_getElem? q)
  · obtain ⟨i, g1, q1⟩ := Bof_at h1
    obtain ⟨i2, g2, q2⟩ := Bof_at h2
    have e := r.inj i i2 a q1 q2
    subst e
    exact lents_inj nd g1 g2
  · obtain ⟨i, g1, q1⟩ := Bof_at h
    rcases enter_at he g1 with ⟨d2, z, _⟩ | ⟨i2, d2, _, _, q⟩
    · cases z
    · exact ⟨d2, q⟩
theorem leave_len : ∀ {ags : List Ag} {j : Nat}, (leave env e' ags j).length = env.length
  | [], _ => rfl
  | .vl _ :: r, j => leave_len (ags := r) (j := j + 1)
  | .ln i :: r, j => by
    unfold leave
    rw [List.length_set]
    exact leave_len (ags := r) (j := j + 1)
theorem leave_at : ∀ {ags : List Ag} {j0 i : Nat}, i < env.length → (i ∉ lents ags ∧ (leave env e' ags j0)[i]? = env[i]?) ∨ ∃ j : Nat, ags[j]? = some (Ag.ln i) ∧ (leave env e' ags j0)[i]? = some (e'.getD (j0 + j) .no)
  | [], _, i, _ => .inl ⟨(fun h => nomatch h), rfl⟩
  | .vl _ :: r, j0, i, hi => by
    rcases leave_at (ags := r) (j0 := j0 + 1) hi with ⟨h1, h2⟩ | ⟨j, h1, h2⟩
    · exact .inl ⟨h1, h2⟩
    · exact .inr ⟨j + 1, h1, by rw [show j0 + (j + 1) = j0 + 1 + j by omega]; exact h2⟩
  | .ln k :: r, j0, i, hi => by
    unfold leave
    by_cases q : k = i
    · subst q
      refine .inr ⟨0, rfl, ?_⟩
      rw [List.getElem?_set_self (by rw [leave_len]; exact hi)]
      rfl
    · rw [List.getElem?_set_ne q]
      rcases leave_at (ags := r) (j0 := j0 + 1) hi with ⟨h1, h2⟩ | ⟨j, h1, h2⟩
      · exact .inl ⟨fun z => (List.mem_cons.mp z).elim (fun y => q y.symm) h1, h2⟩
      · exact .inr ⟨j + 1, h1, by rw [show j0 + (j + 1) = j0 + 1 + j by omega]; exact h2⟩
theorem Adv.lent {ags : List Ag} (ad : Adv (Bof A ags) G H G' H') : Adv A G H G' H' := ⟨ad.g, ad.new, fun b o n => ad.fr b o fun z => by
  obtain ⟨j, hj⟩ := List.mem_iff_getElem?.mp z
  obtain ⟨i, _, q⟩ := Bof_at hj
  exact n (List.mem_of_getElem? q), ad.th⟩
/-- behind the call: what was lent stands in its slots again -/
theorem Rel.leave (r : Rel K A env G σ H) {ags : List Ag} {args : List Sl} (he : Mini.enter env ags = some args) (ad : Adv (Bof A ags) G H G' H') (ex : Same G' H') (ou : Outs K (Bof A ags) G' H' e') : Rel K A (Mini.leave env e' ags 0) G' σ H' := by
  have lent : ∀ {i j : Nat}, ags[j]? = some (.ln i) → ∃ a d o, A[i]? = some (some a) ∧ σ[i]? = some (some (.ref a)) ∧ e'.getD j .no = .own d ∧ H' a = some o ∧ OwnO K G' d o ∧ G' a = none := fun {i j} hj => by
    rcases enter_at he hj with ⟨d2, z, _⟩ | ⟨i2, d2, z, q0, q⟩
    · cases z
    · cases z
      obtain ⟨a, o, k1, k2, k3, k4⟩ := r.own i _ q0
      obtain ⟨d, o2, m1, m2, m3, m4⟩ := ou j a (Bof_of hj k1)
      exact ⟨a, d, o2, k1, k2, by rw [List.getD_eq_getElem?_getD, m1]; rfl, m2, m3, m4⟩
  have inB : ∀ {a : Addr}, some a ∈ Bof A ags → ∃ i j : Nat, ags[j]? = some (Ag.ln i) ∧ A[i]? = some (some a) := fun {a} h => by
    obtain ⟨j, hj⟩ := List.mem_iff_getElem?.mp h
    obtain ⟨i, q1, q2⟩ := Bof_at hj
    exact ⟨i, j, q1, q2⟩
  have lt : ∀ {i : Nat} {x : Sl}, (Mini.leave env e' ags 0)[i]? = some x → i < env.length := fun {i x} h => by
    have := (List.getElem?_eq_some_iff.mp h).1
    rw [leave_len] at this
    exact this
  refine ⟨ex, by rw [leave_len]; exact r.len, r.lenA, fun i d e => ?_, fun i d e => ?_, fun a h => ?_, r.inj, fun i a h => ?_⟩
  · rcases leave_at (env := env) (e' := e') (ags := ags) (j0 := 0) (lt e) with ⟨_, q⟩ | ⟨j, q1, q2⟩
    · rw [q] at e
      obtain ⟨v, h1, h2⟩ := r.val i d e
      exact ⟨v, h1, h2.mono ad.g⟩
    · obtain ⟨a, d2, o, k1, k2, k3, _⟩ := lent q1
      rw [Nat.zero_add, k3, e] at q2
      cases q2
  · rcases leave_at (env := env) (e' := e') (ags := ags) (j0 := 0) (lt e) with ⟨n, q⟩ | ⟨j, q1, q2⟩
    · rw [q] at e
      obtain ⟨a, o, h1, h2, h3, h4⟩ := r.own i d e
      refine ⟨a, o, h1, h2, ad.fr a o (fun z => ?_) h3, h4.mono ad.g⟩
      obtain ⟨i2, j, q1, q2⟩ := inB z
      exact n (by rw [r.inj i i2 a h1 q2]; exact mem_lents q1)
    · obtain ⟨a, d2, o, k1, k2, k3, k4, k5, _⟩ := lent q1
      rw [Nat.zero_add, k3, e] at q2
      cases q2
      exact ⟨a, o, k1, k2, k4, k5⟩
  · obtain ⟨h1, h2⟩ := r.off a h
    refine ⟨?_, fun z => h2 (ad.th a z)⟩
    by_cases hb : some a ∈ Bof A ags
    · obtain ⟨i, j, q1, q2⟩ := inB hb
      obtain ⟨a2, d2, o, k1, _, _, _, _, k6⟩ := lent q1
      rw [q2] at k1
      cases k1
      exact k6
    · cases q : G' a with
      | none => rfl
      | some o =>
        rcases ad.new a o q with z | z
        · rw [h1] at z
          cases z
        · exact absurd z h2
  · obtain ⟨d, q⟩ := r.has i a h
    rcases leave_at (env := env) (e' := e') (ags := ags) (j0 := 0) (List.getElem?_eq_some_iff.mp q).1 with ⟨_, z⟩ | ⟨j, q1, q2⟩
    · exact ⟨d, by rw [z]; exact q⟩
    · obtain ⟨a2, d2, o, k1, k2, k3, _⟩ := lent q1
      exact ⟨d2, by rw [q2, Nat.zero_add, k3]⟩
end
/-- a call -/
def callM (run : Run) (ma : M (List Ag)) : M Rv := fun e => (ma e).bind fun ags e1 => match enter e1 ags with
  | some args => if (lents ags).Nodup then (match run args with
    | .ok r e' => .ok r (leave e1 e' ags 0)
    | .err x e' => .err x (leave e1 e' ags 0)
    | .stuck => .stuck) else .stuck
  | none => .stuck
section
variable {X : Cx} {W : WX}
/-- what a call wants of its arguments, out of what callM says -/
theorem call_reads {A : List (Option Addr)} {e1 : En} {G1 H1 : Hp} {σ : L2.St} {run : Run} {ags : List Ag} {vs : List V} {Qv : VK} (rl : Rel X.K A e1 G1 σ H1)
    (h : Post X.K A G1 σ H1 W (match enter e1 ags with
      | some args => if (lents ags).Nodup then (match run args with
        | .ok r e' => R.ok r (leave e1 e' ags 0)
        | .err x e' => .err x (leave e1 e' ags 0)
        | .stuck => .stuck) else .stuck
      | none => .stuck) fun r _ G' H' => ∀ v, RetOk X.K G' H' H1 r v → Qv v H') (rv : RepAgs X.K A G1 ags vs) {np : Nat} (hn : ags.length = np) :
    spM X.K np run vs H1 Qv (WE W σ) := by
  refine ⟨by rw [repags_len rv]; exact hn, ?_⟩
  cases he : enter e1 ags with
  | none =>
    rw [he] at h
    exact h.elim
  | some args =>
    rw [he] at h
    dsimp only at h
    split at h
    · rename_i nd
      refine ⟨Bof A ags, args, G1, rl.enter rv he nd, ?_⟩
      cases q : run args with
      | ok r e' =>
        rw [q] at h
        exact fun G' H' v ex ad ou ro => h G' H' ad.lent (rl.leave he ad ex ou) v ro
      | err x e' =>
        rw [q] at h
        exact fun G' H' C d ex ad ou xr => h G' H' C d ad.lent (rl.leave he ad ex ou) xr
      | stuck =>
        rw [q] at h
        exact h.elim
    · exact h.elim
variable {k : Nat} {f : Addr} {fd : FuncData} {ps : List Str} {sp : Sp}
/-- the callee runs -/
theorem run_fnG {pins : List (Addr × Obj)} {σ : L2.St} {H : Hp} {s : Shared} {Q : VK} {us : List Value} {vs : List V} (F : FnG X.prog X.w X.K X.mg X.base k f fd ps sp) (hg : X.A.guards = some []) (hr : Room k X.A) (hb : Binds X.K fd ps []) (tk : Takes X W)
    (I : Inv X pins σ H s) (r : Vals vs us) (h : sp vs H Q (WE W σ)) : wpAny (model X.prog X.w) X.A (call (.ref f) us) (EP X pins σ Q) X.xe s := by
  have hl : us.length = ps.length := (Paired.length r).symm.trans (F.len _ _ _ _ h)
  have bt := hb s us I.kIn (by rw [List.append_nil]; exact hl)
  rw [List.append_nil] at bt
  refine wpAny_call (codeAny_mono (F.run X.A X.stack s H ⟨us, []⟩ us vs Q (WE W σ) hg hr I.env0 bt r h) fun r s' q => ?_)
  cases r with
  | error e => exact passAt tk σ pins H s e s' I q
  | ok fl => cases fl with
    | ret u => exact I.after q
    | next => exact q.elim
    | brk => exact q.elim
    | cont => exact q.elim
/-- a reading of calls -/
def tCallG (sp : Sp) (W : WX) (t : TA) : TE := fun σ H Q => t σ H fun vs H1 => sp vs H1 Q (WE W σ)
theorem pe_callG {x : Str} {p pos : Pos} {e : Expr} {es : List Expr} {t : TA} (F : FnG X.prog X.w X.K X.mg X.base k f fd ps sp) (hgu : X.A.guards = some []) (hr : Room k X.A) (hg : Gl X x) (hm : X.mg x = some (.ref f)) (hk : PySem.W.keepIn X.K (.ref f) = true)
    (hb : Binds X.K fd ps []) (tk : Takes X W) (ha : PA X (e :: es) t) (hdb : (x == ("__debug__" : Str)) = false) (he : starEach (e :: es) X.env = (false, eval e X.env) :: starEach es X.env) (hpl : (backTo pos (starEach es X.env)).any (·.1) = false) :
    PE X (.Call (.Name x p) (e :: es) [] pos) (tCallG sp W t) := by
  refine ⟨fun pins s σ H Q I h => wpAny_Call_Name_kw (ld_glob I hg hm ?_ hdb)⟩
  exact PySem.W.callWith_K (h₀ := X.base) I.ok.mod.kin hk (thn (ha.run pos pins s σ H _ I h) fun us s1 ⟨vs, H1, I1, r, q⟩ => ⟨I1.kIn, run_fnG F hgu hr hb tk I1 r q⟩) he hpl
theorem pe_callG0 {x : Str} {p pos : Pos} (F : FnG X.prog X.w X.K X.mg X.base k f fd ps sp) (hgu : X.A.guards = some []) (hr : Room k X.A) (hg : Gl X x) (hm : X.mg x = some (.ref f)) (hk : PySem.W.keepIn X.K (.ref f) = true)
    (hb : Binds X.K fd ps []) (tk : Takes X W) (hdb : (x == ("__debug__" : Str)) = false) : PE X (.Call (.Name x p) [] [] pos) (tCallG sp W tNil) := by
  refine ⟨fun pins s σ H Q I h => wpAny_Call_Name_kw (ld_glob I hg hm ?_ hdb)⟩
  exact PySem.W.callWith_K0 I.kIn hk (run_fnG (us := []) F hgu hr hb tk I .nil h)
/-- an expression that gives a shared datum or a new own object -/
def SV (X : Cx) (W : WX) (e : Expr) (m : M Rv) : Prop := ∃ t, PE X e t ∧ ∀ A env G σ H (Q : VK), Rel X.K A env G σ H →
  Post X.K A G σ H W (m env) (fun r _ G' H' => ∀ v, RetOk X.K G' H' H r v → Q v H') → t σ H Q
end
end Mini
set_option maxHeartbeats 1000000
/-! Mini, part 11: values that may be new own objects; builtins by values. -/
namespace Mini
open PySem PySem.Spec PyProof.Rows L2
section
variable {X : Cx} {W : WX}
def shM (m : M D) : M Rv := fun e => (m e).bind fun d e1 => .ok (.sh d) e1
theorem sv_sh {e : Expr} {m : M D} (h : SE X W e m) : SV X W e (shM m) := by
  obtain ⟨t, p, k⟩ := h
  exact ⟨t, p, fun A env G σ H Q rl h => k A env G σ H _ rl (Post.mono (Post.bind h) fun d e1 G1 H1 ad rl1 z v rv => Post.here z rl1 v rv)⟩
theorem RetOk.down {K : PySem.W.Frag} {G' H' H1 H0 : Hp} {r : Rv} {v : V} (h : RetOk K G' H' H1 r v) (th : ∀ b, H1 b = none → H0 b = none) : RetOk K G' H' H0 r v := by
  cases r with
  | sh d => exact h
  | ow d =>
    obtain ⟨p, o, h1, h2, h3, h4⟩ := h
    exact ⟨p, o, h1, h2, th p h3, h4⟩
/-- the reading of a call, for any caller -/
theorem call_tree {run : Run} {ma : M (List Ag)} {t : TA} {np : Nat} (k : ∀ A env G σ H (Q : List V → Hp → Prop), Rel X.K A env G σ H → Post X.K A G σ H W (ma env) (fun ds _ G' H' => ∀ vs, RepAgs X.K A G' ds vs → Q vs H') → t σ H Q)
    (hn : ∀ env ags e1, ma env = .ok ags e1 → ags.length = np)
    {A : List (Option Addr)} {env : En} {G : Hp} {σ : L2.St} {H : Hp} {Q : VK} (rl : Rel X.K A env G σ H) (h : Post X.K A G σ H W (callM run ma env) fun r _ G' H' => ∀ v, RetOk X.K G' H' H r v → Q v H') : tCallG (spM X.K np run) W t σ H Q := by
  refine k A env G σ H _ rl ?_
  unfold callM at h
  cases q : ma env with
  | ok ags e1 =>
    rw [q] at h
    intro G1 H1 ad rl1 vs rv
    have h1 := Post.from ad (show Post X.K A G σ H W _ _ from h)
    exact call_reads rl1 (Post.mono h1 fun r e2 G2 H2 ad2 rl2 z v w => z v (w.down ad.th)) rv (hn _ _ _ q)
  | err x e1 =>
    rw [q] at h
    exact h
  | stuck =>
    rw [q] at h
    exact h
theorem sv_call {x : Str} {p pos : Pos} {k : Nat} {f : Addr} {fd : FuncData} {ps : List Str} {run : Run} {e : Expr} {es : List Expr} {ma : M (List Ag)} (F : FnG X.prog X.w X.K X.mg X.base k f fd ps (spM X.K ps.length run)) (hgu : X.A.guards = some []) (hr : Room k X.A) (hg : Gl X x) (hm : X.mg x = some (.ref f)) (hk : PySem.W.keepIn X.K (.ref f) = true)
    (hb : Binds X.K fd ps []) (tk : Takes X W) (ha : SAg X W (e :: es) ma) (hn : ∀ env ags e1, ma env = .ok ags e1 → ags.length = ps.length) (hdb : (x == ("__debug__" : Str)) = false) (he : starEach (e :: es) X.env = (false, eval e X.env) :: starEach es X.env) (hpl : (backTo pos (starEach es X.env)).any (·.1) = false) :
    SV X W (.Call (.Name x p) (e :: es) [] pos) (callM run ma) := by
  obtain ⟨t, pt, kt⟩ := ha
  exact ⟨_, pe_callG F hgu hr hg hm hk hb tk pt hdb he hpl, fun A env G σ H Q rl h => call_tree kt hn rl h⟩
theorem sv_call0 {x : Str} {p pos : Pos} {k : Nat} {f : Addr} {fd : FuncData} {run : Run} (F : FnG X.prog X.w X.K X.mg X.base k f fd [] (spM X.K 0 run)) (hgu : X.A.guards = some []) (hr : Room k X.A) (hg : Gl X x) (hm : X.mg x = some (.ref f)) (hk : PySem.W.keepIn X.K (.ref f) = true)
    (hb : Binds X.K fd [] []) (tk : Takes X W) (hdb : (x == ("__debug__" : Str)) = false) : SV X W (.Call (.Name x p) [] [] pos) (callM run (ret [])) :=
  ⟨_, pe_callG0 F hgu hr hg hm hk hb tk hdb, fun A env G σ H Q rl h => call_tree (ma := ret []) (t := tNil) (fun A env G σ H Q rl h => Post.here h rl [] rfl) (fun env ags e1 q => by cases q; rfl) rl h⟩
/-- a new own object shared -/
theorem own_share {K : PySem.W.Frag} {A : List (Option Addr)} {env : En} {G H : Hp} {σ : L2.St} {p : Addr} {o : HO} {d : D} (rl : Rel K A env G σ H) (h1 : G p = none) (hA : some p ∉ A) (h3 : H p = some o) (h4 : OwnO K G d o) :
    Rel K A env (upd G p o) σ H ∧ Rep K (upd G p o) d (.ref p) := by
  have s := same_upd (o := o) h1
  refine ⟨⟨fun a u e => ?_, rl.len, rl.lenA, fun i d e => let ⟨v, a, b⟩ := rl.val i d e; ⟨v, a, b.mono s⟩, fun i d e => let ⟨a, u, k1, k2, k3, k4⟩ := rl.own i d e; ⟨a, u, k1, k2, k3, k4.mono s⟩, fun a h => ⟨?_, (rl.off a h).2⟩, rl.inj, rl.has⟩, ?_⟩
  · by_cases q : a = p
    · rw [q, upd_same] at e
      rw [q, h3, e]
    · rw [upd_ne q] at e
      exact rl.ex a u e
  · rw [upd_ne (fun z => hA (by rw [← z]; exact h))]
    exact (rl.off a h).1
  · cases d with
    | lst ds =>
      obtain ⟨xs, rfl, r⟩ := h4
      exact ⟨p, xs, rfl, upd_same, r.mono s⟩
    | dct ds =>
      obtain ⟨xs, rfl, r⟩ := h4
      exact ⟨p, xs, rfl, upd_same, r.mono s⟩
    | ins c ds =>
      obtain ⟨dx, xs, rfl, r⟩ := h4
      exact ⟨p, dx, xs, rfl, upd_same, r.mono s⟩
    | _ => exact h4.elim
theorem adv_share {A : List (Option Addr)} {G H G' H' : Hp} {p : Addr} {o : HO} (ad : Adv A G H G' H') (h1 : G' p = none) (h2 : H p = none) : Adv A G H (upd G' p o) H' where
  g := ad.g.trans (same_upd h1)
  new := fun b u e => by
    by_cases q : b = p
    · exact .inr (q ▸ h2)
    · rw [upd_ne q] at e
      exact ad.new b u e
  fr := ad.fr
  th := ad.th
def unM (m : M Rv) : M D := fun e => (m e).bind fun r e1 => match r with
  | .sh d => .ok d e1
  | .ow d => .ok d e1
theorem se_sv {e : Expr} {m : M Rv} (h : SV X W e m) : SE X W e (unM m) := by
  obtain ⟨t, p, k⟩ := h
  refine ⟨t, p, fun A env G σ H Q rl h => k A env G σ H _ rl ?_⟩
  unfold unM at h
  cases q : m env with
  | ok r e1 =>
    rw [q] at h
    intro G1 H1 ad rl1 v rv
    cases r with
    | sh d => exact h G1 H1 ad rl1 v rv
    | ow d =>
      obtain ⟨p, o, rfl, h1, h2, h3, h4⟩ := rv
      obtain ⟨rl2, rp⟩ := own_share rl1 h1 (fun z => (rl.off p z).2 h2) h3 h4
      exact h _ H1 (adv_share ad h1 h2) rl2 _ rp
  | err x e1 =>
    rw [q] at h
    exact h
  | stuck =>
    rw [q] at h
    exact h
def lstO (ms : M (List D)) : M Rv := fun e => (ms e).bind fun ds e1 => if ds.length ≤ LIM then .ok (.ow (.lst ds)) e1 else .stuck
theorem sv_lst {es : List Expr} {ms : M (List D)} {pos : Pos} (h : SA X W es ms) : SV X W (.List es pos) (lstO ms) := by
  obtain ⟨t, p, k⟩ := h
  refine ⟨_, pe_lst p, fun A env G σ H Q rl h => ?_⟩
  refine k A env G σ H _ rl ?_
  unfold lstO at h
  cases q : ms env with
  | ok ds e1 =>
    rw [q] at h
    simp only [R.bind_ok] at h
    intro G1 H1 ad rl1 vs rvs
    have hl := rvs.length
    split at h
    · rename_i c
      refine ⟨lim_ok (by omega), fun p n => ?_⟩
      have hA : some p ∉ A := fun z => (rl1.off p z).2 n
      refine h G1 (upd H1 p (.lst vs)) ⟨ad.g, ad.new, fun b o nb e => ?_, fun b e => ?_⟩ ?_ (.ref p) ⟨p, _, rfl, rl1.ex.free n, ad.th p n, upd_same, vs, rfl, rvs⟩
      · exact same_upd n b o (ad.fr b o nb e)
      · by_cases q : b = p
        · exact q ▸ ad.th p n
        · rw [upd_ne q] at e
          exact ad.th b e
      · refine ⟨fun a u e => same_upd n a u (rl1.ex a u e), rl1.len, rl1.lenA, rl1.val, fun i d e => ?_, fun a z => ⟨(rl1.off a z).1, ?_⟩, rl1.inj, rl1.has⟩
        · obtain ⟨a, u, k1, k2, k3, k4⟩ := rl1.own i d e
          exact ⟨a, u, k1, k2, same_upd n a u k3, k4⟩
        · rw [upd_ne (fun y => hA (by rw [← y]; exact z))]
          exact (rl1.off a z).2
    · exact h.elim
  | err x e1 =>
    rw [q] at h
    exact h
  | stuck =>
    rw [q] at h
    exact h
/-! ### statements with own objects -/
section
variable {K : PySem.W.Frag} {F : Fn} {A : List (Option Addr)} {env : En} {G H : Hp} {σ : L2.St}
/-- a new object is taken into a slot -/
theorem Cur.take (c : Cur K F A env G σ H) {i : Nat} {d : D} {p : Addr} {o : HO} (hf : free F.np i env = true) (hG : G p = none) (hF : F.H p = none) (hA : some p ∉ A) (hp : H p = some o) (ho : OwnO K G d o) : Cur K F (A.set i (some p)) (env.set i (.own d)) G (σ.set i (some (.ref p))) H := by
  have hn := c.notLent hf
  have hi : i < env.length := by
    unfold free at hf
    simp only [Bool.and_eq_true, decide_eq_true_eq] at hf
    exact hf.1
  have hi2 : i < σ.length := by rw [← c.rel.len]; exact hi
  have hi3 : i < A.length := by rw [c.rel.lenA]; exact hi2
  have hm : ∀ a, some a ∈ A.set i (some p) → a = p ∨ some a ∈ A := fun a h => by
    obtain ⟨j, hj⟩ := List.mem_iff_getElem?.mp h
    rcases get_set hj with ⟨_, e⟩ | ⟨_, e⟩
    · exact .inl (Option.some.inj e).symm
    · exact .inr (List.mem_of_getElem? e)
  refine ⟨⟨c.rel.ex, by rw [List.length_set, List.length_set]; exact c.rel.len, by rw [List.length_set, List.length_set]; exact c.rel.lenA, fun j d' e => ?_, fun j d' e => ?_, fun a e => ?_, fun j k a e1 e2 => ?_, fun j a e => ?_⟩,
    c.adv, fun a e => ?_, fun j a e => ?_, c.loc⟩
  · rcases get_set e with ⟨rfl, q⟩ | ⟨hj, q⟩
    · cases q
    · obtain ⟨u, h1, h2⟩ := c.rel.val j d' q
      exact ⟨u, by rw [List.getElem?_set_ne (Ne.symm hj)]; exact h1, h2⟩
  · rcases get_set e with ⟨rfl, q⟩ | ⟨hj, q⟩
    · cases q
      exact ⟨p, o, by rw [List.getElem?_set_self hi3], by rw [List.getElem?_set_self hi2], hp, ho⟩
    · obtain ⟨a, u, h1, h2, h3, h4⟩ := c.rel.own j d' q
      exact ⟨a, u, by rw [List.getElem?_set_ne (Ne.symm hj)]; exact h1, by rw [List.getElem?_set_ne (Ne.symm hj)]; exact h2, h3, h4⟩
  · rcases hm a e with rfl | q
    · exact ⟨hG, by rw [hp]; simp⟩
    · exact c.rel.off a q
  · rcases get_set e1 with ⟨rfl, q1⟩ | ⟨h1, q1⟩
    · cases q1
      rcases get_set e2 with ⟨rfl, q2⟩ | ⟨h2, q2⟩
      · rfl
      · exact absurd (List.mem_of_getElem? q2) hA
    · rcases get_set e2 with ⟨rfl, q2⟩ | ⟨h2, q2⟩
      · cases q2
        exact absurd (List.mem_of_getElem? q1) hA
      · exact c.rel.inj j k a q1 q2
  · rcases get_set e with ⟨rfl, q⟩ | ⟨hj, q⟩
    · exact ⟨d, by rw [List.getElem?_set_self hi]⟩
    · obtain ⟨d', h1⟩ := c.rel.has j a q
      exact ⟨d', by rw [List.getElem?_set_ne (Ne.symm hj)]; exact h1⟩
  · rcases hm a e with rfl | q
    · exact .inr hF
    · exact c.fresh a q
  · have hj : j ≠ i := fun z => hn a (z ▸ e)
    rw [List.getElem?_set_ne (Ne.symm hj)]
    exact c.keep j a e
end
variable {np : Option Nat}
/-- x = e, x the frame's own -/
def setO (np : Option Nat) (i : Nat) (m : M Rv) : MS := fun e => (m e).bind fun r e1 => if free np i e1 then (match r with
  | .sh d => .ok .nx (e1.set i (.val d))
  | .ow d => .ok .nx (e1.set i (.own d))) else .stuck
theorem ss_setO {i : Nat} {x : Str} {pos pos' : Pos} {e : Expr} {m : M Rv} (hN : X.N.Nodup) (hi : X.N[i]? = some x) (hx : Loc X.env.scope x) (hf : X.fn x = true ∨ X.env.scope.names.lookup x = some .local) (hs : swapsWith e (some (.Name x pos')) pos.line X.env = pure false)
    (h : SV X W e m) : SS X W np (.Assign [.Name x pos'] e pos) (setO np i m) := by
  obtain ⟨t, p, k⟩ := h
  refine ⟨_, ps_asg p (pg_name hN hi hx hf) hs, fun F A env G σ H E hnp c h => ?_⟩
  refine k A env G σ H _ c.rel (Post.mono (Post.stmt c h) fun r e1 G1 H1 ad rl z v rv => ?_)
  obtain ⟨z1, z2⟩ := z
  subst hnp
  split at z2
  · rename_i q
    cases r with
    | sh d => exact z2 _ G1 _ H1 (Same.refl G1) (z1.setVal q rv)
    | ow d =>
      obtain ⟨p, o, rfl, h1, h2, h3, h4⟩ := rv
      exact z2 _ G1 _ H1 (Same.refl G1) (z1.take q h1 (c.adv.th p h2) (fun y => (c.rel.off p y).2 h2) h3 h4)
  · exact z2.elim
/-- return e, of a def that gives new objects -/
def retO (m : M Rv) : MS := fun e => (m e).bind fun r e1 => match r with
  | .sh d => .ok (.rt d) e1
  | .ow d => .ok (.ro d) e1
theorem ss_retO {e : Expr} {m : M Rv} {pos : Pos} (h : SV X W e m) : SS X W np (.Return (some e) pos) (retO m) := by
  obtain ⟨t, p, k⟩ := h
  refine ⟨_, ps_ret p, fun F A env G σ H E hnp c h => ?_⟩
  refine k A env G σ H _ c.rel (Post.mono (Post.stmt c h) fun r e1 G1 H1 ad rl z v rv => ?_)
  cases r with
  | sh d => exact z.2 A G1 σ H1 v (Same.refl G1) z.1 rv
  | ow d =>
    obtain ⟨p, o, rfl, h1, h2, h3, h4⟩ := rv
    exact z.2 A G1 σ H1 p o (Same.refl G1) z.1 h1 (c.adv.th p h2) h3 h4
end
end Mini
set_option maxHeartbeats 1000000
/-! Mini, part 12: globals, builtins by values, isinstance. -/
namespace Mini
open PySem PySem.Spec PyProof.Rows L2
section
variable {X : Cx} {W : WX}
/-- a constant, a class, a def of the module -/
theorem se_glob {x : Str} {d : D} {pos : Pos} {u : Value} {v : V} (hg : Gl X x) (hm : X.mg x = some u) (rv : RelV v u) (r : ∀ G, Rep X.K G d v) (hd : (x == ("__debug__" : Str)) = false) : SE X W (.Name x pos) (ret d) :=
  se_pure (pe_glob hg hm rv hd) r
theorem se_typ {x : Str} {n : String} {pos : Pos} (hg : Gl X x) (hm : X.mg x = none) (hv : bootBuiltins x = some (.type n)) (hn : x ≠ "__name__") (hd : (x == ("__debug__" : Str)) = false) : SE X W (.Name x pos) (ret (.typ n)) :=
  se_pure (pe_bltn hg hm hv (v := .ty n) rfl hn hd) fun _ => rfl
/-- a builtin by data -/
def CB (X : Cx) (W : WX) (c : Value) (g : List D → M D) : Prop := ∃ r, CallR X c r ∧ ∀ A env G σ H (Q : VK) ds vs, Rel X.K A env G σ H → Reps X.K G ds vs →
  Post X.K A G σ H W (g ds env) (fun d _ G' H' => ∀ v, Rep X.K G' d v → Q v H') → r vs H Q
def pB (f : List D → Option D) : List D → M D := fun ds e => match f ds with
  | some d => .ok d e
  | none => .stuck
theorem cb_mix {c : Value} {r : List V → Hp → VK → Prop} {f : List D → Option D} (ho : CallR X c r)
    (k : ∀ (G H : Hp) (ds : List D) (d : D) (vs : List V) (Q : VK), Same G H → Reps X.K G ds vs → f ds = some d → (∀ v, Rep X.K G d v → Q v H) → (∀ p o, H p = none → Rep X.K (upd G p o) d (.ref p) → Q (.ref p) (upd H p o)) → r vs H Q) : CB X W c (pB f) := by
  refine ⟨r, ho, fun A env G σ H Q ds vs rl rv h => ?_⟩
  unfold pB at h
  split at h
  · rename_i d e
    exact k G H ds d vs Q rl.ex rv e (Post.here h rl) fun p o n q => Post.new h rl n (.ref p) q
  · exact h.elim
theorem callR_or {c : Value} {r1 r2 : List V → Hp → VK → Prop} (h1 : CallR X c r1) (h2 : CallR X c r2) : CallR X c fun vs H Q => r1 vs H Q ∨ r2 vs H Q := fun pins s σ H xs us Q I rv h => h.elim (h1 pins s σ H xs us Q I rv) (h2 pins s σ H xs us Q I rv)
def orG (g1 g2 : List D → M D) : List D → M D := fun ds e => match g1 ds e with
  | .stuck => g2 ds e
  | r => r
theorem CB.or {c : Value} {g1 g2 : List D → M D} (h1 : CB X W c g1) (h2 : CB X W c g2) : CB X W c (orG g1 g2) := by
  obtain ⟨r1, o1, k1⟩ := h1
  obtain ⟨r2, o2, k2⟩ := h2
  refine ⟨_, callR_or o1 o2, fun A env G σ H Q ds vs rl rv h => ?_⟩
  unfold orG at h
  cases e : g1 ds env with
  | stuck =>
    rw [e] at h
    exact .inr (k2 A env G σ H Q ds vs rl rv h)
  | ok d e' =>
    rw [e] at h
    exact .inl (k1 A env G σ H Q ds vs rl rv (by rw [e]; exact h))
  | err z e' =>
    rw [e] at h
    exact .inl (k1 A env G σ H Q ds vs rl rv (by rw [e]; exact h))
def bltM (g : List D → M D) (ms : M (List D)) : M D := fun e => (ms e).bind g
theorem cb_reads {g : List D → M D} {r : List V → Hp → VK → Prop} {ms : M (List D)} {t : TA}
    (k1 : ∀ A env G σ H (Q : VK) ds vs, Rel X.K A env G σ H → Reps X.K G ds vs → Post X.K A G σ H W (g ds env) (fun d _ G' H' => ∀ v, Rep X.K G' d v → Q v H') → r vs H Q)
    (k2 : ∀ A env G σ H (Q : List V → Hp → Prop), Rel X.K A env G σ H → Post X.K A G σ H W (ms env) (fun ds _ G' H' => ∀ vs, Reps X.K G' ds vs → Q vs H') → t σ H Q)
    {A : List (Option Addr)} {env : En} {G : Hp} {σ : L2.St} {H : Hp} {Q : VK} (rl : Rel X.K A env G σ H) (h : Post X.K A G σ H W (bltM g ms env) fun d _ G' H' => ∀ v, Rep X.K G' d v → Q v H') : tCB r t σ H Q :=
  k2 A env G σ H _ rl (Post.mono (Post.bind h) fun ds e1 G1 H1 ad rl1 z vs rv => k1 A e1 G1 σ H1 Q ds vs rl1 rv z)
theorem se_blt {x : Str} {id : String} {g : List D → M D} {p pos : Pos} {e : Expr} {es : List Expr} {ms : M (List D)} (hb : CB X W (.builtin id) g) (hg : Gl X x) (hm : X.mg x = none) (hv : bootBuiltins x = some (.builtin id)) (ha : SA X W (e :: es) ms) (hn : x ≠ "__name__") (hd : (x == ("__debug__" : Str)) = false)
    (he : starEach (e :: es) X.env = (false, eval e X.env) :: starEach es X.env) (hpl : (backTo pos (starEach es X.env)).any (·.1) = false) : SE X W (.Call (.Name x p) (e :: es) [] pos) (bltM g ms) := by
  obtain ⟨r, o, k1⟩ := hb
  obtain ⟨t, pt, k2⟩ := ha
  exact ⟨_, pe_callB o hg hm hv pt hn hd he hpl, fun A env G σ H Q rl h => cb_reads k1 k2 rl h⟩
theorem se_bty {x : Str} {n : String} {g : List D → M D} {p pos : Pos} {e : Expr} {es : List Expr} {ms : M (List D)} (hb : CB X W (.type n) g) (hg : Gl X x) (hm : X.mg x = none) (hv : bootBuiltins x = some (.type n)) (ha : SA X W (e :: es) ms) (hn : x ≠ "__name__") (hd : (x == ("__debug__" : Str)) = false)
    (he : starEach (e :: es) X.env = (false, eval e X.env) :: starEach es X.env) (hpl : (backTo pos (starEach es X.env)).any (·.1) = false) : SE X W (.Call (.Name x p) (e :: es) [] pos) (bltM g ms) := by
  obtain ⟨r, o, k1⟩ := hb
  obtain ⟨t, pt, k2⟩ := ha
  exact ⟨_, pe_callTy o hg hm hv pt hn hd he hpl, fun A env G σ H Q rl h => cb_reads k1 k2 rl h⟩
/-! ### the builtins -/
theorem reps1 {K : PySem.W.Frag} {G : Hp} {d : D} {vs : List V} (h : Reps K G [d] vs) : ∃ v, vs = [v] ∧ Rep K G d v := by
  obtain ⟨v, us, rfl, r, rfl⟩ := h
  exact ⟨v, rfl, r⟩
theorem reps2 {K : PySem.W.Frag} {G : Hp} {d c : D} {vs : List V} (h : Reps K G [d, c] vs) : ∃ v u, vs = [v, u] ∧ Rep K G d v ∧ Rep K G c u := by
  obtain ⟨v, us, rfl, r, u, ws, rfl, r2, rfl⟩ := h
  exact ⟨v, u, rfl, r, r2⟩
def lenF : List D → Option D
  | [.str x] => if x.length ≤ LIM then some (.int x.length) else none
  | [.lst xs] => some (.int xs.length)
  | [.tup xs] => some (.int xs.length)
  | [.scr ns] => some (.int ns.length)
  | _ => none
theorem cb_len : CB X W (.builtin "len") (pB lenF) := cb_mix call_len fun G H ds d vs Q ex rv e q qn => by
  unfold lenF at e
  split at e
  · obtain ⟨v, rfl, r⟩ := reps1 rv
    split at e
    · rename_i hz
      cases e
      exact ⟨_, _, rfl, by rw [show v = .str _ from r]; exact ⟨lim_ok hz, rfl⟩, q _ rfl⟩
    · cases e
  · cases e
    obtain ⟨v, rfl, a, xs, rfl, h1, h2⟩ := reps1 rv
    exact ⟨_, _, rfl, .inl ⟨xs, SqL.of (ex _ _ h1), h2.length.symm⟩, q _ rfl⟩
  · cases e
    obtain ⟨v, rfl, a, xs, rfl, h1, h2⟩ := reps1 rv
    exact ⟨_, _, rfl, .inr ⟨xs, sq_t ex h1, h2.length.symm⟩, q _ rfl⟩
  · cases e
    obtain ⟨v, rfl, a, rfl, h1⟩ := reps1 rv
    exact ⟨_, _, rfl, .inl ⟨_, ex.seq h1, (List.length_map ..).symm⟩, q _ rfl⟩
  · cases e
def absF : List D → Option D
  | [.int i] => some (.int (if i < 0 then -i else i))
  | _ => none
theorem cb_abs : CB X W (.builtin "abs") (pB absF) := cb_mix call_abs fun G H ds d vs Q ex rv e q qn => by
  unfold absF at e
  split at e
  · cases e
    obtain ⟨v, rfl, r⟩ := reps1 rv
    exact ⟨_, by rw [show v = .int _ from r], q _ rfl⟩
  · cases e
def intF : List D → Option D
  | [.int i] => some (.int i)
  | [.bl b] => some (.int (if b then 1 else 0))
  | _ => none
theorem cb_int : CB X W (.type "int") (pB intF) := cb_mix call_int1 fun G H ds d vs Q ex rv e q qn => by
  unfold intF at e
  split at e
  · cases e
    obtain ⟨v, rfl, r⟩ := reps1 rv
    exact .inl ⟨_, by rw [show v = .int _ from r], q _ rfl⟩
  · cases e
    obtain ⟨v, rfl, r⟩ := reps1 rv
    exact .inr ⟨_, by rw [show v = .bl _ from r], q _ rfl⟩
  · cases e
def boolF : List D → Option D
  | [.int i] => some (.bl (i != 0))
  | [.bl b] => some (.bl b)
  | _ => none
theorem cb_bool : CB X W (.type "bool") (pB boolF) := cb_mix call_bool1 fun G H ds d vs Q ex rv e q qn => by
  unfold boolF at e
  split at e
  · cases e
    obtain ⟨v, rfl, r⟩ := reps1 rv
    exact .inl ⟨_, by rw [show v = .int _ from r], q _ rfl⟩
  · cases e
    obtain ⟨v, rfl, r⟩ := reps1 rv
    exact .inr ⟨_, by rw [show v = .bl _ from r], q _ rfl⟩
  · cases e
def strF : List D → Option D
  | [.int i] => if i.natAbs < 2 ^ 64 then some (.str (toString i)) else none
  | _ => none
theorem log_ok {n : Nat} (h : n < 2 ^ 64) : n.log2 < 1920 := by
  by_cases z : n = 0
  · subst z
    decide
  · have := (Nat.log2_lt z).mpr (show n < 2 ^ 1920 from Nat.lt_of_lt_of_le h (Nat.pow_le_pow_right (by omega) (by omega)))
    exact this
theorem cb_str : CB X W (.type "str") (pB strF) := cb_mix call_str_int fun G H ds d vs Q ex rv e q qn => by
  unfold strF at e
  split at e
  · split at e
    · rename_i h
      cases e
      obtain ⟨v, rfl, r⟩ := reps1 rv
      exact ⟨_, by rw [show v = .int _ from r], log_ok h, q _ rfl⟩
    · cases e
  · cases e
def listF : List D → Option D
  | [.lst xs] => some (.lst xs)
  | [.tup xs] => some (.lst xs)
  | [.scr ns] => some (.lst (ns.map .int))
  | _ => none
theorem cb_list : CB X W (.type "list") (pB listF) := cb_mix call_list_of fun G H ds d vs Q ex rv e q qn => by
  unfold listF at e
  split at e
  · cases e
    obtain ⟨v, rfl, a, xs, rfl, h1, h2⟩ := reps1 rv
    exact ⟨a, xs, rfl, .inl (SqL.of (ex _ _ h1)), fun l n => qn l _ n ⟨l, xs, rfl, upd_same, h2.mono (same_upd (ex.free n))⟩⟩
  · cases e
    obtain ⟨v, rfl, a, xs, rfl, h1, h2⟩ := reps1 rv
    exact ⟨a, xs, rfl, .inr (sq_t ex h1), fun l n => qn l _ n ⟨l, xs, rfl, upd_same, h2.mono (same_upd (ex.free n))⟩⟩
  · cases e
    obtain ⟨v, rfl, a, rfl, h1⟩ := reps1 rv
    exact ⟨a, _, rfl, .inl (ex.seq h1), fun l n => qn l _ n ⟨l, _, rfl, upd_same, reps_ints _⟩⟩
  · cases e
def tupF : List D → Option D
  | [.lst xs] => some (.tup xs)
  | [.tup xs] => some (.tup xs)
  | [.scr ns] => some (.tup (ns.map .int))
  | _ => none
theorem cb_tup : CB X W (.type "tuple") (pB tupF) := cb_mix call_tuple_of fun G H ds d vs Q ex rv e q qn => by
  unfold tupF at e
  split at e
  · cases e
    obtain ⟨v, rfl, a, xs, rfl, h1, h2⟩ := reps1 rv
    exact ⟨a, xs, rfl, .inl ⟨SqL.of (ex _ _ h1), fun l n => qn l _ n ⟨l, xs, rfl, .inl (.inl upd_same), h2.mono (same_upd (ex.free n))⟩⟩⟩
  · cases e
    obtain ⟨v, rfl, a, xs, rfl, h1, h2⟩ := reps1 rv
    exact ⟨a, xs, rfl, .inr ⟨sq_t ex h1, q _ ⟨a, xs, rfl, h1, h2⟩⟩⟩
  · cases e
    obtain ⟨v, rfl, a, rfl, h1⟩ := reps1 rv
    exact ⟨a, _, rfl, .inl ⟨ex.seq h1, fun l n => qn l _ n ⟨l, _, rfl, .inl (.inl upd_same), reps_ints _⟩⟩⟩
  · cases e
/-! ### isinstance -/
/-- an error made here -/
def TyE (K : PySem.W.Frag) (H : Hp) (x : V) (t : Value) : Prop := ∃ a C dx fs, x = .ref a ∧ t = .ref C ∧ H a = some (exo a C dx) ∧ ExD H dx fs ∧ KitE K C
/-- the type of a datum, as isinstance goes by it -/
def TyD (K : PySem.W.Frag) (H : Hp) (x : V) (t : Value) : Prop := TyX K H x t ∨ TyE K H x t
def rIsG (K : PySem.W.Frag) : List V → Hp → VK → Prop := fun xs H Q => ∃ (x c : V) (t u : Value) (b : Bool), xs = [x, c] ∧ ClsV c u ∧ TyD K H x t ∧ PySem.W.kitOne K t u = some b ∧ Q (.bl b) H
def rIsGT (K : PySem.W.Frag) : List V → Hp → VK → Prop := fun xs H Q => ∃ (x : V) (tp : Addr) (cs : List V) (t : Value) (us : List Value) (b : Bool), xs = [x, .ref tp] ∧ SqT K H tp cs ∧ Paired ClsV cs us ∧ TyD K H x t ∧ PySem.W.kitAny K t us = some b ∧ Q (.bl b) H
theorem kit_e {pins : List (Addr × Obj)} {σ : L2.St} {H : Hp} {s : Shared} {x : V} {u t : Value} (cn : PySem.W.specialIn X.K (.builtin "object.__class__") "__get__" = some (some (.builtin "getset_descriptor.__get__"))) (ct : PySem.W.takesIn X.K (.builtin "object.__class__") = some true)
    (I : Inv X pins σ H s) (rx : RelV x u) (ty : TyD X.K H x t) : ∃ P : Heap → Prop, PySem.W.KitX X.K u t P ∧ P s.heap ∧ u ≠ .builtin "__main__.__loader__#opaque" := by
  rcases ty with ty | ⟨a, C, dx, fs, rfl, rfl, h1, h2, k⟩
  · exact kit_of I rx ty
  obtain rfl : u = Value.ref a := rx
  obtain ⟨t1, ho⟩ := exo_at I.hok h1
  obtain ⟨gt, hgt⟩ := k.hgt
  rcases h2 with ⟨rfl, _⟩ | ⟨y, rfl, h2⟩
  · exact ⟨_, PySem.W.kitx_exc (od := none) k.hcl k.hga hgt k.hsub k.ha cn ct k.hm, ⟨ho, rfl, rfl, trivial⟩, fun z => nomatch z⟩
  · obtain ⟨mA, hns, rel⟩ := exd_at I.hok h2
    obtain ⟨od, hod, _⟩ := lookIn_ns hns
    exact ⟨_, PySem.W.kitx_exc (od := some od) k.hcl k.hga hgt k.hsub k.ha cn ct k.hm, ⟨ho, rfl, rfl, hod⟩, fun z => nomatch z⟩
section
variable (cn : PySem.W.specialIn X.K (.builtin "object.__class__") "__get__" = some (some (.builtin "getset_descriptor.__get__"))) (ct : PySem.W.takesIn X.K (.builtin "object.__class__") = some true)
include cn ct
theorem call_isG : CallR X (.builtin "isinstance") (rIsG X.K) := by
  intro pins s σ H xs us Q I r h
  obtain ⟨x, c, t, u, b, rfl, k, ty, e, q⟩ := h
  obtain ⟨u1, u2, rfl, r1, r2⟩ := vals2 r
  obtain rfl := k.eq r2
  obtain ⟨P, Z, p, hx⟩ := kit_e cn ct I r1 ty
  exact PySem.W.kia_one Z I.kIn p e hx fun tk => ⟨.bl b, H, I.tok tk, rfl, q⟩
theorem call_isGT : CallR X (.builtin "isinstance") (rIsGT X.K) := by
  intro pins s σ H xs us Q I r h
  obtain ⟨x, tp, cs, t, ws, b, rfl, hT, k, ty, e, q⟩ := h
  obtain ⟨u1, u2, rfl, r1, r2⟩ := vals2 r
  obtain rfl : u2 = Value.ref tp := r2
  obtain ⟨P, Z, p, hx⟩ := kit_e cn ct I r1 ty
  obtain ⟨its, rv, pl, hz⟩ := I.tuple hT
  obtain ⟨ob, h1, h2, n, h3⟩ := pl
  obtain rfl := ClsV.all k rv
  obtain ⟨oc, od, dt, sl⟩ := ob
  simp only at h2 h3
  subst h2 h3
  exact PySem.W.kia_tup Z I.kIn p h1 e hx fun tk => ⟨.bl b, H, I.tok tk, rfl, q⟩
end
/-- the built-in kinds of data -/
def kindD : D → Option String
  | .non => some "NoneType"
  | .bl _ => some "bool"
  | .int _ => some "int"
  | .str _ => some "str"
  | .lst _ => some "list"
  | .scr _ => some "list"
  | .tup _ => some "tuple"
  | .dct _ => some "dict"
  | _ => none
def isi1 (T : Tab) (x c : D) : Option Bool := match c with
  | .cls c' => (match x with
    | .ins k _ => if T.pl k then T.sub k c' else none
    | .exc k _ => if T.er k then T.sub k c' else none
    | x => (kindD x).bind fun n => T.subB n c')
  | .typ n => (match x with
    | .ins k _ => if T.pl k then T.subT k n else none
    | .exc k _ => if T.er k then T.subT k n else none
    | x => (kindD x).bind fun m => kitB m n)
  | _ => none
def isiA (T : Tab) (x : D) : List D → Option Bool
  | [] => some false
  | c :: cs => match isi1 T x c with
    | some true => some true
    | some false => isiA T x cs
    | none => none
theorem tyd_of {T : Tab} {K : PySem.W.Frag} {G H : Hp} {d c : D} {v : V} {b : Bool} (TO : TabOk T K) (ex : Same G H) (r : Rep K G d v) (e : isi1 T d c = some b) : ∃ t, TyD K H v t ∧ ∀ c' b', isi1 T d c' = some b' → ∀ w, Rep K G c' w → ∃ u, ClsV w u ∧ PySem.W.kitOne K t u = some b' := by
  have blt : ∀ n, kindD d = some n → (∀ c' b', isi1 T d c' = some b' → (∃ k, c' = .cls k ∧ T.subB n k = some b') ∨ ∃ m, c' = .typ m ∧ kitB n m = some b') → ∀ c' b', isi1 T d c' = some b' → ∀ w, Rep K G c' w → ∃ u, ClsV w u ∧ PySem.W.kitOne K (.type n) u = some b' := fun n hn h c' b' e' w rw' => by
    rcases h c' b' e' with ⟨k, rfl, q⟩ | ⟨m, rfl, q⟩
    · rw [show w = .ref (He.ga K k) from rw']
      exact ⟨_, .own _, TO.subB _ _ _ q⟩
    · rw [show w = .ty m from rw']
      exact ⟨_, .ty _, kit_ty q⟩
  have two : ∀ n, kindD d = some n → (∀ k fs, d ≠ .ins k fs) → (∀ k fs, d ≠ .exc k fs) → ∀ c' b', isi1 T d c' = some b' → (∃ k, c' = .cls k ∧ T.subB n k = some b') ∨ ∃ m, c' = .typ m ∧ kitB n m = some b' := fun n hn h1 h2 c' b' e' => by
    unfold isi1 at e'
    cases c' with
    | cls k =>
      refine .inl ⟨k, rfl, ?_⟩
      cases d <;> first | exact absurd rfl (h1 _ _) | exact absurd rfl (h2 _ _) | (cases hn; exact e') | cases hn
    | typ m =>
      refine .inr ⟨m, rfl, ?_⟩
      cases d <;> first | exact absurd rfl (h1 _ _) | exact absurd rfl (h2 _ _) | (cases hn; exact e') | cases hn
    | _ => cases e'
  cases d with
  | non =>
    rw [show v = .non from r]
    exact ⟨_, .inl (.base .non), blt _ rfl (two _ rfl (fun _ _ => nofun) fun _ _ => nofun)⟩
  | bl x =>
    rw [show v = .bl x from r]
    exact ⟨_, .inl (.base (.bl _)), blt _ rfl (two _ rfl (fun _ _ => nofun) fun _ _ => nofun)⟩
  | int i =>
    rw [show v = .int i from r]
    exact ⟨_, .inl (.base (.int _)), blt _ rfl (two _ rfl (fun _ _ => nofun) fun _ _ => nofun)⟩
  | str x =>
    rw [show v = .str x from r]
    exact ⟨_, .inl (.base (.str _)), blt _ rfl (two _ rfl (fun _ _ => nofun) fun _ _ => nofun)⟩
  | lst xs =>
    obtain ⟨a, ys, rfl, h1, _⟩ := r
    exact ⟨_, .inl (.base (.lst (ex _ _ h1))), blt _ rfl (two _ rfl (fun _ _ => nofun) fun _ _ => nofun)⟩
  | scr ns =>
    obtain ⟨a, rfl, h1⟩ := r
    refine ⟨.type "list", ?_, blt _ rfl (two _ rfl (fun _ _ => nofun) fun _ _ => nofun)⟩
    rcases ex.seq h1 with (h | ⟨o, h⟩) | h
    · exact .inl (.base (.lst h))
    · exact .inl (.base (.frz h))
    · obtain ⟨its, _, o, h1, h2, _⟩ := h
      exact .inl (.kList h1 h2)
  | tup xs =>
    obtain ⟨a, ys, rfl, h1, _⟩ := r
    refine ⟨.type "tuple", ?_, blt _ rfl (two _ rfl (fun _ _ => nofun) fun _ _ => nofun)⟩
    rcases sq_t ex h1 with (h | ⟨o, h⟩) | h
    · exact .inl (.base (.tup h))
    · exact .inl (.fTuple h)
    · obtain ⟨its, _, o, h1, h2, _⟩ := h
      exact .inl (.kTuple h1 h2)
  | dct xs =>
    obtain ⟨a, ys, rfl, h1, _⟩ := r
    exact ⟨_, .inl (.base (.dK (ex _ _ h1))), blt _ rfl (two _ rfl (fun _ _ => nofun) fun _ _ => nofun)⟩
  | ins k fs =>
    obtain ⟨a, dx, gs, rfl, h1, _⟩ := r
    have hp : T.pl k = true := by
      unfold isi1 at e
      cases c with
      | cls c =>
        dsimp only at e
        cases q : T.pl k with
        | true => rfl
        | false =>
          rw [q] at e
          cases e
      | typ c =>
        dsimp only at e
        cases q : T.pl k with
        | true => rfl
        | false =>
          rw [q] at e
          cases e
      | _ => cases e
    have kp := TO.pl k hp
    refine ⟨_, .inl (.base (.ins (ex _ _ h1) kp.cl kp.ha TO.cn TO.ct kp.hm)), fun c' b' e' w rw' => ?_⟩
    unfold isi1 at e'
    cases c' with
    | cls c' =>
      dsimp only at e'
      rw [hp, if_pos rfl] at e'
      rw [show w = .ref (He.ga K c') from rw']
      exact ⟨_, .own _, TO.sub _ _ _ e'⟩
    | typ m =>
      dsimp only at e'
      rw [hp, if_pos rfl] at e'
      rw [show w = .ty m from rw']
      exact ⟨_, .ty _, TO.subT _ _ _ e'⟩
    | _ => cases e'
  | exc k fs =>
    obtain ⟨a, dx, gs, rfl, h1, h2, _⟩ := r
    have hp : T.er k = true := by
      unfold isi1 at e
      cases c with
      | cls c =>
        dsimp only at e
        cases q : T.er k with
        | true => rfl
        | false =>
          rw [q] at e
          cases e
      | typ c =>
        dsimp only at e
        cases q : T.er k with
        | true => rfl
        | false =>
          rw [q] at e
          cases e
      | _ => cases e
    refine ⟨_, .inr ⟨a, _, dx, gs, rfl, rfl, ex _ _ h1, h2.mono ex, TO.er k hp⟩, fun c' b' e' w rw' => ?_⟩
    unfold isi1 at e'
    cases c' with
    | cls c' =>
      dsimp only at e'
      rw [hp, if_pos rfl] at e'
      rw [show w = .ref (He.ga K c') from rw']
      exact ⟨_, .own _, TO.sub _ _ _ e'⟩
    | typ m =>
      dsimp only at e'
      rw [hp, if_pos rfl] at e'
      rw [show w = .ty m from rw']
      exact ⟨_, .ty _, TO.subT _ _ _ e'⟩
    | _ => cases e'
  | cls k =>
    unfold isi1 at e
    cases c <;> cases e
  | typ k =>
    unfold isi1 at e
    cases c <;> cases e
  | fn k =>
    unfold isi1 at e
    cases c <;> cases e
theorem isi_all {T : Tab} {K : PySem.W.Frag} {G : Hp} {d : D} {t : Value} (h : ∀ c' b', isi1 T d c' = some b' → ∀ w, Rep K G c' w → ∃ u, ClsV w u ∧ PySem.W.kitOne K t u = some b') : ∀ {cs : List D} {ws : List V} {b : Bool}, Reps K G cs ws → isiA T d cs = some b → (∀ c ∈ cs, (isi1 T d c).isSome = true) →
    ∃ us, Paired ClsV ws us ∧ PySem.W.kitAny K t us = some b
  | [], _, _, r, e, _ => by
    cases e
    rw [show _ = [] from r]
    exact ⟨[], .nil, rfl⟩
  | c :: cs, _, b, ⟨w, ws, h1, h2, h3⟩, e, hs => by
    subst h1
    obtain ⟨b1, q⟩ := Option.isSome_iff_exists.mp (hs c (List.mem_cons_self ..))
    obtain ⟨u, k1, k2⟩ := h c b1 q w h2
    unfold isiA at e
    rw [q] at e
    cases b1 with
    | true =>
      cases e
      -- the rest is not looked at
      have rest : ∀ {ds : List D} {vs : List V}, Reps K G ds vs → (∀ c ∈ ds, (isi1 T d c).isSome = true) → ∃ us, Paired ClsV vs us := by
        intro ds
        induction ds with
        | nil =>
          intro vs r _
          rw [show vs = [] from r]
          exact ⟨[], .nil⟩
        | cons c ds ih =>
          rintro _ ⟨w, ws, rfl, h2, h3⟩ hs
          obtain ⟨b1, q⟩ := Option.isSome_iff_exists.mp (hs c (List.mem_cons_self ..))
          obtain ⟨u, k1, _⟩ := h c b1 q w h2
          obtain ⟨us, k3⟩ := ih h3 fun c hc => hs c (List.mem_cons_of_mem _ hc)
          exact ⟨u :: us, .cons k1 k3⟩
      obtain ⟨us, k3⟩ := rest h3 fun c hc => hs c (List.mem_cons_of_mem _ hc)
      refine ⟨u :: us, .cons k1 k3, ?_⟩
      unfold PySem.W.kitAny
      rw [k2]
    | false =>
      obtain ⟨us, k3, k4⟩ := isi_all h h3 e fun c hc => hs c (List.mem_cons_of_mem _ hc)
      refine ⟨u :: us, .cons k1 k3, ?_⟩
      unfold PySem.W.kitAny
      rw [k2]
      exact k4
theorem isi_fst {T : Tab} {d : D} {cs : List D} {b : Bool} (h : isiA T d cs = some b) (hs : cs.all (fun c => (isi1 T d c).isSome) = true) (hc : cs ≠ []) : ∃ c b', isi1 T d c = some b' := by
  cases cs with
  | nil => exact absurd rfl hc
  | cons c cs =>
    obtain ⟨b1, q⟩ := Option.isSome_iff_exists.mp (List.all_eq_true.mp hs c (List.mem_cons_self ..))
    exact ⟨c, b1, q⟩
def isiC (T : Tab) (x : D) : D → Option Bool
  | .tup cs => if cs.all (fun c => (isi1 T x c).isSome) && !cs.isEmpty then isiA T x cs else none
  | .cls c => isi1 T x (.cls c)
  | .typ c => isi1 T x (.typ c)
  | _ => none
def isiG (T : Tab) : List D → Option D
  | [x, c] => (isiC T x c).map .bl
  | _ => none
theorem cb_isi {T : Tab} (TO : TabOk T X.K) : CB X W (.builtin "isinstance") (pB (isiG T)) := cb_mix (callR_or (call_isG TO.cn TO.ct) (call_isGT TO.cn TO.ct)) fun G H ds d vs Q ex rv e q qn => by
  unfold isiG at e
  split at e
  · rename_i x c
    cases q1 : isiC T x c with
    | none =>
      rw [q1] at e
      cases e
    | some b =>
      rw [q1] at e
      cases e
      have one : isi1 T x c = some b → rIsG X.K vs H Q := fun e1 => by
        obtain ⟨v, w, rfl, r1, r2⟩ := reps2 rv
        obtain ⟨t, ty, k⟩ := tyd_of TO ex r1 e1
        obtain ⟨u, k1, k2⟩ := k c b e1 w r2
        exact ⟨v, w, t, u, b, rfl, k1, ty, k2, q _ rfl⟩
      unfold isiC at q1
      cases c with
      | cls c => exact .inl (one q1)
      | typ c => exact .inl (one q1)
      | tup cs =>
        dsimp only at q1
        split at q1
        · rename_i hc
          obtain ⟨h1, h2⟩ := Bool.and_eq_true_iff.mp hc
          obtain ⟨v, w, rfl, r1, a, ws, rfl, s1, s2⟩ := reps2 rv
          obtain ⟨c, b', q2⟩ := isi_fst q1 h1 (fun z => by rw [z] at h2; cases h2)
          obtain ⟨t, ty, k⟩ := tyd_of TO ex r1 q2
          obtain ⟨us, k1, k2⟩ := isi_all k s2 q1 (List.all_eq_true.mp h1)
          exact .inr ⟨v, a, ws, t, us, b, rfl, sq_t ex s1, k1, ty, k2, q _ rfl⟩
        · cases q1
      | _ => cases q1
  · cases e
end
end Mini
set_option maxHeartbeats 1000000
/-! Mini, part 13: repr, format of nested data. -/
namespace Mini
open PySem PySem.Spec PyProof.Rows L2
def keyD : Key → PyData
  | .inl i => .int i
  | .inr x => .str x
mutual
/-- plain data, as the library tells it -/
def pyD : D → Option PyData
  | .non => some .none
  | .bl b => some (.bool b)
  | .int i => some (.int i)
  | .str x => some (.str x)
  | .lst ds => (pyDs ds).map .list
  | .tup ds => (pyDs ds).map .tuple
  | .dct kvs => (pyDk kvs).map .dict
  | .ins _ _ => none
  | .exc _ _ => none
  | .cls _ => none
  | .typ _ => none
  | .fn _ => none
  | .scr _ => none
def pyDs : List D → Option (List PyData)
  | [] => some []
  | d :: ds => match pyD d, pyDs ds with
    | some x, some xs => some (x :: xs)
    | _, _ => none
def pyDk : List (Key × D) → Option (List (PyData × PyData))
  | [] => some []
  | (k, d) :: ds => match pyD d, pyDk ds with
    | some x, some xs => some ((keyD k, x) :: xs)
    | _, _ => none
end
section
variable {X : Cx} {pins : List (Addr × Obj)} {σ : L2.St} {H G : Hp} {s : Shared}
theorem key_reads {h : Heap} {k : Key} {v : Value} (e : keyIs k v) : Reads h v (keyD k) [] := by
  rcases keyIs_shape e with ⟨i, t, rfl, rfl⟩ | ⟨x, t, rfl, rfl⟩
  · exact .int i t
  · exact .str x t
mutual
theorem rep_reads (I : Inv X pins σ H s) (ex : Same G H) : ∀ (d : D) (v : V) (u : Value) (pd : PyData), Rep X.K G d v → RelV v u → pyD d = some pd → ∃ as, Reads s.heap u pd as ∧ ∀ a ∈ as, H a ≠ none
  | .non, v, u, pd, r, rv, e => by
    cases e
    rw [show v = .non from r] at rv
    rw [show u = .none from rv]
    exact ⟨[], .none, by simp⟩
  | .bl b, v, u, pd, r, rv, e => by
    cases e
    rw [show v = .bl b from r] at rv
    rw [show u = .bool b from rv]
    exact ⟨[], .bool b, by simp⟩
  | .int i, v, u, pd, r, rv, e => by
    cases e
    rw [show v = .int i from r] at rv
    obtain ⟨t, rfl⟩ := rv
    exact ⟨[], .int i t, by simp⟩
  | .str x, v, u, pd, r, rv, e => by
    cases e
    rw [show v = .str x from r] at rv
    obtain ⟨t, rfl⟩ := rv
    exact ⟨[], .str x t, by simp⟩
  | .lst ds, v, u, pd, r, rv, e => by
    unfold pyD at e
    cases q : pyDs ds with
    | none =>
      rw [q] at e
      cases e
    | some pds =>
      rw [q] at e
      cases e
      obtain ⟨a, xs, rfl, h1, h2⟩ := r
      obtain rfl : u = Value.ref a := rv
      obtain ⟨_, its, n, rv2, h3⟩ := (show ObjOk X.prog X.w H s.heap a (.lst xs) from I.hok a _ (ex _ _ h1))
      obtain ⟨as, k1, k2⟩ := reps_reads I ex ds xs its pds h2 rv2 q
      refine ⟨a :: as, .list h3 rfl rfl (by simpa using k1), fun b hb => ?_⟩
      rcases List.mem_cons.mp hb with rfl | hb
      · rw [ex _ _ h1]
        simp
      · exact k2 b hb
  | .tup ds, v, u, pd, r, rv, e => by
    unfold pyD at e
    cases q : pyDs ds with
    | none =>
      rw [q] at e
      cases e
    | some pds =>
      rw [q] at e
      cases e
      obtain ⟨a, xs, rfl, h1, h2⟩ := r
      obtain rfl : u = Value.ref a := rv
      obtain ⟨its, rv2, pl, _⟩ := I.tuple (sq_t ex h1)
      obtain ⟨ob, h3, h4, n, h5⟩ := pl
      obtain ⟨as, k1, k2⟩ := reps_reads I ex ds xs its pds h2 rv2 q
      exact ⟨as, .tuple h3 h4 h5 (by simpa using k1), k2⟩
  | .dct kvs, v, u, pd, r, rv, e => by
    unfold pyD at e
    cases q : pyDk kvs with
    | none =>
      rw [q] at e
      cases e
    | some pds =>
      rw [q] at e
      cases e
      obtain ⟨a, xs, rfl, h1, h2⟩ := r
      obtain rfl : u = Value.ref a := rv
      obtain ⟨_, _, vs, rv2, o, es, ep, g1, g2, g3, _, g4, _⟩ := (show ObjOk X.prog X.w H s.heap a (.dK xs) from I.hok a _ (ex _ _ h1))
      obtain ⟨as, k1, k2, k3⟩ := repk_reads I ex kvs xs vs es.toList pds h2 rv2 g4 q
      refine ⟨a :: [] ++ as, .dict g1 g2.1 g3 k1 k2, fun b hb => ?_⟩
      rcases List.mem_cons.mp hb with rfl | hb
      · rw [ex _ _ h1]
        simp
      · exact k3 b hb
  | .ins _ _, _, _, _, _, _, e => by cases e
  | .exc _ _, _, _, _, _, _, e => by cases e
  | .cls _, _, _, _, _, _, e => by cases e
  | .typ _, _, _, _, _, _, e => by cases e
  | .fn _, _, _, _, _, _, e => by cases e
  | .scr _, _, _, _, _, _, e => by cases e
theorem reps_reads (I : Inv X pins σ H s) (ex : Same G H) : ∀ (ds : List D) (vs : List V) (us : List Value) (pds : List PyData), Reps X.K G ds vs → Vals vs us → pyDs ds = some pds → ∃ as, ReadsAll s.heap us pds as ∧ ∀ a ∈ as, H a ≠ none
  | [], vs, us, pds, r, rv, e => by
    cases e
    rw [show vs = [] from r] at rv
    cases rv
    exact ⟨[], .nil, by simp⟩
  | d :: ds, _, us, pds, ⟨v, vs, h1, h2, h3⟩, rv, e => by
    subst h1
    unfold pyDs at e
    cases q1 : pyD d with
    | none =>
      rw [q1] at e
      cases e
    | some x => cases q2 : pyDs ds with
      | none =>
        rw [q1, q2] at e
        cases e
      | some xs =>
        rw [q1, q2] at e
        cases e
        cases rv with
        | cons r1 r2 =>
          obtain ⟨as, k1, k2⟩ := rep_reads I ex d v _ x h2 r1 q1
          obtain ⟨bs, k3, k4⟩ := reps_reads I ex ds vs _ xs h3 r2 q2
          exact ⟨as ++ bs, .cons k1 k3, fun b hb => (List.mem_append.mp hb).elim (k2 b) (k4 b)⟩
theorem repk_reads (I : Inv X pins σ H s) (ex : Same G H) : ∀ (ds : List (Key × D)) (vs : List (Key × V)) (us : List (Key × Value)) (es : List DictEntry) (pds : List (PyData × PyData)), RepK X.K G ds vs → KV vs us → Pairs (mixKind X.prog X.w) es us → pyDk ds = some pds →
    ∃ as, ReadsAll s.heap (es.map (·.key)) (pds.map (·.1)) [] ∧ ReadsAll s.heap (es.map (·.val)) (pds.map (·.2)) as ∧ ∀ a ∈ as, H a ≠ none
  | [], vs, us, es, pds, r, rv, pr, e => by
    cases e
    rw [show vs = [] from r] at rv
    cases rv
    cases pr
    exact ⟨[], .nil, .nil, by simp⟩
  | (k, d) :: ds, _, us, es, pds, ⟨v, vs, h1, h2, h3⟩, rv, pr, e => by
    subst h1
    unfold pyDk at e
    cases q1 : pyD d with
    | none =>
      rw [q1] at e
      cases e
    | some x => cases q2 : pyDk ds with
      | none =>
        rw [q1, q2] at e
        cases e
      | some xs =>
        rw [q1, q2] at e
        cases e
        cases rv with
        | @cons _ b _ bs r1 r2 =>
          obtain ⟨k', u'⟩ := b
          obtain ⟨e1, r3⟩ := r1
          cases pr with
          | cons p1 p2 p3 =>
            obtain rfl : k = k' := e1
            obtain ⟨as, k1, k2⟩ := rep_reads I ex d v _ x h2 r3 q1
            obtain ⟨bs, k3, k4, k5⟩ := repk_reads I ex ds vs _ _ xs h3 r2 p3 q2
            refine ⟨as ++ bs, .cons (as := []) (bs := []) (key_reads p1) k3, ?_, fun b hb => (List.mem_append.mp hb).elim (k2 b) (k5 b)⟩
            refine .cons ?_ k4
            dsimp only at p2 ⊢
            rw [p2]
            exact k1
end
end
/-- the text that repr gives -/
def reprD (d : D) : Option Str := match pyD d with
  | some pd => if pd.depth ≤ 100 ∧ pd.showable = true ∧ pd.shown.length ≤ LIM then some pd.shown else none
  | none => none
theorem reprD_some {d : D} {t : Str} (h : reprD d = some t) : ∃ pd, pyD d = some pd ∧ pd.depth ≤ 100 ∧ pd.showable = true ∧ pd.shown.length ≤ LIM ∧ t = pd.shown := by
  unfold reprD at h
  cases q : pyD d with
  | none =>
    rw [q] at h
    cases h
  | some pd =>
    rw [q] at h
    dsimp only at h
    split at h
    · rename_i c
      cases h
      exact ⟨pd, rfl, c.1, c.2.1, c.2.2, rfl⟩
    · cases h
def fmtD (d : D) : Option Str := match d with
  | .str x => if x.length ≤ LIM then some x else none
  | d => reprD d
section
variable {X : Cx} {W : WX} {pins : List (Addr × Obj)} {σ : L2.St} {H G : Hp} {s : Shared}
theorem sys_off (sy : ∃ o, X.K.lookup sysModules = some o) (I : Inv X pins σ H s) {as : List Addr} (h : ∀ a ∈ as, H a ≠ none) : sysModules ∉ as := fun z => by
  obtain ⟨o, e⟩ := sy
  exact h _ z (I.bs _ _ (I.ok.mod.kin _ _ e)).2
theorem call_reprD (sy : ∃ o, X.K.lookup sysModules = some o) (hg : X.A.guards = some []) (hu : X.A.units + 110 < cLine) (I : Inv X pins σ H s) (ex : Same G H) {d : D} {v : V} {u : Value} {t : Str} (r : Rep X.K G d v) (rv : RelV v u) (e : reprD d = some t) {Q : Value → Shared → Prop} {E : Value → Shared → Prop}
    (q : ∀ h' y tk, (∀ b o, s.heap.get? b = some o → h'.get? b = some o) → Q (.str t y) { s with heap := h', toks := tk }) : wpAny (model X.prog X.w) X.A (call (.builtin "repr") [u]) Q E s := by
  obtain ⟨pd, e1, e2, e3, e4, rfl⟩ := reprD_some e
  obtain ⟨as, k1, k2⟩ := rep_reads I ex d v u pd r rv e1
  have z := lim_ok e4
  cases k1 with
  | none =>
    refine PySem.P.repr_of_none ?_
    have y := q s.heap s.toks (s.toks + 1) fun _ _ h => h
    rw [PyData.shown_none] at y
    exact y
  | bool b =>
    refine PySem.P.repr_of_bool ?_
    have y := q s.heap s.toks (s.toks + 1) fun _ _ h => h
    rw [PyData.shown_bool] at y
    cases b <;> exact y
  | int i tk =>
    refine PySem.P.repr_of_int (by simpa [PyData.showable] using e3) ?_
    have y := q s.heap s.toks (s.toks + 1) fun _ _ h => h
    rw [PyData.shown_int] at y
    exact y
  | str x tk =>
    have y := q s.heap s.toks (s.toks + 1) fun _ _ h => h
    rw [PyData.shown_str] at y z
    exact PySem.P.repr_of_str y z
  | list h1 h2 h3 h4 => exact repr_of_reads' (.list h1 h2 h3 h4) e3 (fun _ => sys_off sy I k2) hg (by omega) (fun _ _ h => h) q z
  | tuple h1 h2 h3 h4 => exact repr_of_reads' (.tuple h1 h2 h3 h4) e3 (fun _ => sys_off sy I k2) hg (by omega) (fun _ _ h => h) q z
  | dict h1 h2 h3 h4 h5 => exact repr_of_reads' (.dict h1 h2 h3 h4 h5) e3 (fun _ => sys_off sy I k2) hg (by omega) (fun _ _ h => h) q z
/-- {v} -/
theorem fmt_ok (sy : ∃ o, X.K.lookup sysModules = some o) (hg : X.A.guards = some []) (hu : X.A.units + 110 < cLine) (I : Inv X pins σ H s) (ex : Same G H) {d : D} {v : V} {u : Value} {t : Str} (r : Rep X.K G d v) (rv : RelV v u) (e : fmtD d = some t) {Q : Value → Shared → Prop} {E : Value → Shared → Prop}
    (q : ∀ h' y tk, (∀ b o, s.heap.get? b = some o → h'.get? b = some o) → Q (.str t y) { s with heap := h', toks := tk }) : wpAny (model X.prog X.w) X.A (formatField u Str.empty) Q E s := by
  by_cases hs : ∃ x, d = .str x
  · obtain ⟨x, rfl⟩ := hs
    rw [show v = .str x from r] at rv
    obtain ⟨tk, rfl⟩ := rv
    unfold fmtD at e
    dsimp only at e
    split at e
    · rename_i hx
      cases e
      exact wpAny_formatField_str (q s.heap tk s.toks fun _ _ h => h) (q s.heap s.toks (s.toks + 1) fun _ _ h => h) (lim_ok hx)
    · cases e
  · have e : reprD d = some t := by
      unfold fmtD at e
      split at e
      · exact absurd ⟨_, rfl⟩ hs
      · exact e
    obtain ⟨pd, e1, e2, e3, e4, rfl⟩ := reprD_some e
    obtain ⟨as, k1, k2⟩ := rep_reads I ex d v u pd r rv e1
    have z := lim_ok e4
    cases k1 with
    | none =>
      refine wpAny_formatField_none ?_
      have y := q s.heap (s.toks + 1) (s.toks + 1 + 1) fun _ _ h => h
      rw [PyData.shown_none] at y
      exact y
    | bool b =>
      refine wpAny_formatField_bool ?_
      have y := q s.heap (s.toks + 1) (s.toks + 1 + 1) fun _ _ h => h
      rw [PyData.shown_bool] at y
      cases b <;> exact y
    | int i tk =>
      refine wpAny_formatField_int (by simpa [PyData.showable] using e3) ?_
      have y := q s.heap (s.toks + 1) (s.toks + 1 + 1) fun _ _ h => h
      rw [PyData.shown_int] at y
      exact y
    | str x tk =>
      cases d with
      | str y => exact absurd ⟨_, rfl⟩ hs
      | _ =>
        first
          | cases e1
          | (rw [show v = _ from r] at rv; obtain ⟨_, w⟩ := rv; cases w)
          | (rw [show v = _ from r] at rv; cases rv)
          | (obtain ⟨_, _, w, _⟩ := r; rw [w] at rv; cases rv)
    | list h1 h2 h3 h4 => exact formatField_of_reads (.list h1 h2 h3 h4) e3 (fun _ => sys_off sy I k2) hg (by omega) (fun _ _ h => h) q z
    | tuple h1 h2 h3 h4 => exact formatField_of_reads (.tuple h1 h2 h3 h4) e3 (fun _ => sys_off sy I k2) hg (by omega) (fun _ _ h => h) q z
    | dict h1 h2 h3 h4 h5 => exact formatField_of_reads (.dict h1 h2 h3 h4 h5) e3 (fun _ => sys_off sy I k2) hg (by omega) (fun _ _ h => h) q z
def reprF : List D → Option D
  | [d] => (reprD d).map .str
  | _ => none
theorem cb_repr (sy : ∃ o, X.K.lookup sysModules = some o) (hg : X.A.guards = some []) (hu : X.A.units + 110 < cLine) : CB X W (.builtin "repr") (pB reprF) :=
  cb_mix (r := fun vs H Q => ∃ v G d t, vs = [v] ∧ Same G H ∧ Rep X.K G d v ∧ reprD d = some t ∧ Q (.str t) H) (fun pins s σ H xs us Q I rv ⟨v, G, d, t, e, ex, r, e2, q⟩ => by
    subst e
    obtain ⟨u, rfl, r1⟩ := vals1 rv
    exact call_reprD sy hg hu I ex r r1 e2 fun h' y tk k => ⟨.str t, H, I.kept k, ⟨y, rfl⟩, q⟩) fun G H ds d vs Q ex rv e q qn => by
  unfold reprF at e
  split at e
  · rename_i c
    obtain ⟨v, rfl, r⟩ := reps1 rv
    cases q1 : reprD c with
    | none =>
      rw [q1] at e
      cases e
    | some t =>
      rw [q1] at e
      cases e
      exact ⟨v, G, c, t, rfl, ex, r, q1, q _ rfl⟩
  · cases e
/-! ### f-strings -/
def fmtM (m : M D) : M D := fun e => (m e).bind fun d e1 => match fmtD d with
  | some t => .ok (.str t) e1
  | none => .stuck
theorem se_fmt {e : Expr} {m : M D} {pos : Pos} (sy : ∃ o, X.K.lookup sysModules = some o) (hg : X.A.guards = some []) (hu : X.A.units + 110 < cLine) (h : SE X W e m) : SE X W (.FormattedValue e (-1) none pos) (fmtM m) := by
  obtain ⟨t, p, k⟩ := h
  refine ⟨fun σ H Q => t σ H fun x H1 => ∃ G d y, Same G H1 ∧ Rep X.K G d x ∧ fmtD d = some y ∧ Q (.str y) H1, ⟨fun pins s σ H Q I h => ?_⟩, fun A env G σ H Q rl h => ?_⟩
  · refine wpAny_FormattedValue_plain (thn (p.run pins s σ H _ I h) fun u s1 ⟨x, H1, I1, r1, G, d, y, ex, r, e2, q⟩ => ?_)
    exact fmt_ok sy hg hu I1 ex r r1 e2 fun h' z tk k => ⟨.str y, H1, I1.kept k, ⟨z, rfl⟩, q⟩
  · refine k A env G σ H _ rl (Post.mono (Post.bind h) fun d e1 G1 H1 ad rl1 z v rv => ?_)
    cases q : fmtD d with
    | none =>
      rw [q] at z
      exact z.elim
    | some y =>
      rw [q] at z
      exact ⟨G1, d, y, rl1.ex, rv, q, Post.here z rl1 _ rfl⟩
/-- the parts of an f-string -/
def SJ (X : Cx) (W : WX) (es : List Expr) (m : Str → M Str) : Prop := ∃ ts, PJ X es ts ∧ ∀ A env G σ H (acc : Str) (Q : Str → Hp → Prop), Rel X.K A env G σ H → Post X.K A G σ H W (m acc env) (fun y _ G' H' => Q y H') → tJs ts acc σ H Q
theorem sj_nil : SJ X W [] (fun acc => ret acc) := ⟨[], .nil, fun A env G σ H acc Q rl h => Post.here h rl⟩
def joinM (m : M D) (n : Str → M Str) : Str → M Str := fun acc e => (m e).bind fun d e1 => match d with
  | .str y => if acc.length + y.length ≤ LIM then n (acc ++ y) e1 else .stuck
  | _ => .stuck
theorem sj_cons {e : Expr} {es : List Expr} {m : M D} {n : Str → M Str} (h : SE X W e m) (hs : SJ X W es n) : SJ X W (e :: es) (joinM m n) := by
  obtain ⟨t, p, k⟩ := h
  obtain ⟨ts, ps, ks⟩ := hs
  refine ⟨_, .cons p ps, fun A env G σ H acc Q rl h => ?_⟩
  refine k A env G σ H _ rl (Post.mono (Post.bind h) fun d e1 G1 H1 ad rl1 z v rv => ?_)
  cases d with
  | str y =>
    dsimp only at z
    split at z
    · rename_i c
      exact ⟨y, rv, lim_ok (by rw [strLen_append]; exact c), ks A e1 G1 σ H1 _ Q rl1 z⟩
    · exact z.elim
  | _ => exact False.elim z
def fstrM (n : Str → M Str) : M D := fun e => (n Str.empty e).bind fun y e1 => .ok (.str y) e1
theorem se_fstr {a b : Expr} {es : List Expr} {n : Str → M Str} {pos : Pos} (h : SJ X W (a :: b :: es) n) : SE X W (.JoinedStr (a :: b :: es) pos) (fstrM n) := by
  obtain ⟨ts, ps, ks⟩ := h
  exact ⟨_, pe_joined ps, fun A env G σ H Q rl h => ks A env G σ H _ _ rl (Post.mono (Post.bind h) fun y e1 G1 H1 ad rl1 z => Post.here z rl1 _ rfl)⟩
theorem se_fstr1 {a : Expr} {m : M D} {pos : Pos} (h : SE X W a m) : SE X W (.JoinedStr [a] pos) m := by
  obtain ⟨t, p, k⟩ := h
  exact ⟨t, pe_joined1 p, k⟩
end
end Mini
set_option maxHeartbeats 2000000
/-! Mini, part 19: errors: super().__init__(..), then fields. -/
namespace Mini
open PySem PySem.Spec PyProof.Rows L2 PySem.W
/-- the fields as they are stored, the newest first -/
def pick (e : En) : List (Str × Nat) → List (Str × D) → Option (List (Str × D))
  | [], acc => some acc
  | (f, i) :: r, acc => match e[i]? with
    | some (.val d) => pick e r ((f, d) :: acc)
    | _ => none
/-- what such an __init__ leaves, given the data behind self -/
def errR (m : M D) (fs : List (Str × Nat)) (ds : List D) : Option (List (Str × D)) := match m (.no :: ds.map .val) with
  | .ok _ e => if fs.isEmpty then none else pick e fs []
  | _ => none
def spErr (K : Frag) (C : Addr) (np : Nat) (eR : List D → Option (List (Str × D))) : Sp := fun vs H Q E => vs.length = np ∧ ∃ a ws ds G fs, vs = .ref a :: ws ∧ Same G H ∧ G a = none ∧ H a = some (exo a C none) ∧ Reps K G ds ws ∧ eR ds = some fs ∧
  ∀ G1 H1 dx us, Adv [] G H G1 H1 → Same G1 H1 → G1 a = none → H1 a = some (exo a C none) → H1 dx = none → dx ≠ a → RepF K G1 fs us → Q .non (upd (upd H1 dx (exd dx us)) a (exo a C (some dx)))
/-- the context of such a body -/
def errCx (P : Program) (w : World) (K : Frag) (mg : Str → Option Value) (base : Heap) (N : List Str) (qual : Str) (scope : Scope) (fI cda cc : Addr) (A : Around) (below : List Env) (s : Shared) (H : Hp) (xe : Value → Shared → Prop) : Cx where
  prog := P
  w := w
  K := K
  mg := mg
  base := base
  A := A.deeper (ksEnv qual scope s.heap.objs.size fI (.ref cda) cc)
  N := N
  s_0 := s
  H_0 := H
  env := ksEnv qual scope s.heap.objs.size fI (.ref cda) cc
  outer := below
  stack := ksEnv qual scope s.heap.objs.size fI (.ref cda) cc :: below
  ex := []
  calm := true
  fn := fun _ => false
  pn := []
  xe := xe
/-- what the scope of such an __init__ must be -/
structure ErrScope (N : List Str) (sc : Scope) : Prop where
  kind : sc.kind = .function
  co : sc.isCoroutine = false
  gen : sc.isGenerator = false
  nd : N.Nodup
  par : ∀ x ∈ N, sc.names.lookup x = some .local
  nocell : ∀ y ∈ sc.names, y.2 ≠ .cell
  free : ∀ y, sc.names.lookup y = some .free → y = "__class__"
  sup : sc.names.lookup ("super" : Str) = some .globalImplicit
  cls : sc.names.lookup ("__class__" : Str) = some .free
section
variable {P : Program} {w : World} {K : Frag} {mg : Str → Option Value} {base : Heap} {A : Around} {below : List Env} {s s1 : Shared} {H : Hp} {N : List Str} {qual : Str} {scope : Scope} {fI cda cc : Addr} {xe : Value → Shared → Prop}
theorem inv_err {us : List Value} {vs : List V} {h0 : Heap} {tk : Nat} {C : Addr} {q1 : Value} {q2 : Option Addr} {q3 : Array (Option Value)} (S : ErrScope N scope) (hd : A.handled = none) (e0 : Env0 P w K mg base A below s H) (r : Vals vs us) (hl : vs.length = N.length) (hcc : K.lookup cc = some ⟨q1, q2, .cell (some (.ref C)), q3⟩)
    (hns : h0.Ns s.heap.objs.size (fun x => (N.zip us).reverse.lookup x)) (kp : ∀ b o, s.heap.get? b = some o → h0.get? b = some o) :
    Inv (errCx P w K mg base N qual scope fI cda cc A below s H xe) [] (L2.start N vs) H { s with heap := h0, toks := tk } := by
  have noA : ∀ b : Addr, b ∉ ([] : List Addr) := fun b z => by simp at z
  have bcc := e0.mod.kin _ _ hcc
  have cells : ∀ {x : Str} {c : Addr}, List.lookup x [(("__class__" : Str), cc)] = some c → x = "__class__" ∧ c = cc := fun {x c} h => by
    simp only [List.lookup] at h
    split at h
    · rename_i q
      exact ⟨beq_iff_eq.mp q, (Option.some.inj h).symm⟩
    · cases h
  have lu : ∀ (i : Nat) (x : Str) (u : Value), N[i]? = some x → us[i]? = some u → (N.zip us).reverse.lookup x = some u := fun i x u h1 h2 => by
    have hz : (N.zip us)[i]? = some (x, u) := by
      rw [List.getElem?_zip_eq_some]
      exact ⟨h1, h2⟩
    have hm : (x, u) ∈ (N.zip us).reverse := List.mem_reverse.mpr (List.mem_of_getElem? hz)
    have nd : ((N.zip us).reverse.map (·.1)).Nodup := by
      rw [List.map_reverse]
      rw [List.map_fst_zip (by rw [← Paired.length r, hl]; exact Nat.le_refl _)]
      exact (List.reverse_perm N).symm.nodup S.nd
    have go : ∀ {l : List (Str × Value)}, (l.map (·.1)).Nodup → (x, u) ∈ l → l.lookup x = some u := by
      intro l
      induction l with
      | nil =>
        intro _ h
        cases h
      | cons p l ih =>
        obtain ⟨y, z⟩ := p
        intro nd h
        rcases List.mem_cons.mp h with h | h
        · cases h
          simp [List.lookup]
        · have hne : (x == y) = false := by
            have : y ≠ x := fun e => (List.nodup_cons.mp nd).1 (List.mem_map.mpr ⟨(x, u), h, e.symm⟩)
            simpa using Ne.symm this
          simp only [List.lookup, hne]
          exact ih (List.nodup_cons.mp nd).2 h
    exact go nd hm
  refine ⟨⟨e0.mod, S.kind, rfl, rfl, Nat.le_refl _, fun y z c h1 h2 => ?_, fun y hy => ?_, fun y c hf h => ?_, fun _ => hd, Around.frames_deeper e0.frames, .inr ⟨rfl, rfl⟩, fun b z => absurd z (noA b), e0.bs, e0.bsz, fun b _ _ => noA b, fun b z => absurd z (noA b), e0.funs, e0.frf⟩,
    rfl, e0.bare, Un.kept kp, ⟨_, hns, fun i y v h1 h2 h3 => ?_⟩, fun y c h => ?_, e0.hok.fresh (Nat.le_refl _), fun y c h => ?_, fun p hp => absurd (show p ∈ ([] : List (Addr × Obj)) from hp) (by simp), e0.hok.kept kp, ?_⟩
  · rw [(cells h1).1, (cells h2).1]
  · have hy : scope.names.lookup y = some .cell ∨ scope.names.lookup y = some .free := hy
    rcases hy with hy | hy
    · exact absurd rfl (S.nocell _ (PySem.mem_of_lookup hy))
    · rw [S.free y hy]
      exact ⟨cc, by show List.lookup _ [(("__class__" : Str), cc)] = some cc; simp [List.lookup]⟩
  · cases hf
  · have hi : i < vs.length := by
      have := (List.getElem?_eq_some_iff.mp h1).1
      have h1' : i < N.length := this
      omega
    have ha : vs[i]? = some v := by
      unfold L2.start at h2
      rw [List.getElem?_append_left (by simpa using hi), List.getElem?_map] at h2
      cases e : vs[i]? with
      | none =>
        rw [e] at h2
        cases h2
      | some a =>
        rw [e] at h2
        cases h2
        rfl
    obtain ⟨u, hu, rv⟩ := r.get ha
    refine ⟨u, rv, .inl ⟨S.par y (List.mem_of_getElem? h1), lu i y u h1 hu⟩⟩
  · obtain ⟨rfl, rfl⟩ := cells h
    exact ⟨_, _, kp _ _ (e0.bs _ _ bcc).1, rfl⟩
  · obtain ⟨rfl, rfl⟩ := cells h
    exact (e0.bs _ _ bcc).2
  · unfold L2.start
    show _ = N.length
    rw [List.length_append, List.length_map, List.length_replicate]
    omega
end
/-- self.f = x, one behind another; the names' slots -/
inductive SetsOf (X : Cx) : List Stmt → List (Str × Nat) → Prop where
  | nil : SetsOf X [] []
  | cons {p1 p2 p3 p4 : Pos} {f x y : Str} {i : Nat} {r : List Stmt} {fs : List (Str × Nat)} (h0 : X.N[0]? = some y) (hi : X.N[i]? = some x) (v0 : Vis X.env.scope y) (vi : Vis X.env.scope x) (d0 : (y == ("__debug__" : Str)) = false) (di : (x == ("__debug__" : Str)) = false)
      (c0 : (y == ("__classdict__" : Str)) = false) (ci : (x == ("__classdict__" : Str)) = false) (hs : swapsWith (.Name x p2) (some (.Attribute (.Name y p1) f p3)) p4.line X.env = pure false) (t : SetsOf X r fs) : SetsOf X (.Assign [.Attribute (.Name y p1) f p3] (.Name x p2) p4 :: r) ((f, i) :: fs)
/-- how the error lies amid its fields' storing -/
def ExoAt (H1 : Hp) (a C : Addr) (us : List (Str × V)) (H2 : Hp) : Prop := (us = [] ∧ H2 = H1) ∨ ∃ dx, H1 dx = none ∧ dx ≠ a ∧ H2 = upd (upd H1 dx (exd dx us)) a (exo a C (some dx))
theorem upd_comm {H : Hp} {a b : Addr} {x y : HO} (h : a ≠ b) : upd (upd H a x) b y = upd (upd H b y) a x := by
  funext c
  by_cases h1 : c = a
  · subst h1
    rw [upd_ne h, upd_same, upd_same]
  · by_cases h2 : c = b
    · subst h2
      rw [upd_same, upd_ne h1, upd_same]
    · rw [upd_ne h2, upd_ne h1, upd_ne h1, upd_ne h2]
theorem sets_run {X : Cx} {rest : List Stmt} {fs : List (Str × Nat)} (h : SetsOf X rest fs) (O : OexC X.K C0) (no : ∀ f ∈ fs.map (·.1), findIn X.K (.ref C0) f = some none) :
    ∃ t, PSs X rest t ∧ ∀ (T : Ends) (σ : L2.St) (H1 H2 G1 : Hp) (a : Addr) (e : En) (acc fsD : List (Str × D)) (us : List (Str × V)), σ[0]? = some (some (.ref a)) → (∀ (i : Nat) (d : D), e[i]? = some (Sl.val d) → ∃ v : V, σ[i]? = some (some v) ∧ Rep X.K G1 d v) →
      H1 a = some (exo a C0 none) → ExoAt H1 a C0 us H2 → RepF X.K G1 acc us → pick e fs acc = some fsD → us.length + fs.length ≤ 900 →
      (∀ us' H3, ExoAt H1 a C0 us' H3 → us'.length = us.length + fs.length → RepF X.K G1 fsD us' → T.nx σ H3) → t T σ H2 := by
  induction h with
  | nil =>
    refine ⟨_, pss_nil, fun T σ H1 H2 G1 a e acc fsD us h0 hv ha hx hr hp hl q => ?_⟩
    cases hp
    exact q us H2 hx rfl hr
  | @cons p1 p2 p3 p4 f x y i r fs h0 hi v0 vi d0 di c0 ci hs t ih =>
    obtain ⟨t2, pt2, k2⟩ := ih fun g hg => no g (List.mem_cons_of_mem _ hg)
    refine ⟨_, pss_cons (ps_ost (pe_var h0 v0 d0 c0) (pe_var hi vi di ci) hs) pt2, fun T σ H1 H2 G1 a e acc fsD us e0 hv ha hx hr hp hl q => ?_⟩
    unfold pick at hp
    split at hp
    · rename_i d hd
      obtain ⟨v, hv1, rv⟩ := hv i d hd
      have hno := no f (List.mem_cons_self ..)
      have next : ∀ H3, ExoAt H1 a C0 ((f, v) :: us) H3 → t2 T σ H3 := fun H3 hx3 => k2 T σ H1 H3 G1 a e ((f, d) :: acc) fsD ((f, v) :: us) e0 hv ha hx3 ⟨v, us, rfl, rv, hr⟩ hp (by simp only [List.length_cons] at hl ⊢; omega) fun us' H4 hx4 hl4 hr4 => q us' H4 hx4 (by simp only [List.length_cons] at hl4 ⊢; omega) hr4
      refine ⟨v, hv1, .ref a, e0, a, C0, rfl, O, hno, ?_⟩
      rcases hx with ⟨rfl, rfl⟩ | ⟨dx, n1, n2, rfl⟩
      · exact .inl ⟨ha, fun dx n1 n2 => next _ (.inr ⟨dx, n1, n2, rfl⟩)⟩
      · refine .inr ⟨dx, us, upd_same, ?_, by simp only [List.length_cons] at hl; omega, next _ (.inr ⟨dx, n1, n2, ?_⟩)⟩
        · rw [upd_ne n2, upd_same]
        · exact (upd_comm (Ne.symm n2)).trans (by rw [upd_upd])
    · cases hp
/-- the __init__ of an error keeps its promise -/
theorem err_init {P : Program} {w : World} {K : Frag} {mg : Str → Option Value} {base : Heap} {k : Nat} {C fI cda cc : Addr} {N : List Str} {qual : Str} {params : Arguments} {body rest : List Stmt} {arg : Expr} {scope : Scope} {oc kV doc pm ct : Value} {od an : Option Addr} {osl : Array (Option Value)} {o1 : Value} {o2 : Option Addr} {o3 : Array (Option Value)} {cvs : Array Value} {file : Str} {tf : Tok} {q1 : Value} {q2 : Option Addr} {q3 : Array (Option Value)}
    {p0 p1 p2 p4 p5 : Pos} {ar : Arg} {m : M D} {fs : List (Str × Nat)}
    (hb0 : body = .Expr (.Call (.Attribute (.Call (.Name "super" p0) [] [] p1) "__init__" p2) [arg] [] p4) p5 :: rest)
    (hf : K.lookup fI = some ⟨oc, od, .func (ksFn "__init__" qual params body scope .none kV doc pm an (.ref cda) ct cc), osl⟩) (hcd : codeIn K (.ref cda) qual = true) (hcda : K.lookup cda = some ⟨o1, o2, .fields cvs, o3⟩) (hvs : cvs[2]? = some (.str file tf)) (hfile : ((P.main.file : Str) == file) = true)
    (hcc : K.lookup cc = some ⟨q1, q2, .cell (some (.ref C)), q3⟩) (S : ErrScope N scope) (O : OexC K C) (hkC : (clsIn K C).isSome = true) (slf : mroIn K C (.ref C) = some true) (sup : ks_superIn K C C "__init__" = some (some (.builtin "ValueError.__init__"))) (isB : subIn K (.ref C) (.type "ValueError") = some true)
    (opq : nsIn K cStatics "thirdparty.any" = some none) (htop : (P.main.scope.names.lookup ("super" : Str)).isSome = false) (hp : (params.posonlyargs ++ params.args).head? = some ar) (hN0 : N[0]? = some ar.arg) (hms : mg "super" = none) (no : ∀ f ∈ fs.map (·.1), findIn K (.ref C) f = some none) (hfl : fs.length ≤ 800)
    (ha : ∀ (A : Around) (below : List Env) (s : Shared) (H : Hp) (xe : Value → Shared → Prop), A.guards = some [] → Room k A → SE (errCx P w K mg base N qual scope fI cda cc A below s H xe) (fun _ _ _ _ => False) arg m)
    (hst : ∀ env, starEach [arg] env = [(false, eval arg env)])
    (hca : ∀ env, ∃ pl, eval (.Call (.Attribute (.Call (.Name "super" p0) [] [] p1) "__init__" p2) [arg] [] p4) env = (do
      let ov ← attributeBase (.Call (.Name "super" p0) [] [] p1) "__init__" env (eval (.Call (.Name "super" p0) [] [] p1) env)
      standAt p2.atName
      let (f, first) ← holding [ov] (getMethod ov "__init__" pl)
      callWith p4 f first (backTo p4 (starEach [arg] env)) []))
    (hr : ∀ (A : Around) (below : List Env) (s : Shared) (H : Hp) (xe : Value → Shared → Prop), SetsOf (errCx P w K mg base N qual scope fI cda cc A below s H xe) rest fs) :
    FnG P w K mg base (k + 1) fI (ksFn "__init__" qual params body scope .none kV doc pm an (.ref cda) ct cc) N (spErr K C N.length (errR m fs)) := by
  refine ⟨fun vs H Q E h => h.1, fun A below s H args us vs Q E hg room e0 bt rv sp => ?_⟩
  subst hb0
  obtain ⟨hl, a, ws, ds, G, fsD, rfl, exG, hGa, hHa, rds, her, fin⟩ := sp
  have inK : K.In s.heap := e0.mod.kin.keeps fun c u q => (e0.bs c u q).1
  have hn := e0.mod.nolimit.keeps fun c u q => (e0.bs c u q).1
  refine ks_codeAny_call_defAt (fd := ksFn "__init__" qual params _ scope .none kV doc pm an (.ref cda) ct cc) (binds := N.zip us) room.depth (inK _ _ hf) rfl hn (codeRec_of inK hcd) rfl bt S.nocell (fun x hx => S.par _ (List.of_mem_zip hx).1) (fun h0 hns kp => ?_) S.co S.gen S.kind
  have X0 : ∀ xe, Inv (errCx P w K mg base N qual scope fI cda cc A below s H xe) [] (L2.start N (.ref a :: ws)) H { s with heap := h0, toks := s.toks + (N.zip us).length } := fun xe => inv_err S room.hd e0 rv hl hcc hns kp
  obtain ⟨hp', g, d, tk, os⟩ := s
  obtain ⟨nm, q, Nc, bs, bm, sn, sub, ab, col, dd, k0, k1, k2, k3, k5, hC, hbm⟩ := O.cls
  have I0 := X0 (fun _ _ => True)
  obtain ⟨mb, hmb, hboot⟩ := e0.mod.blt
  have gl0 := (e0.mod.glob.keeps fun c u q => (e0.bs c u q).1).keeps kp
  have bl0 := (hmb.keeps fun c u q => (e0.bs c u q).1).keeps kp
  obtain ⟨t1, hoa⟩ := exo_at I0.hok hHa
  obtain ⟨cd, hclc⟩ := Option.isSome_iff_exists.mp hkC
  have uz : ∃ u0 ur, us = u0 :: ur ∧ RelV (.ref a) u0 ∧ Vals ws ur := by
    cases rv with
    | cons r1 r2 => exact ⟨_, _, rfl, r1, r2⟩
  obtain ⟨u0, ur, rfl, r0, rws⟩ := uz
  obtain rfl : u0 = Value.ref a := r0
  have hz : (N.zip (Value.ref a :: ur)).reverse.lookup ar.arg = some (.ref a) := by
    cases N with
    | nil => cases hN0
    | cons y N =>
      cases hN0
      rw [List.zip_cons_cons, List.reverse_cons]
      have nin : ∀ v, (ar.arg, v) ∉ (N.zip ur).reverse := fun v hv => (List.nodup_cons.mp S.nd).1 (List.of_mem_zip (List.mem_reverse.mp hv)).1
      have go : ∀ {l : List (Str × Value)}, (∀ v, (ar.arg, v) ∉ l) → (l ++ [(ar.arg, Value.ref a)]).lookup ar.arg = some (.ref a) := by
        intro l
        induction l with
        | nil =>
          intro _
          simp [List.lookup]
        | cons p l ih =>
          obtain ⟨z, v⟩ := p
          intro h
          have hne : (ar.arg == z) = false := by
            have : ar.arg ≠ z := fun e => h v (by rw [e]; exact List.mem_cons_self ..)
            simpa using this
          simp only [List.cons_append, List.lookup, hne]
          exact ih fun v hv => h v (List.mem_cons_of_mem _ hv)
      exact go nin
  obtain ⟨pl, hpl⟩ := hca (ksEnv qual scope hp'.objs.size fI (.ref cda) cc)
  have key : ∀ XE0 : Value → Shared → Prop, _root_.PySem.wpAt (model P w) (A.deeper (ksEnv qual scope hp'.objs.size fI (.ref cda) cc)) (.func (.Expr (.Call (.Attribute (.Call (.Name "super" p0) [] [] p1) "__init__" p2) [arg] [] p4) p5 :: rest) (ksEnv qual scope hp'.objs.size fI (.ref cda) cc))
      (execs (.Expr (.Call (.Attribute (.Call (.Name "super" p0) [] [] p1) "__init__" p2) [arg] [] p4) p5 :: rest) (ksEnv qual scope hp'.objs.size fI (.ref cda) cc)) (fun f s' => CR (L2.CX P w) below P w H ⟨hp', g, d, tk, os⟩ Q E (.ok (.ret (match f with | .ret v => v | _ => .none))) s') XE0
      ⟨h0, g, d, tk + (N.zip (Value.ref a :: ur)).length, os⟩ := fun XE0 => ?_
  · exact key _
  refine ks_wpAt_execs_cons (ks_wpAt_Expr_any (ks_wpAt_MethodCall (pl := pl) ?_ hpl) I0.quiet rfl)
  refine err_super (inK.keeps kp) gl0 hms bl0 ((hboot _ (by decide)).trans (by kernel_rfl)) hf hcda hvs hfile hcc hC slf htop hp rfl hns hz hoa rfl (fun _ => nofun) S.sup S.cls (S.par _ (List.mem_of_getElem? hN0)) S.kind fun h1 hso kp1 => ?_
  have kp01 : ∀ b o, hp'.get? b = some o → h1.get? b = some o := fun b o e => kp1 b o (kp b o e)
  have J1 : InstAt h1 a _ C none := ⟨kp1 _ _ hoa, rfl, rfl, trivial⟩
  have mro : Looks (model P w) h1 (mroOf (.ref C)) cd.mro := fun A Q E s k q => wpAny_bind ((looks_clsIn (inK.keeps kp01) hclc) A _ E s k (wpAny_pure q))
  have hsup : alongIn K "__init__" ((cd.mro.dropWhile (· != .ref C)).drop 1) = some (some (.builtin "ValueError.__init__")) := by
    have z := sup
    unfold ks_superIn at z
    rw [hclc] at z
    exact z
  refine kxs_getMethod kxs_ValueError hso (looks_opaque (inK.keeps kp01) opq) mro rfl (inK.keeps kp01) hsup (J1.type.andThen (looks_subIn (inK.keeps kp01) isB)) (ks_ne (inK.keeps kp01) J1 hclc) (by decide) ?_
  -- the arguments
  cases hm : m (.no :: ds.map .val) with
  | err x e1 =>
    unfold errR at her
    rw [hm] at her
    cases her
  | stuck =>
    unfold errR at her
    rw [hm] at her
    cases her
  | ok dm e1 =>
    unfold errR at her
    rw [hm] at her
    dsimp only at her
    split at her
    · cases her
    rename_i hne
    have I1 := (X0 XE0).kept (t' := tk + (N.zip (Value.ref a :: ur)).length + 1) fun b o e => Heap.get?_push_of_some (kxs_mw "ValueError.__init__" a) (kp1 b o e)
    have Ih := (X0 (fun _ _ => True)).kept (t' := 0) kp1
    have I2 := I1.pins_of (pins' := [(h1.objs.size, kxs_mw "ValueError.__init__" a)]) fun p hp => by
      cases List.mem_singleton.mp (show p ∈ [(h1.objs.size, kxs_mw "ValueError.__init__" a)] from hp)
      refine ⟨Heap.get?_push_at rfl rfl, Ih.hok.fresh (Nat.le_refl _), fun z => ?_, fun z => ?_, fun v => nofun⟩
      · obtain ⟨_, ⟨ob, _, _, hob, _⟩, _⟩ := Ih.loc
        exact absurd (Heap.lt_size hob) (by rw [show h1.objs.size = _ from z]; exact Nat.lt_irrefl _)
      · obtain ⟨_, x, hx, _⟩ := e0.funs.mem z
        exact absurd (Heap.lt_size (kp01 _ _ hx)) (Nat.lt_irrefl _)
    refine kxs_callWith (i := "ValueError.__init__") (x := a) ?plain ?args
    case plain => rw [hst]; rfl
    case args =>
      obtain ⟨te, pe, ke⟩ := ha A below ⟨hp', g, d, tk, os⟩ H XE0 hg (room.mono (Nat.le_succ k))
      have PAr := pa_cons pe pa_nil (hst _)
      have rel0 : Rel K (List.replicate (L2.start N (V.ref a :: ws)).length none) (.no :: ds.map .val) G (L2.start N (V.ref a :: ws)) H := by
        have hst2 : L2.start N (V.ref a :: ws) = (V.ref a :: ws).map some := by
          unfold L2.start
          rw [hl, Nat.sub_self]
          simp
        have lw := rds.length
        refine ⟨exG, by rw [hst2]; simp [lw], by simp, fun i c e => ?_, fun i c e => ?_, fun b z => ?_, fun i j b z => ?_, fun i b z => ?_⟩
        · cases i with
          | zero => cases e
          | succ i =>
            rw [List.getElem?_cons_succ, List.getElem?_map] at e
            cases q : ds[i]? with
            | none =>
              rw [q] at e
              cases e
            | some c' =>
              rw [q] at e
              cases e
              obtain ⟨v, hv, rv'⟩ := rds.get q
              refine ⟨v, ?_, rv'⟩
              rw [hst2, List.map_cons, List.getElem?_cons_succ, List.getElem?_map, hv]
              rfl
        · cases i with
          | zero => cases e
          | succ i =>
            rw [List.getElem?_cons_succ, List.getElem?_map] at e
            cases q : ds[i]? <;> rw [q] at e <;> cases e
        · exact nomatch (List.mem_replicate.mp z).2
        · exact nomatch (List.mem_replicate.mp (List.mem_of_getElem? z)).2
        · exact nomatch (List.mem_replicate.mp (List.mem_of_getElem? z)).2
      have run := PAr.run p4 _ _ _ H (fun vs H1 => ∃ v G1, vs = [v] ∧ Adv [] G H G1 H1 ∧ Rel K (List.replicate (L2.start N (V.ref a :: ws)).length none) e1 G1 (L2.start N (V.ref a :: ws)) H1) I2 (ke _ _ G _ H _ rel0 (by
        rw [hm]
        exact fun G1 H1 ad rl v _ => ⟨v, G1, rfl, ⟨ad.g, ad.new, (fun b o _ => ad.fr b o (fun z => nomatch (List.mem_replicate.mp z).2)), ad.th⟩, rl⟩))
      rw [hst] at run ⊢
      refine Calls.evalArgs_plain (thn run fun us3 s3 hs3 => ?_)
      obtain ⟨vs3, H3, I3, r3, v3, G3, rfl, ad, rl3⟩ := hs3
      have hp3 := I3.pin (h1.objs.size, kxs_mw "ValueError.__init__" a) (by simp)
      have hA3 : H3 a = some (exo a C none) := ad.fr a _ (by simp) hHa
      have hG3 : G3 a = none := by
        cases q : G3 a with
        | none => rfl
        | some o =>
          rcases ad.new a o q with z | z
          · rw [hGa] at z
            cases z
          · rw [hHa] at z
            cases z
      obtain ⟨t3, ho3⟩ := exo_at I3.hok hA3
      refine ⟨hp3.1, ?_⟩
      obtain ⟨h3, g3, d3, tk3, os3⟩ := s3
      obtain ⟨u3, rfl, ru3⟩ := vals1 r3
      refine err_callbw (I3.kIn _ _ hC) hbm ho3 hp3.1 (by show 1 ≤ sizeLine; rw [sizeLine_eq]; omega) fun h4 t4 kp4 he4 => ?_
      have I4 := I3.write (t' := tk3) (x := a) (e := a) (o := exo a C none) (by rw [hA3]; exact True.intro) (.inl rfl) kp4 ⟨_, he4⟩ (exo_ok he4)
      have eu : upd H3 a (exo a C none) = H3 := by
        funext b
        by_cases hb : b = a
        · rw [hb, upd_same, hA3]
        · rw [upd_ne hb]
      rw [eu] at I4
      obtain ⟨t5, p5', k5⟩ := sets_run (C0 := C) (hr A below ⟨hp', g, d, tk, os⟩ H XE0) O no
      refine wpAt_of_wpAny (thn (p5'.run _ _ _ H3 ⟨fun _ H' => Q .non H', fun _ _ => False, fun _ _ => False, fun _ _ => False⟩ I4 (k5 _ _ H3 H3 G3 a e1 [] fsD [] ?_ (fun i c hi => rl3.val i c hi) hA3 (.inl ⟨rfl, rfl⟩) rfl her (by simp; omega) fun us' H5 hx hlen hrf => ?_)) fun fl s6 hs6 => ?_)
      · rfl
      · rcases hx with ⟨rfl, _⟩ | ⟨dx, n1, n2, rfl⟩
        · refine absurd ?_ hne
          cases fs with
          | nil => rfl
          | cons f fs => cases hlen
        · exact fin G3 H3 dx us' ad rl3.ex hG3 hA3 n1 n2 hrf
      · cases fl with
        | next =>
          obtain ⟨σ6, H6, J6, q6⟩ := hs6
          exact ⟨.non, H6, J6.os, J6.bare, J6.base, J6.hok, rfl, q6⟩
        | ret u =>
          obtain ⟨_, _, _, _, _, z⟩ := hs6
          exact z.elim
        | brk =>
          obtain ⟨_, _, _, z⟩ := hs6
          exact z.elim
        | cont =>
          obtain ⟨_, _, _, z⟩ := hs6
          exact z.elim
end Mini
set_option maxHeartbeats 4000000
/-! Mini, part 20: an error made, with or without keywords, as a value. -/
namespace Mini
open PySem PySem.Spec PyProof.Rows L2 PySem.W PySem.HandSPX
section
variable {M : Model} {prog : Program} {w : World} {A : Around} {E : Value → Shared → Prop} {R : Result → Shared → Prop} {h : Heap} {g : Array GenState} {d : Drawn} {t : Nat} {os : OsState}
variable {nm q : Str} {C N : Addr} {bs bm bmB : List Value} {hdct : Bool} {sn : List Str} {sub : List Value} {ab : Bool} {col : Option Bool} {dd : Option Addr} {k0 k1 k2 k3 k5 : Option Value} {B newId initId : String} {us : List Value} {kws : List (Str × Value)} {fI : Addr}
theorem ek_check (F : ExcBaseFacts B newId initId bmB) (hT : ∀ X : String, bm.contains (.type X) = bmB.contains (.type X)) {Q : Unit → Shared → Prop} (hC : h.get? C = some (excClassObj nm q C N bs bm hdct sn sub ab col dd k0 k1 k2 k3 k5 newId)) (hq : Q () ⟨h, g, d, t, os⟩) :
    wpAny M A (checkBuiltinCall newId ⟨.ref C :: us, kws⟩) Q E ⟨h, g, d, t, os⟩ := by
  have c1 : (Value.ref C :: bm).contains (.type B) = true := by
    rw [List.contains_cons, hT, F.hasB, Bool.or_true]
  have c2 := F.noStar
  simp only [checkBuiltinCall, F.newKind, F.newSplit, F.newRow]
  repeat (first
    | refine wpAny_loadPart_at hC ?_
    | (refine wpAny_isSubtype_exc hC ?_; rw [c1])
    | refine wpAny_staticBase_exc hC ?_
    | refine wpAny_madeBy_exc hC ?_
    | simp only [bne_self_eq_false, Bool.false_eq_true, if_false]
    | wp_step)
  exact hq
theorem ek_new (F : ExcBaseFacts B newId initId bmB) (hT : ∀ X : String, bm.contains (.type X) = bmB.contains (.type X)) (hC : h.get? C = some (excClassObj nm q C N bs bm hdct sn sub ab col dd k0 k1 k2 k3 k5 newId))
    (hq : R (.ok (.ret (.ref (h.objs.size + 1)))) ⟨(h.push (kdv_tup us)).push (excO C h.objs.size), g, d, t, os⟩) (hus : us.length ≤ sizeLine) : codeAny (model prog w) A (.builtin newId ⟨.ref C :: us, kws⟩) R ⟨h, g, d, t, os⟩ := by
  have c0 := F.ends
  have c1 : (Value.ref C :: bm).contains (.type B) = true := by
    rw [List.contains_cons, hT, F.hasB, Bool.or_true]
  have c2 : (Value.ref C :: bm).contains (.type "AttributeError") = false := by
    rw [List.contains_cons, hT, F.noAttr]
    rfl
  have c3 : (Value.ref C :: bm).contains (.type "NameError") = false := by
    rw [List.contains_cons, hT, F.noName]
    rfl
  refine codeAny_builtinAt F.entry ?_
  unfold Builtin.«BaseException.__new__»
  refine PySem.wpAt_bind ?_
  show PySem.wpAt _ _ _ (stack >>= _) _ _ _
  refine PySem.wpAt_bind (PySem.wpAt_stack fun p below => PySem.wpAt_of_wpAny ?_)
  wp_walk
  refine PySem.wpAt_of_wpAny ?_
  rw [F.owner]
  repeat (first
    | with_reducible refine wpAny_madeHere_exc F.canon hC ?_
    | with_reducible refine wpAny_loadPart_at hC ?_
    | (with_reducible refine wpAny_isSubtype_exc hC ?_; first | rw [c1] | rw [c2] | rw [c3])
    | wp_step)
  show R _ _
  rw [Heap.size_push]
  exact hq
theorem ek_type (F : ExcBaseFacts B newId initId bmB) (hT : ∀ X : String, bm.contains (.type X) = bmB.contains (.type X)) {Q : Fin → Shared → Prop} (hC : h.get? C = some (excClassObj nm q C N bs bm hdct sn sub ab col dd k0 k1 k2 k3 k5 newId))
    (hi : Looks (model prog w) h (typeLookup (.ref C) "__init__") (some (.ref fI))) (hb : ∀ self, Looks (model prog w) h (bindSpecial (.ref fI) self) (.ref fI, [self])) (hus : us.length ≤ sizeLine)
    (hq : codeAny (model prog w) A (.call (.ref fI) ⟨.ref (h.objs.size + 1) :: us, kws⟩) (fun r s' => match r with
      | .ok (.ret v) => v = .none ∧ Q (.done (.ret (.ref (h.objs.size + 1)))) s'
      | .ok _ => False
      | .error e => E e s') ⟨(h.push (kdv_tup us)).push (excO C h.objs.size), g, d, t, os⟩) :
    wpAny (model prog w) A (Builtin.«type.__call__» ⟨.ref C :: us, kws⟩) Q E ⟨h, g, d, t, os⟩ := by
  repeat (first
    | with_reducible refine wpAny_loadPart_at hC ?_
    | with_reducible refine wpAny_madeBy_exc hC ?_
    | wp_step)
  refine codeAny_call_builtin_code (Code.quiet_builtin _ F.quiet) (ek_check F hT hC (ek_new F hT hC ?_ hus))
  show wpAny _ _ _ _ _ _
  have kp : ∀ b o, h.get? b = some o → ((h.push (kdv_tup us)).push (excO C h.objs.size)).get? b = some o := fun b o e => Heap.get?_push_of_some _ (Heap.get?_push_of_some _ e)
  have hC2 := kp _ _ hC
  have hnew : ((h.push (kdv_tup us)).push (excO C h.objs.size)).get? (h.objs.size + 1) = some (excO C h.objs.size) := by heap_get
  have cC : (Value.ref C :: bm).contains (.ref C) = true := by simp
  have i2 := hi.keeps kp
  have b2 := (hb (.ref (h.objs.size + 1))).keeps kp
  unfold isInstance
  repeat (first
    | with_reducible refine wpAny_loadPart_at hnew ?_
    | (with_reducible refine wpAny_isSubtype_exc hC2 ?_; rw [cC])
    | wp_step)
  show wpAny _ _ (typeLookup (.ref C) _) _ _ _
  refine i2.at (wpAny_holding (wpAny_bind (b2.at (wpAny_bind (wpAny_call (codeAny_mono hq fun r s' z => ?_))))))
  cases r with
  | error e => exact z
  | ok fl => cases fl with
    | ret v =>
      obtain ⟨rfl, z⟩ := z
      first
        | exact wpAny_pure (wpAny_pure z)
        | (wp_walk; exact z)
    | next => exact z.elim
    | brk => exact z.elim
    | cont => exact z.elim
theorem ek_call (F : ExcBaseFacts B newId initId bmB) (hT : ∀ X : String, bm.contains (.type X) = bmB.contains (.type X)) (hC : h.get? C = some (excClassObj nm q C N bs bm hdct sn sub ab col dd k0 k1 k2 k3 k5 newId))
    (hi : Looks (model prog w) h (typeLookup (.ref C) "__init__") (some (.ref fI))) (hb : ∀ self, Looks (model prog w) h (bindSpecial (.ref fI) self) (.ref fI, [self])) (hus : us.length ≤ sizeLine)
    (hq : codeAny (model prog w) (A.under (.builtin "type.__call__" ⟨.ref C :: us, kws⟩)) (.call (.ref fI) ⟨.ref (h.objs.size + 1) :: us, kws⟩) (InitBack (h.objs.size + 1) R) ⟨(h.push (kdv_tup us)).push (excO C h.objs.size), g, d, t, os⟩) :
    codeAny (model prog w) A (.call (.ref C) ⟨us, kws⟩) R ⟨h, g, d, t, os⟩ := by
  have f1 := tc_lookup
  have f2 := tc_bind (.ref C)
  have ty : (⟨h, g, d, t, os⟩ : Shared).TypeIs (.ref C) "type" := ⟨_, hC, rfl⟩
  refine codeAny_of_tree ?_
  show wpAny _ _ (callAny (.ref C) _) _ _ _
  repeat (any_goals (first | assumption | with_reducible refine wpAny_loadPart_at hC ?_ | wp_step))
  refine ⟨rfl, codeAny_call_builtin_at (Code.quiet_builtin _ (by decide +kernel)) entry_typeCall (wpAny_check_type_call_sub hC (ek_type F hT hC hi hb hus (codeAny_mono hq fun r s' z => ?_)))⟩
  cases r with
  | error e => exact z
  | ok fl => cases fl <;> exact z
end
end Mini
set_option maxHeartbeats 1000000
/-! Mini, part 21: C(..), C an error's class, as a value. -/
namespace Mini
open PySem PySem.Spec PyProof.Rows L2 PySem.W PySem.HandSPX
/-- some of a list's parts, by their indices -/
def sel {α : Type} (ix : List Nat) (l : List α) : List α := ix.filterMap fun i => l[i]?
theorem vals_sel {vs : List V} {us : List Value} (h : Vals vs us) : ∀ ix : List Nat, Vals (sel ix vs) (sel ix us)
  | [] => .nil
  | i :: ix => by
    have ih := vals_sel h ix
    unfold sel at ih ⊢
    rw [List.filterMap_cons, List.filterMap_cons]
    have hl := Paired.length h
    cases q : vs[i]? with
    | none =>
      have : us[i]? = none := by
        rw [List.getElem?_eq_none_iff] at q ⊢
        omega
      rw [this]
      exact ih
    | some v =>
      obtain ⟨u, hu, r⟩ := h.get q
      rw [hu]
      exact .cons r ih
theorem reps_sel {K : Frag} {G : Hp} {ds : List D} {vs : List V} (h : Reps K G ds vs) : ∀ ix : List Nat, Reps K G (sel ix ds) (sel ix vs)
  | [] => rfl
  | i :: ix => by
    have ih := reps_sel h ix
    unfold sel at ih ⊢
    rw [List.filterMap_cons, List.filterMap_cons]
    have hl := h.length
    cases q : ds[i]? with
    | none =>
      have : vs[i]? = none := by
        rw [List.getElem?_eq_none_iff] at q ⊢
        omega
      rw [this]
      exact ih
    | some d =>
      obtain ⟨v, hv, r⟩ := h.get q
      rw [hv]
      exact ⟨v, _, rfl, r, ih⟩
theorem guards_make {A : Around} {C : Addr} {us : List Value} {kw : List (Str × Value)} (h : A.guards = some []) : (A.under (.builtin "type.__call__" ⟨.ref C :: us, kw⟩)).guards = some [] := by
  have z : (Code.builtin "type.__call__" ⟨.ref C :: us, kw⟩).isGuard = false := by
    show guardIds.contains "type.__call__" = false
    decide +kernel
  show pushGuards (Code.builtin "type.__call__" ⟨.ref C :: us, kw⟩).guards A.guards = some []
  unfold Code.guards
  rw [z, h]
  rfl
section
variable {X : Cx} {W : WX} {k : Nat} {C fI : Addr} {fd : FuncData} {ps : List Str} {eR : List D → Option (List (Str × D))}
/-- what C(..) reads: the arguments in the parameters' order -/
def tErr (K : Frag) (C : Addr) (np : Nat) (eR : List D → Option (List (Str × D))) (t : TA) : TE := fun σ H Q => t σ H fun vs H1 => vs.length ≤ 1000 ∧ ∀ a, H1 a = none → spErr K C np eR (.ref a :: vs) (upd H1 a (exo a C none)) (fun v H2 => v = .non ∧ Q (.ref a) H2) (fun _ _ _ => False)
theorem run_err {pins : List (Addr × Obj)} {σ : L2.St} {H1 : Hp} {s1 : Shared} {Q : VK} {us us' : List Value} {kws : List (Str × Value)} {vs : List V} (T : OexC X.K C) (iC : findIn X.K (.ref C) "__init__" = some (some (.ref fI))) (tI : typeIn X.K (.ref fI) = some (.type "function"))
    (F1 : FnG X.prog X.w X.K X.mg X.base k fI fd ps (spErr X.K C ps.length eR)) (hg : X.A.guards = some []) (hr : Room (k + 1) X.A) (hb : ∀ (s : Shared) (e : Value), BindsTo s fd ⟨e :: us, kws⟩ (ps.zip (e :: us'))) (I1 : Inv X pins σ H1 s1) (rv : Vals vs us') (hus : us.length ≤ sizeLine)
    (h : ∀ a, H1 a = none → spErr X.K C ps.length eR (.ref a :: vs) (upd H1 a (exo a C none)) (fun v H2 => v = .non ∧ Q (.ref a) H2) (fun _ _ _ => False)) : wpAny (model X.prog X.w) X.A (call (.ref C) us kws) (EP X pins σ Q) X.xe s1 := by
  obtain ⟨nm, q, N, bs, bm, sn, sub, ab, col, dd, k0, k1, k2, k3, k5, hC, hbm⟩ := T.cls
  obtain ⟨hp, g, dr, tk, os⟩ := s1
  have hsz : hp.objs.size ≤ hp.objs.size + 1 := Nat.le_succ _
  have hn : H1 (hp.objs.size + 1) = none := I1.hok.fresh hsz
  have hq := h (hp.objs.size + 1) hn
  have kp : ∀ b o, hp.get? b = some o → ((hp.push (kdv_tup us)).push (excO C hp.objs.size)).get? b = some o := fun b o e => Heap.get?_push_of_some _ (Heap.get?_push_of_some _ e)
  have hget : ((hp.push (kdv_tup us)).push (excO C hp.objs.size)).get? (hp.objs.size + 1) = some (excO C hp.objs.size) := by heap_get
  have I2 : Inv X pins σ (upd H1 (hp.objs.size + 1) (exo (hp.objs.size + 1) C none)) ⟨(hp.push (kdv_tup us)).push (excO C hp.objs.size), g, dr, tk, os⟩ := I1.laid (t' := tk) (a := hp.objs.size + 1) (o := exo (hp.objs.size + 1) C none) (h' := (hp.push (kdv_tup us)).push (excO C hp.objs.size)) kp hsz (exo_ok hget)
  refine wpAny_call (ek_call F.excBase_ValueError (fun Y => refsVE_contains Y bm hbm) (I1.kIn _ _ hC) (looks_findIn I1.kIn iC) (fun self => bind_fn I1.kIn self tI) hus
    (codeAny_mono (F1.run _ X.stack _ _ ⟨Value.ref (hp.objs.size + 1) :: us, kws⟩ (Value.ref (hp.objs.size + 1) :: us') _ _ (fun _ _ _ => False) (guards_make hg) (hr.make C us kws) (I2.env0.make C us kws) (hb _ _) (show Vals (V.ref (hp.objs.size + 1) :: vs) (Value.ref (hp.objs.size + 1) :: us') from .cons rfl rv) hq) fun r s' z => ?_))
  cases r with
  | error er =>
    obtain ⟨_, _, _, _, _, _, _, _, _, _, _, _, z⟩ := z
    exact z.elim
  | ok fl => cases fl with
    | ret u =>
      obtain ⟨v, H2, I3, rv', ev, q3⟩ := I2.after z
      subst ev
      exact ⟨rv', ⟨V.ref (hp.objs.size + 1), H2, I3, rfl, q3⟩⟩
    | next => exact z.elim
    | brk => exact z.elim
    | cont => exact z.elim
/-- C(e, ..) -/
theorem pe_err {x : Str} {p pos : Pos} {e : Expr} {es : List Expr} {t : TA} (T : OexC X.K C) (iC : findIn X.K (.ref C) "__init__" = some (some (.ref fI))) (tI : typeIn X.K (.ref fI) = some (.type "function"))
    (F1 : FnG X.prog X.w X.K X.mg X.base k fI fd ps (spErr X.K C ps.length eR)) (hgu : X.A.guards = some []) (hr : Room (k + 1) X.A) (hb : ∀ (s : Shared) (us : List Value), us.length = ps.length → BindsTo s fd ⟨us, []⟩ (ps.zip us)) (hg : Gl X x) (hm : X.mg x = some (.ref C)) (ha : PA X (e :: es) t)
    (hdb : (x == ("__debug__" : Str)) = false) (he : starEach (e :: es) X.env = (false, eval e X.env) :: starEach es X.env) (hpl : (backTo pos (starEach es X.env)).any (·.1) = false) : PE X (.Call (.Name x p) (e :: es) [] pos) (tErr X.K C ps.length eR t) := by
  refine ⟨fun pins s σ H Q I h => wpAny_Call_Name_kw (ld_glob I hg hm ?_ hdb)⟩
  refine callWith_K (h₀ := X.base) I.ok.mod.kin T.kC (thn (ha.run pos pins s σ H _ I h) fun us s1 ⟨vs, H1, I1, r, hz, q⟩ => ⟨I1.kIn, ?_⟩) he hpl
  have hl := Paired.length r
  exact run_err T iC tI F1 hgu hr (fun s e => hb s (e :: us) (by
    have z := F1.len _ _ _ _ (q _ (I1.hok.fresh (Nat.le_refl _)))
    simp only [List.length_cons] at z ⊢
    omega)) I1 r (by show us.length ≤ sizeLine; rw [← hl, sizeLine_eq]; omega) q
/-- C(k = e, ..) -/
def tErrK (K : Frag) (C : Addr) (np : Nat) (eR : List D → Option (List (Str × D))) (ix : List Nat) (t : TA) : TE := fun σ H Q => t σ H fun vs H1 => vs.length = ix.length ∧ ∀ a, H1 a = none → spErr K C np eR (.ref a :: sel ix vs) (upd H1 a (exo a C none)) (fun v H2 => v = .non ∧ Q (.ref a) H2) (fun _ _ _ => False)
theorem pe_errK {x : Str} {p pos : Pos} {kws : List Keyword} {ks : List Str} {ix : List Nat} {t : TA} (T : OexC X.K C) (iC : findIn X.K (.ref C) "__init__" = some (some (.ref fI))) (tI : typeIn X.K (.ref fI) = some (.type "function"))
    (F1 : FnG X.prog X.w X.K X.mg X.base k fI fd ps (spErr X.K C ps.length eR)) (hgu : X.A.guards = some []) (hr : Room (k + 1) X.A) (hb : ∀ (s : Shared) (e : Value) (ws : List Value), ws.length = ix.length → BindsTo s fd ⟨[e], ks.zip ws⟩ (ps.zip (e :: sel ix ws))) (hg : Gl X x) (hm : X.mg x = some (.ref C)) (ha : PK X kws t)
    (hdb : (x == ("__debug__" : Str)) = false) (hall : (backToKw pos (keywordEach kws X.env)).all (·.1.isSome) = true) (hks : (backToKw pos (keywordEach kws X.env)).filterMap (·.1) = ks)
    (hpl : ((backTo pos (starEach [] X.env)).any (·.1) || (backToKw pos (keywordEach kws X.env)).any (·.1.isNone)) = false) : PE X (.Call (.Name x p) [] kws pos) (tErrK X.K C ps.length eR ix t) := by
  refine ⟨fun pins s σ H Q I h => wpAny_Call_Name_kw (ld_glob I hg hm ?_ hdb)⟩
  refine callWith_KW0 (h₀ := X.base) I.ok.mod.kin T.kC hall (thn (ha.run pos pins s σ H _ I h) fun us s1 ⟨vs, H1, I1, r, hz, q⟩ => ⟨I1.kIn, ?_⟩) hpl
  rw [hks]
  have hl := Paired.length r
  exact run_err (us := []) T iC tI F1 hgu hr (fun s e => hb s e us (by omega)) I1 (vals_sel r ix) (Nat.zero_le _) q
/-- an error by data: its class, its fields -/
def errM (c : Str) (eR : List D → Option (List (Str × D))) (g : List D → List D) (ms : M (List D)) : M D := fun e => (ms e).bind fun ds e1 => if ds.length ≤ 1000 then (match eR (g ds) with
  | some fs => .ok (.exc c fs) e1
  | none => .stuck) else .stuck
/-- the new error, told to whoever goes on -/
theorem err_reads {c : Str} {A : List (Option Addr)} {env : En} {G H : Hp} {σ : L2.St} {ds : List D} {vs : List V} {fs : List (Str × D)} {np : Nat} {Q : VK} (rl : Rel X.K A env G σ H) (rv : Reps X.K G ds vs) (hl : vs.length + 1 = np) (e : eR ds = some fs)
    (h : Post X.K A G σ H W (.ok (.exc c fs) env) fun d _ G' H' => ∀ v, Rep X.K G' d v → Q v H') : ∀ a, H a = none → spErr X.K (He.ga X.K c) np eR (.ref a :: vs) (upd H a (exo a (He.ga X.K c) none)) (fun v H2 => v = .non ∧ Q (.ref a) H2) (fun _ _ _ => False) := by
  intro a hn
  have hG : G a = none := rl.ex.free hn
  have hA : some a ∉ A := fun z => (rl.off a z).2 hn
  refine ⟨hl, a, vs, ds, G, fs, rfl, fun b o q => ?_, hG, upd_same, rv, e, fun G1 H1 dx us ad ex1 g1 h1 n1 ne rf => ⟨rfl, ?_⟩⟩
  · rw [upd_ne (ne_of_none q hG)]
    exact rl.ex b o q
  · have n2 : G1 dx = none := ex1.free n1
    have old : ∀ b, b ≠ a → upd H a (exo a (He.ga X.K c) none) b = H b := fun b hb => upd_ne hb
    have hdx : H dx = none := by
      have z := ad.th dx n1
      rw [old dx ne] at z
      exact z
    have s1 : Same G1 (upd (upd G1 dx (exd dx us)) a (exo a (He.ga X.K c) (some dx))) := (same_upd n2).trans (same_upd (by rw [upd_ne (Ne.symm ne)]; exact g1))
    have adv : Adv A G H (upd (upd G1 dx (exd dx us)) a (exo a (He.ga X.K c) (some dx))) (upd (upd H1 dx (exd dx us)) a (exo a (He.ga X.K c) (some dx))) := by
      refine ⟨ad.g.trans s1, fun b o q => ?_, fun b o nb q => ?_, fun b q => ?_⟩
      · by_cases hb : b = a
        · exact .inr (hb ▸ hn)
        · rw [upd_ne hb] at q
          by_cases hd : b = dx
          · exact .inr (hd ▸ hdx)
          · rw [upd_ne hd] at q
            rcases ad.new b o q with z | z
            · exact .inl z
            · rw [old b hb] at z
              exact .inr z
      · have hb : b ≠ a := ne_of_none q hn
        have hd : b ≠ dx := ne_of_none q hdx
        rw [upd_ne hb, upd_ne hd]
        exact ad.fr b o (by simp) (by rw [old b hb]; exact q)
      · by_cases hb : b = a
        · exact hb ▸ hn
        · rw [upd_ne hb] at q
          by_cases hd : b = dx
          · exact hd ▸ hdx
          · rw [upd_ne hd] at q
            have z := ad.th b q
            rw [old b hb] at z
            exact z
    have ex2 : Same (upd (upd G1 dx (exd dx us)) a (exo a (He.ga X.K c) (some dx))) (upd (upd H1 dx (exd dx us)) a (exo a (He.ga X.K c) (some dx))) := same_upds (same_upds ex1)
    have rl2 := rl.step adv ex2 fun b o hb q => by
      have hba : b ≠ a := fun z => hA (z ▸ hb)
      have hbd : b ≠ dx := fun z => (rl.off b hb).2 (z ▸ hdx)
      rw [upd_ne hba, upd_ne hbd]
      exact ad.fr b o (by simp) (by rw [old b hba]; exact q)
    refine h _ _ adv rl2 (.ref a) ⟨a, some dx, us, rfl, upd_same, .inr ⟨dx, rfl, ?_⟩, rf.mono s1⟩
    rw [upd_ne ne, upd_same]
theorem se_err {c x : Str} {p pos : Pos} {e : Expr} {es : List Expr} {ms : M (List D)} (T : OexC X.K (He.ga X.K c)) (iC : findIn X.K (.ref (He.ga X.K c)) "__init__" = some (some (.ref fI))) (tI : typeIn X.K (.ref fI) = some (.type "function"))
    (F1 : FnG X.prog X.w X.K X.mg X.base k fI fd ps (spErr X.K (He.ga X.K c) ps.length eR)) (hgu : X.A.guards = some []) (hr : Room (k + 1) X.A) (hb : ∀ (s : Shared) (us : List Value), us.length = ps.length → BindsTo s fd ⟨us, []⟩ (ps.zip us)) (hg : Gl X x) (hm : X.mg x = some (.ref (He.ga X.K c))) (ha : SA X W (e :: es) ms)
    (hdb : (x == ("__debug__" : Str)) = false) (he : starEach (e :: es) X.env = (false, eval e X.env) :: starEach es X.env) (hpl : (backTo pos (starEach es X.env)).any (·.1) = false) (hz : ∀ ds fs, eR ds = some fs → ds.length + 1 = ps.length) : SE X W (.Call (.Name x p) (e :: es) [] pos) (errM c eR id ms) := by
  obtain ⟨t, pt, kt⟩ := ha
  refine ⟨_, pe_err T iC tI F1 hgu hr hb hg hm pt hdb he hpl, fun A env G σ H Q rl h => ?_⟩
  refine kt A env G σ H _ rl (Post.mono (Post.bind h) fun ds e1 G1 H1 ad rl1 z vs rv => ?_)
  have hl := rv.length
  split at z
  · rename_i hle
    cases q : eR (id ds) with
    | none =>
      rw [q] at z
      exact z.elim
    | some fs =>
      rw [q] at z
      exact ⟨by omega, err_reads rl1 rv (by have := hz _ _ q; simp only [id] at this; omega) q z⟩
  · exact z.elim
/-- keywords' values -/
def SK (X : Cx) (W : WX) (kws : List Keyword) (m : M (List D)) : Prop := ∃ t, PK X kws t ∧ ∀ A env G σ H (Q : List V → Hp → Prop), Rel X.K A env G σ H →
  Post X.K A G σ H W (m env) (fun ds _ G' H' => ∀ vs, Reps X.K G' ds vs → Q vs H') → t σ H Q
theorem sk_nil : SK X W [] (ret []) := ⟨_, pk_nil, fun A env G σ H Q rl h => Post.here h rl [] rfl⟩
theorem sk_cons {nm : Option Str} {e : Expr} {kp : Pos} {kws : List Keyword} {m : M D} {ms : M (List D)} (h : SE X W e m) (hs : SK X W kws ms) : SK X W (⟨nm, e, kp⟩ :: kws) (consM m ms) := by
  obtain ⟨t, p, k⟩ := h
  obtain ⟨u, q, l⟩ := hs
  refine ⟨_, pk_cons p q, fun A env G σ H Q rl h => ?_⟩
  refine k A env G σ H _ rl (Post.mono (Post.bind h) fun d e1 G1 H1 ad rl1 z v rv => ?_)
  refine l A e1 G1 σ H1 _ rl1 (Post.mono (Post.bind z) fun ds e2 G2 H2 ad2 rl2 z2 vs rvs => ?_)
  exact Post.here z2 rl2 _ ⟨v, vs, rfl, rv.mono ad2.g, rvs⟩
theorem sel_len {α : Type} {ix : List Nat} {l : List α} (h : ∀ i ∈ ix, i < l.length) : (sel ix l).length = ix.length := by
  induction ix with
  | nil => rfl
  | cons i ix ih =>
    unfold sel at ih ⊢
    rw [List.filterMap_cons, List.getElem?_eq_getElem (h i (List.mem_cons_self ..))]
    exact congrArg Nat.succ (ih fun j hj => h j (List.mem_cons_of_mem _ hj))
theorem se_errK {c x : Str} {p pos : Pos} {kws : List Keyword} {ks : List Str} {ix : List Nat} {ms : M (List D)} (T : OexC X.K (He.ga X.K c)) (iC : findIn X.K (.ref (He.ga X.K c)) "__init__" = some (some (.ref fI))) (tI : typeIn X.K (.ref fI) = some (.type "function"))
    (F1 : FnG X.prog X.w X.K X.mg X.base k fI fd ps (spErr X.K (He.ga X.K c) ps.length eR)) (hgu : X.A.guards = some []) (hr : Room (k + 1) X.A) (hb : ∀ (s : Shared) (e : Value) (ws : List Value), ws.length = ix.length → BindsTo s fd ⟨[e], ks.zip ws⟩ (ps.zip (e :: sel ix ws))) (hg : Gl X x) (hm : X.mg x = some (.ref (He.ga X.K c))) (ha : SK X W kws ms)
    (hdb : (x == ("__debug__" : Str)) = false) (hall : (backToKw pos (keywordEach kws X.env)).all (·.1.isSome) = true) (hks : (backToKw pos (keywordEach kws X.env)).filterMap (·.1) = ks)
    (hpl : ((backTo pos (starEach [] X.env)).any (·.1) || (backToKw pos (keywordEach kws X.env)).any (·.1.isNone)) = false) (hz : ∀ ds fs, eR ds = some fs → ds.length + 1 = ps.length) (hix : ix.length + 1 = ps.length) (hn : ∀ env ds e1, ms env = .ok ds e1 → ds.length = ix.length) : SE X W (.Call (.Name x p) [] kws pos) (errM c eR (sel ix) ms) := by
  obtain ⟨t, pt, kt⟩ := ha
  refine ⟨_, pe_errK T iC tI F1 hgu hr hb hg hm pt hdb hall hks hpl, fun A env G σ H Q rl h => kt A env G σ H _ rl ?_⟩
  unfold errM at h
  cases q0 : ms env with
  | ok ds e1 =>
    rw [q0] at h
    intro G1 H1 ad rl1 vs rv
    simp only [R.bind_ok] at h
    have z := Post.from ad h
    have hl := rv.length
    have hd := hn _ _ _ q0
    split at z
    · rename_i hle
      cases q : eR (sel ix ds) with
      | none =>
        rw [q] at z
        exact z.elim
      | some fs =>
        rw [q] at z
        have hs := reps_sel rv ix
        exact ⟨by omega, err_reads rl1 hs (by have := hz _ _ q; have := hs.length; omega) q z⟩
    · exact z.elim
  | err x e1 =>
    rw [q0] at h
    exact h
  | stuck =>
    rw [q0] at h
    exact h
end
end Mini
set_option maxHeartbeats 1000000
/-! Mini, part 14: a dict beside another kind: == is False. -/
namespace Mini
open PySem PySem.Spec PyProof.Rows L2
/-- a dict stands at l -/
def DictAt (h : Heap) (l : Addr) : Prop := ∃ es n sl, h.get? l = some { cls := .type "dict", dict := none, data := .dict es n, slots := sl }
section
variable {prog : Program} {w : World} {M : Model} {A : Around} {E : Value → Shared → Prop} {s : Shared}
abbrev dOb (es : Array DictEntry) (n : Nat) (sl : Array (Option Value)) : Obj := { cls := .type "dict", dict := none, data := .dict es n, slots := sl }
theorem dict_dec_none (l : Addr) (es : Array DictEntry) (n : Nat) (sl : Array (Option Value)) :
    Meets (Builtin.«dict.__eq__» ⟨[.ref l, .none], []⟩) (fun _ R s => s.heap.get? l = some (dOb es n sl) ∧ R (.ok (.ret .notImplemented)) s) :=
  .of_wp fun prog w A R s h => by
    obtain ⟨hp, g, d, tk, os⟩ := s
    obtain ⟨hl, h⟩ := h
    have f1 : isSubtype (.type "NoneType") (.type "dict") = pure false := by rw [isSubtype_type]; kernel_rfl
    wp_walk using wpAny_loadPart' hl
    exact ⟨_, rfl, h⟩
theorem dict_dec_bool (l : Addr) (es : Array DictEntry) (n : Nat) (sl : Array (Option Value)) (b : Bool) :
    Meets (Builtin.«dict.__eq__» ⟨[.ref l, .bool b], []⟩) (fun _ R s => s.heap.get? l = some (dOb es n sl) ∧ R (.ok (.ret .notImplemented)) s) :=
  .of_wp fun prog w A R s h => by
    obtain ⟨hp, g, d, tk, os⟩ := s
    obtain ⟨hl, h⟩ := h
    have f1 : isSubtype (.type "bool") (.type "dict") = pure false := by rw [isSubtype_type]; kernel_rfl
    wp_walk using wpAny_loadPart' hl
    exact ⟨_, rfl, h⟩
theorem bool_dec_dict (l : Addr) (es : Array DictEntry) (n : Nat) (sl : Array (Option Value)) (b : Bool) :
    Meets (Builtin.«int.__eq__» ⟨[.bool b, .ref l], []⟩) (fun _ R s => s.heap.get? l = some (dOb es n sl) ∧ R (.ok (.ret .notImplemented)) s) :=
  .of_wp fun prog w A R s h => by
    obtain ⟨hp, g, d, tk, os⟩ := s
    obtain ⟨hl, h⟩ := h
    wp_walk using wpAny_loadPart' hl, wpAny_load hl
    exact ⟨_, rfl, h⟩
theorem dict_dec_int (l : Addr) (es : Array DictEntry) (n : Nat) (sl : Array (Option Value)) (b : Int) (u : Tok) :
    Meets (Builtin.«dict.__eq__» ⟨[.ref l, .int b u], []⟩) (fun _ R s => s.heap.get? l = some (dOb es n sl) ∧ R (.ok (.ret .notImplemented)) s) :=
  .of_wp fun prog w A R s h => by
    obtain ⟨hp, g, d, tk, os⟩ := s
    obtain ⟨hl, h⟩ := h
    have f1 : isSubtype (.type "int") (.type "dict") = pure false := by rw [isSubtype_type]; kernel_rfl
    wp_walk using wpAny_loadPart' hl
    exact ⟨_, rfl, h⟩
theorem int_dec_dict (l : Addr) (es : Array DictEntry) (n : Nat) (sl : Array (Option Value)) (b : Int) (u : Tok) :
    Meets (Builtin.«int.__eq__» ⟨[.int b u, .ref l], []⟩) (fun _ R s => s.heap.get? l = some (dOb es n sl) ∧ R (.ok (.ret .notImplemented)) s) :=
  .of_wp fun prog w A R s h => by
    obtain ⟨hp, g, d, tk, os⟩ := s
    obtain ⟨hl, h⟩ := h
    wp_walk using wpAny_loadPart' hl, wpAny_load hl
    exact ⟨_, rfl, h⟩
theorem dict_dec_str (l : Addr) (es : Array DictEntry) (n : Nat) (sl : Array (Option Value)) (b : Str) (u : Tok) :
    Meets (Builtin.«dict.__eq__» ⟨[.ref l, .str b u], []⟩) (fun _ R s => s.heap.get? l = some (dOb es n sl) ∧ R (.ok (.ret .notImplemented)) s) :=
  .of_wp fun prog w A R s h => by
    obtain ⟨hp, g, d, tk, os⟩ := s
    obtain ⟨hl, h⟩ := h
    have f1 : isSubtype (.type "str") (.type "dict") = pure false := by rw [isSubtype_type]; kernel_rfl
    wp_walk using wpAny_loadPart' hl
    exact ⟨_, rfl, h⟩
theorem str_dec_dict (l : Addr) (es : Array DictEntry) (n : Nat) (sl : Array (Option Value)) (b : Str) (u : Tok) :
    Meets (Builtin.«str.__eq__» ⟨[.str b u, .ref l], []⟩) (fun _ R s => s.heap.get? l = some (dOb es n sl) ∧ R (.ok (.ret .notImplemented)) s) :=
  .of_wp fun prog w A R s h => by
    obtain ⟨hp, g, d, tk, os⟩ := s
    obtain ⟨hl, h⟩ := h
    wp_walk using wpAny_loadPart' hl, wpAny_load hl
    exact ⟨_, rfl, h⟩
theorem dict_dec_list (l : Addr) (es : Array DictEntry) (n : Nat) (sl : Array (Option Value)) (b : Addr) (its : Array Value) (n2 : Nat) (dd : Option Addr) (sl2 : Array (Option Value)) :
    Meets (Builtin.«dict.__eq__» ⟨[.ref l, .ref b], []⟩) (fun _ R s => s.heap.get? l = some (dOb es n sl) ∧ s.heap.get? b = some { cls := .type "list", dict := dd, data := .seq its n2, slots := sl2 } ∧ R (.ok (.ret .notImplemented)) s) :=
  .of_wp fun prog w A R s h => by
    obtain ⟨hp, g, d, tk, os⟩ := s
    obtain ⟨hl, hb, h⟩ := h
    have f1 : isSubtype (.type "list") (.type "dict") = pure false := by rw [isSubtype_type]; kernel_rfl
    wp_walk using wpAny_loadPart' hl, wpAny_loadPart' hb
    exact ⟨_, rfl, h⟩
theorem list_dec_dict (l : Addr) (es : Array DictEntry) (n : Nat) (sl : Array (Option Value)) (b : Addr) (its : Array Value) (n2 : Nat) (dd : Option Addr) (sl2 : Array (Option Value)) :
    Meets (Builtin.«list.__eq__» ⟨[.ref b, .ref l], []⟩) (fun _ R s => s.heap.get? l = some (dOb es n sl) ∧ s.heap.get? b = some { cls := .type "list", dict := dd, data := .seq its n2, slots := sl2 } ∧ R (.ok (.ret .notImplemented)) s) :=
  .of_wp fun prog w A R s h => by
    obtain ⟨hp, g, d, tk, os⟩ := s
    obtain ⟨hl, hb, h⟩ := h
    have f1 : isSubtype (.type "dict") (.type "list") = pure false := by rw [isSubtype_type]; kernel_rfl
    wp_walk using wpAny_loadPart' hl, wpAny_load hl, wpAny_loadPart' hb
    exact ⟨_, rfl, h⟩
theorem dict_dec_tuple (l : Addr) (es : Array DictEntry) (n : Nat) (sl : Array (Option Value)) (b : Addr) (its : Array Value) (n2 : Nat) (dd : Option Addr) (sl2 : Array (Option Value)) :
    Meets (Builtin.«dict.__eq__» ⟨[.ref l, .ref b], []⟩) (fun _ R s => s.heap.get? l = some (dOb es n sl) ∧ s.heap.get? b = some { cls := .type "tuple", dict := dd, data := .seq its n2, slots := sl2 } ∧ R (.ok (.ret .notImplemented)) s) :=
  .of_wp fun prog w A R s h => by
    obtain ⟨hp, g, d, tk, os⟩ := s
    obtain ⟨hl, hb, h⟩ := h
    have f1 : isSubtype (.type "tuple") (.type "dict") = pure false := by rw [isSubtype_type]; kernel_rfl
    wp_walk using wpAny_loadPart' hl, wpAny_loadPart' hb
    exact ⟨_, rfl, h⟩
theorem tuple_dec_dict (l : Addr) (es : Array DictEntry) (n : Nat) (sl : Array (Option Value)) (b : Addr) (its : Array Value) (n2 : Nat) (dd : Option Addr) (sl2 : Array (Option Value)) :
    Meets (Builtin.«tuple.__eq__» ⟨[.ref b, .ref l], []⟩) (fun _ R s => s.heap.get? l = some (dOb es n sl) ∧ s.heap.get? b = some { cls := .type "tuple", dict := dd, data := .seq its n2, slots := sl2 } ∧ R (.ok (.ret .notImplemented)) s) :=
  .of_wp fun prog w A R s h => by
    obtain ⟨hp, g, d, tk, os⟩ := s
    obtain ⟨hl, hb, h⟩ := h
    have f1 : isSubtype (.type "dict") (.type "tuple") = pure false := by rw [isSubtype_type]; kernel_rfl
    wp_walk using wpAny_loadPart' hl, wpAny_load hl, wpAny_loadPart' hb
    exact ⟨_, rfl, h⟩
theorem rc_dict_none {l : Addr} (hd : DictAt s.heap l) (hu : A.units < cLine) : SeqAt.RcAt A s (.ref l) (.none) false := fun prog w E Q h => by
  obtain ⟨es, n, sl, hl⟩ := hd
  exact SeqAt.rc_eq_decline_or (k := false) ⟨_, hl, rfl⟩ rfl (by decide) (by rw [isSubtype_type]; kernel_rfl) F.slot_dict_eq F.slot_NoneType_eq_refl
    (fun _ hq => call_meets F.slot_dict_eq ⟨_, hl, rfl⟩ F.entry_dict_eq (F.args_dict_eq_2 _ _) (dict_dec_none l es n sl) ⟨hl, hq⟩)
    (fun _ hq => call_gives F.slot_NoneType_eq_refl rfl F.entry_NoneType_eq (F.args_NoneType_eq_2 _ _) (SeqAt.NoneType___eq___none_ref_0 l) hq)
    (fun _ hq => wpAny_of_eq (rfl : isSame (.ref l) (.none) = pure false) hq) (.inr hu) h
theorem rc_none_dict {l : Addr} (hd : DictAt s.heap l) (hu : A.units < cLine) : SeqAt.RcAt A s (.none) (.ref l) false := fun prog w E Q h => by
  obtain ⟨es, n, sl, hl⟩ := hd
  exact SeqAt.rc_eq_decline_or (k := false) rfl ⟨_, hl, rfl⟩ (by decide) (by rw [isSubtype_type]; kernel_rfl) F.slot_NoneType_eq F.slot_dict_eq_refl
    (fun _ hq => call_gives F.slot_NoneType_eq rfl F.entry_NoneType_eq (F.args_NoneType_eq_2 _ _) (SeqAt.NoneType___eq___none_ref_0 l) hq)
    (fun _ hq => call_meets F.slot_dict_eq_refl ⟨_, hl, rfl⟩ F.entry_dict_eq (F.args_dict_eq_2 _ _) (dict_dec_none l es n sl) ⟨hl, hq⟩)
    (fun _ hq => wpAny_of_eq (rfl : isSame (.none) (.ref l) = pure false) hq) (.inr hu) h
theorem rc_dict_bool {l : Addr} (hd : DictAt s.heap l) (b : Bool) (hu : A.units < cLine) : SeqAt.RcAt A s (.ref l) (.bool b) false := fun prog w E Q h => by
  obtain ⟨es, n, sl, hl⟩ := hd
  exact SeqAt.rc_eq_decline_or (k := false) ⟨_, hl, rfl⟩ rfl (by decide) (by rw [isSubtype_type]; kernel_rfl) F.slot_dict_eq F.slot_bool_eq_refl
    (fun _ hq => call_meets F.slot_dict_eq ⟨_, hl, rfl⟩ F.entry_dict_eq (F.args_dict_eq_2 _ _) (dict_dec_bool l es n sl b) ⟨hl, hq⟩)
    (fun _ hq => call_meets F.slot_bool_eq_refl rfl F.entry_int_eq (F.args_int_eq_2 _ _) (bool_dec_dict l es n sl b) ⟨hl, hq⟩)
    (fun _ hq => wpAny_of_eq (rfl : isSame (.ref l) (.bool b) = pure false) hq) (.inr hu) h
theorem rc_bool_dict {l : Addr} (hd : DictAt s.heap l) (b : Bool) (hu : A.units < cLine) : SeqAt.RcAt A s (.bool b) (.ref l) false := fun prog w E Q h => by
  obtain ⟨es, n, sl, hl⟩ := hd
  exact SeqAt.rc_eq_decline_or (k := false) rfl ⟨_, hl, rfl⟩ (by decide) (by rw [isSubtype_type]; kernel_rfl) F.slot_bool_eq F.slot_dict_eq_refl
    (fun _ hq => call_meets F.slot_bool_eq rfl F.entry_int_eq (F.args_int_eq_2 _ _) (bool_dec_dict l es n sl b) ⟨hl, hq⟩)
    (fun _ hq => call_meets F.slot_dict_eq_refl ⟨_, hl, rfl⟩ F.entry_dict_eq (F.args_dict_eq_2 _ _) (dict_dec_bool l es n sl b) ⟨hl, hq⟩)
    (fun _ hq => wpAny_of_eq (rfl : isSame (.bool b) (.ref l) = pure false) hq) (.inr hu) h
theorem rc_dict_int {l : Addr} (hd : DictAt s.heap l) (b : Int) (u : Tok) (hu : A.units < cLine) : SeqAt.RcAt A s (.ref l) (.int b u) false := fun prog w E Q h => by
  obtain ⟨es, n, sl, hl⟩ := hd
  exact SeqAt.rc_eq_decline_or (k := false) ⟨_, hl, rfl⟩ rfl (by decide) (by rw [isSubtype_type]; kernel_rfl) F.slot_dict_eq F.slot_int_eq_refl
    (fun _ hq => call_meets F.slot_dict_eq ⟨_, hl, rfl⟩ F.entry_dict_eq (F.args_dict_eq_2 _ _) (dict_dec_int l es n sl b u) ⟨hl, hq⟩)
    (fun _ hq => call_meets F.slot_int_eq_refl rfl F.entry_int_eq (F.args_int_eq_2 _ _) (int_dec_dict l es n sl b u) ⟨hl, hq⟩)
    (fun _ hq => wpAny_of_eq (rfl : isSame (.ref l) (.int b u) = pure false) hq) (.inr hu) h
theorem rc_int_dict {l : Addr} (hd : DictAt s.heap l) (b : Int) (u : Tok) (hu : A.units < cLine) : SeqAt.RcAt A s (.int b u) (.ref l) false := fun prog w E Q h => by
  obtain ⟨es, n, sl, hl⟩ := hd
  exact SeqAt.rc_eq_decline_or (k := false) rfl ⟨_, hl, rfl⟩ (by decide) (by rw [isSubtype_type]; kernel_rfl) F.slot_int_eq F.slot_dict_eq_refl
    (fun _ hq => call_meets F.slot_int_eq rfl F.entry_int_eq (F.args_int_eq_2 _ _) (int_dec_dict l es n sl b u) ⟨hl, hq⟩)
    (fun _ hq => call_meets F.slot_dict_eq_refl ⟨_, hl, rfl⟩ F.entry_dict_eq (F.args_dict_eq_2 _ _) (dict_dec_int l es n sl b u) ⟨hl, hq⟩)
    (fun _ hq => wpAny_of_eq (rfl : isSame (.int b u) (.ref l) = pure false) hq) (.inr hu) h
theorem rc_dict_str {l : Addr} (hd : DictAt s.heap l) (b : Str) (u : Tok) (hu : A.units < cLine) : SeqAt.RcAt A s (.ref l) (.str b u) false := fun prog w E Q h => by
  obtain ⟨es, n, sl, hl⟩ := hd
  exact SeqAt.rc_eq_decline_or (k := false) ⟨_, hl, rfl⟩ rfl (by decide) (by rw [isSubtype_type]; kernel_rfl) F.slot_dict_eq F.slot_str_eq_refl
    (fun _ hq => call_meets F.slot_dict_eq ⟨_, hl, rfl⟩ F.entry_dict_eq (F.args_dict_eq_2 _ _) (dict_dec_str l es n sl b u) ⟨hl, hq⟩)
    (fun _ hq => call_meets F.slot_str_eq_refl rfl F.entry_str_eq (F.args_str_eq_2 _ _) (str_dec_dict l es n sl b u) ⟨hl, hq⟩)
    (fun _ hq => wpAny_of_eq (rfl : isSame (.ref l) (.str b u) = pure false) hq) (.inr hu) h
theorem rc_str_dict {l : Addr} (hd : DictAt s.heap l) (b : Str) (u : Tok) (hu : A.units < cLine) : SeqAt.RcAt A s (.str b u) (.ref l) false := fun prog w E Q h => by
  obtain ⟨es, n, sl, hl⟩ := hd
  exact SeqAt.rc_eq_decline_or (k := false) rfl ⟨_, hl, rfl⟩ (by decide) (by rw [isSubtype_type]; kernel_rfl) F.slot_str_eq F.slot_dict_eq_refl
    (fun _ hq => call_meets F.slot_str_eq rfl F.entry_str_eq (F.args_str_eq_2 _ _) (str_dec_dict l es n sl b u) ⟨hl, hq⟩)
    (fun _ hq => call_meets F.slot_dict_eq_refl ⟨_, hl, rfl⟩ F.entry_dict_eq (F.args_dict_eq_2 _ _) (dict_dec_str l es n sl b u) ⟨hl, hq⟩)
    (fun _ hq => wpAny_of_eq (rfl : isSame (.str b u) (.ref l) = pure false) hq) (.inr hu) h
theorem rc_dict_list {l : Addr} (hd : DictAt s.heap l) {b : Addr} {its : Array Value} (hb : s.heap.IsList b its) (hu : A.units < cLine) : SeqAt.RcAt A s (.ref l) (.ref b) false := fun prog w E Q h => by
  obtain ⟨es, n, sl, hl⟩ := hd
  obtain ⟨⟨cls, dd, data, sl2⟩, hb1, hb2, n2, hb3⟩ := id hb
  simp only at hb2 hb3
  subst hb2 hb3
  have hne : l ≠ b := fun e => by
    subst e
    rw [hl] at hb1
    exact absurd (congrArg Obj.cls (Option.some.inj hb1)) (by simp)
  exact SeqAt.rc_eq_decline_or (k := false) ⟨_, hl, rfl⟩ ⟨_, hb1, rfl⟩ (by decide) (by rw [isSubtype_type]; kernel_rfl) F.slot_dict_eq F.slot_list_eq_refl
    (fun _ hq => call_meets F.slot_dict_eq ⟨_, hl, rfl⟩ F.entry_dict_eq (F.args_dict_eq_2 _ _) (dict_dec_list l es n sl b its n2 dd sl2) ⟨hl, hb1, hq⟩)
    (fun _ hq => call_meets F.slot_list_eq_refl ⟨_, hb1, rfl⟩ F.entry_list_eq (F.args_list_eq_2 _ _) (list_dec_dict l es n sl b its n2 dd sl2) ⟨hl, hb1, hq⟩)
    (fun _ hq => wpAny_isSame_ref_other hne hl hb1 (by simp) hq) (.inr hu) h
theorem rc_list_dict {l : Addr} (hd : DictAt s.heap l) {b : Addr} {its : Array Value} (hb : s.heap.IsList b its) (hu : A.units < cLine) : SeqAt.RcAt A s (.ref b) (.ref l) false := fun prog w E Q h => by
  obtain ⟨es, n, sl, hl⟩ := hd
  obtain ⟨⟨cls, dd, data, sl2⟩, hb1, hb2, n2, hb3⟩ := id hb
  simp only at hb2 hb3
  subst hb2 hb3
  have hne : l ≠ b := fun e => by
    subst e
    rw [hl] at hb1
    exact absurd (congrArg Obj.cls (Option.some.inj hb1)) (by simp)
  exact SeqAt.rc_eq_decline_or (k := false) ⟨_, hb1, rfl⟩ ⟨_, hl, rfl⟩ (by decide) (by rw [isSubtype_type]; kernel_rfl) F.slot_list_eq F.slot_dict_eq_refl
    (fun _ hq => call_meets F.slot_list_eq ⟨_, hb1, rfl⟩ F.entry_list_eq (F.args_list_eq_2 _ _) (list_dec_dict l es n sl b its n2 dd sl2) ⟨hl, hb1, hq⟩)
    (fun _ hq => call_meets F.slot_dict_eq_refl ⟨_, hl, rfl⟩ F.entry_dict_eq (F.args_dict_eq_2 _ _) (dict_dec_list l es n sl b its n2 dd sl2) ⟨hl, hb1, hq⟩)
    (fun _ hq => SeqAt.wpAny_isSame_ref_other' (Ne.symm hne) hb1 hl (by simp) hq) (.inr hu) h
theorem rc_dict_tuple {l : Addr} (hd : DictAt s.heap l) {b : Addr} {its : Array Value} (hb : s.heap.IsTuple b its) (hu : A.units < cLine) : SeqAt.RcAt A s (.ref l) (.ref b) false := fun prog w E Q h => by
  obtain ⟨es, n, sl, hl⟩ := hd
  obtain ⟨⟨cls, dd, data, sl2⟩, hb1, hb2, n2, hb3⟩ := id hb
  simp only at hb2 hb3
  subst hb2 hb3
  have hne : l ≠ b := fun e => by
    subst e
    rw [hl] at hb1
    exact absurd (congrArg Obj.cls (Option.some.inj hb1)) (by simp)
  exact SeqAt.rc_eq_decline_or (k := false) ⟨_, hl, rfl⟩ ⟨_, hb1, rfl⟩ (by decide) (by rw [isSubtype_type]; kernel_rfl) F.slot_dict_eq F.slot_tuple_eq_refl
    (fun _ hq => call_meets F.slot_dict_eq ⟨_, hl, rfl⟩ F.entry_dict_eq (F.args_dict_eq_2 _ _) (dict_dec_tuple l es n sl b its n2 dd sl2) ⟨hl, hb1, hq⟩)
    (fun _ hq => call_meets F.slot_tuple_eq_refl ⟨_, hb1, rfl⟩ F.entry_tuple_eq (F.args_tuple_eq_2 _ _) (tuple_dec_dict l es n sl b its n2 dd sl2) ⟨hl, hb1, hq⟩)
    (fun _ hq => wpAny_isSame_ref_other hne hl hb1 (by simp) hq) (.inr hu) h
theorem rc_tuple_dict {l : Addr} (hd : DictAt s.heap l) {b : Addr} {its : Array Value} (hb : s.heap.IsTuple b its) (hu : A.units < cLine) : SeqAt.RcAt A s (.ref b) (.ref l) false := fun prog w E Q h => by
  obtain ⟨es, n, sl, hl⟩ := hd
  obtain ⟨⟨cls, dd, data, sl2⟩, hb1, hb2, n2, hb3⟩ := id hb
  simp only at hb2 hb3
  subst hb2 hb3
  have hne : l ≠ b := fun e => by
    subst e
    rw [hl] at hb1
    exact absurd (congrArg Obj.cls (Option.some.inj hb1)) (by simp)
  exact SeqAt.rc_eq_decline_or (k := false) ⟨_, hb1, rfl⟩ ⟨_, hl, rfl⟩ (by decide) (by rw [isSubtype_type]; kernel_rfl) F.slot_tuple_eq F.slot_dict_eq_refl
    (fun _ hq => call_meets F.slot_tuple_eq ⟨_, hb1, rfl⟩ F.entry_tuple_eq (F.args_tuple_eq_2 _ _) (tuple_dec_dict l es n sl b its n2 dd sl2) ⟨hl, hb1, hq⟩)
    (fun _ hq => call_meets F.slot_dict_eq_refl ⟨_, hl, rfl⟩ F.entry_dict_eq (F.args_dict_eq_2 _ _) (dict_dec_tuple l es n sl b its n2 dd sl2) ⟨hl, hb1, hq⟩)
    (fun _ hq => SeqAt.wpAny_isSame_ref_other' (Ne.symm hne) hb1 hl (by simp) hq) (.inr hu) h
theorem eqAt_l {l : Addr} {b : Value} {k : Bool} (h : SeqAt.RcAt A s (.ref l) b k) (hn : ∀ m, b ≠ .ref m) : SeqAt.EqAt A s (.ref l) b k := fun prog w E Q hq => by
  unfold eqBool
  refine wpAny_holding ?_
  refine wpAny_ite_split (fun z => absurd (eq_of_beq z).symm (hn l)) (fun _ => ?_)
  exact wpAny_bind (h prog w E _ (wpAny_truthy_bool hq))
theorem eqAt_r {a : Value} {l : Addr} {k : Bool} (h : SeqAt.RcAt A s a (.ref l) k) (hn : ∀ m, a ≠ .ref m) : SeqAt.EqAt A s a (.ref l) k := fun prog w E Q hq => by
  unfold eqBool
  refine wpAny_holding ?_
  refine wpAny_ite_split (fun z => absurd (eq_of_beq z) (hn l)) (fun _ => ?_)
  cases a <;> exact wpAny_bind (h prog w E _ (wpAny_truthy_bool hq))
end
end Mini
set_option maxHeartbeats 1000000
/-! Mini, part 15: == of plain data. -/
namespace Mini
open PySem PySem.Spec PyProof.Rows L2
def lookK (k : Key) : List (Key × D) → Option D
  | [] => none
  | (j, d) :: r => if j = k then some d else lookK k r
mutual
def plainD : D → Bool
  | .non => true
  | .bl _ => true
  | .int _ => true
  | .str _ => true
  | .lst ds => plainDs ds
  | .tup ds => plainDs ds
  | .dct kvs => decide ((kvs.map (·.1)).Nodup) && plainDk kvs
  | .ins _ _ => false
  | .exc _ _ => false
  | .cls _ => false
  | .typ _ => false
  | .fn _ => false
  | .scr _ => false
def plainDs : List D → Bool
  | [] => true
  | d :: ds => plainD d && plainDs ds
def plainDk : List (Key × D) → Bool
  | [] => true
  | (_, d) :: ds => plainD d && plainDk ds
end
mutual
def depD : D → Nat
  | .lst ds => depDs ds + 1
  | .tup ds => depDs ds + 1
  | .dct kvs => depDk kvs + 1
  | .non => 0
  | .bl _ => 0
  | .int _ => 0
  | .str _ => 0
  | .ins _ _ => 0
  | .exc _ _ => 0
  | .cls _ => 0
  | .typ _ => 0
  | .fn _ => 0
  | .scr _ => 0
def depDs : List D → Nat
  | [] => 0
  | d :: ds => max (depD d) (depDs ds)
def depDk : List (Key × D) → Nat
  | [] => 0
  | (_, d) :: ds => max (depD d) (depDk ds)
end
mutual
/-- == of plain data -/
def eqD : D → D → Bool
  | .lst ds, e => (match e with
    | .lst es => eqDs ds es
    | _ => false)
  | .tup ds, e => (match e with
    | .tup es => eqDs ds es
    | _ => false)
  | .dct ds, e => (match e with
    | .dct es => decide (ds.length = es.length) && eqDk ds es
    | _ => false)
  | .non, e => (match e with
    | .non => true
    | _ => false)
  | .bl a, e => (match e with
    | .bl b => a == b
    | .int j => (if a then 1 else 0) == j
    | _ => false)
  | .int i, e => (match e with
    | .bl b => i == (if b then 1 else 0)
    | .int j => i == j
    | _ => false)
  | .str x, e => (match e with
    | .str y => x == y
    | _ => false)
  | .ins _ _, _ => false
  | .exc _ _, _ => false
  | .cls _, _ => false
  | .typ _, _ => false
  | .fn _, _ => false
  | .scr _, _ => false
def eqDs : List D → List D → Bool
  | [], es => es.isEmpty
  | d :: ds, es => (match es with
    | [] => false
    | e :: es => eqD d e && eqDs ds es)
def eqDk : List (Key × D) → List (Key × D) → Bool
  | [], _ => true
  | (k, d) :: ds, es => (match lookK k es with
    | some e => eqD d e
    | none => false) && eqDk ds es
end
/-! ### laws of it -/
theorem keyD_inj {k j : Key} (h : keyD k = keyD j) : k = j := by
  cases k <;> cases j <;> first | (cases h; rfl) | cases h
mutual
theorem pyD_some : ∀ d : D, plainD d = true → ∃ p, pyD d = some p
  | .non, _ => ⟨_, rfl⟩
  | .bl _, _ => ⟨_, rfl⟩
  | .int _, _ => ⟨_, rfl⟩
  | .str _, _ => ⟨_, rfl⟩
  | .lst ds, h => by
    obtain ⟨p, q⟩ := pyDs_some ds h
    exact ⟨.list p, by unfold pyD; rw [q]; rfl⟩
  | .tup ds, h => by
    obtain ⟨p, q⟩ := pyDs_some ds h
    exact ⟨.tuple p, by unfold pyD; rw [q]; rfl⟩
  | .dct kvs, h => by
    obtain ⟨p, q⟩ := pyDk_some kvs (Bool.and_eq_true_iff.mp h).2
    exact ⟨.dict p, by unfold pyD; rw [q]; rfl⟩
  | .ins _ _, h => by cases h
  | .exc _ _, h => by cases h
  | .cls _, h => by cases h
  | .typ _, h => by cases h
  | .fn _, h => by cases h
  | .scr _, h => by cases h
theorem pyDs_some : ∀ ds : List D, plainDs ds = true → ∃ p, pyDs ds = some p
  | [], _ => ⟨_, rfl⟩
  | d :: ds, h => by
    obtain ⟨h1, h2⟩ := Bool.and_eq_true_iff.mp h
    obtain ⟨p, q⟩ := pyD_some d h1
    obtain ⟨ps, qs⟩ := pyDs_some ds h2
    exact ⟨p :: ps, by unfold pyDs; rw [q, qs]⟩
theorem pyDk_some : ∀ ds : List (Key × D), plainDk ds = true → ∃ p, pyDk ds = some p
  | [], _ => ⟨_, rfl⟩
  | (k, d) :: ds, h => by
    obtain ⟨h1, h2⟩ := Bool.and_eq_true_iff.mp h
    obtain ⟨p, q⟩ := pyD_some d h1
    obtain ⟨ps, qs⟩ := pyDk_some ds h2
    exact ⟨(keyD k, p) :: ps, by unfold pyDk; rw [q, qs]⟩
end
theorem map_some {α β : Type} {f : α → β} {o : Option α} {b : β} (h : o.map f = some b) : ∃ a, o = some a ∧ b = f a := by
  cases o with
  | none => cases h
  | some a => exact ⟨a, rfl, (Option.some.inj h).symm⟩
mutual
theorem pyD_inj : ∀ (d e : D) (p : PyData), pyD d = some p → pyD e = some p → d = e
  | .non, e, p, h, k => by
    cases h
    cases e <;> first | rfl | cases k | (unfold pyD at k; obtain ⟨_, _, z⟩ := map_some k; cases z)
  | .bl b, e, p, h, k => by
    cases h
    cases e <;> first | (cases k; rfl) | cases k | (unfold pyD at k; obtain ⟨_, _, z⟩ := map_some k; cases z)
  | .int b, e, p, h, k => by
    cases h
    cases e <;> first | (cases k; rfl) | cases k | (unfold pyD at k; obtain ⟨_, _, z⟩ := map_some k; cases z)
  | .str b, e, p, h, k => by
    cases h
    cases e <;> first | (cases k; rfl) | cases k | (unfold pyD at k; obtain ⟨_, _, z⟩ := map_some k; cases z)
  | .lst ds, e, p, h, k => by
    unfold pyD at h
    obtain ⟨ps, h1, rfl⟩ := map_some h
    cases e with
    | lst es =>
      unfold pyD at k
      obtain ⟨qs, k1, z⟩ := map_some k
      cases z
      rw [pyDs_inj ds es _ h1 k1]
    | _ => first | cases k | (unfold pyD at k; obtain ⟨_, _, z⟩ := map_some k; cases z)
  | .tup ds, e, p, h, k => by
    unfold pyD at h
    obtain ⟨ps, h1, rfl⟩ := map_some h
    cases e with
    | tup es =>
      unfold pyD at k
      obtain ⟨qs, k1, z⟩ := map_some k
      cases z
      rw [pyDs_inj ds es _ h1 k1]
    | _ => first | cases k | (unfold pyD at k; obtain ⟨_, _, z⟩ := map_some k; cases z)
  | .dct ds, e, p, h, k => by
    unfold pyD at h
    obtain ⟨ps, h1, rfl⟩ := map_some h
    cases e with
    | dct es =>
      unfold pyD at k
      obtain ⟨qs, k1, z⟩ := map_some k
      cases z
      rw [pyDk_inj ds es _ h1 k1]
    | _ => first | cases k | (unfold pyD at k; obtain ⟨_, _, z⟩ := map_some k; cases z)
  | .ins _ _, _, _, h, _ => by cases h
  | .exc _ _, _, _, h, _ => by cases h
  | .cls _, _, _, h, _ => by cases h
  | .typ _, _, _, h, _ => by cases h
  | .fn _, _, _, h, _ => by cases h
  | .scr _, _, _, h, _ => by cases h
theorem pyDs_inj : ∀ (ds es : List D) (p : List PyData), pyDs ds = some p → pyDs es = some p → ds = es
  | [], es, p, h, k => by
    cases h
    cases es with
    | nil => rfl
    | cons e es =>
      unfold pyDs at k
      cases q1 : pyD e <;> cases q2 : pyDs es <;> rw [q1, q2] at k <;> cases k
  | d :: ds, es, p, h, k => by
    unfold pyDs at h
    cases q1 : pyD d with
    | none =>
      rw [q1] at h
      cases h
    | some x => cases q2 : pyDs ds with
      | none =>
        rw [q1, q2] at h
        cases h
      | some xs =>
        rw [q1, q2] at h
        cases h
        cases es with
        | nil => cases k
        | cons e es =>
          unfold pyDs at k
          cases q3 : pyD e with
          | none =>
            rw [q3] at k
            cases k
          | some y => cases q4 : pyDs es with
            | none =>
              rw [q3, q4] at k
              cases k
            | some ys =>
              rw [q3, q4] at k
              cases k
              rw [pyD_inj d e _ q1 q3, pyDs_inj ds es _ q2 q4]
theorem pyDk_inj : ∀ (ds es : List (Key × D)) (p : List (PyData × PyData)), pyDk ds = some p → pyDk es = some p → ds = es
  | [], es, p, h, k => by
    cases h
    cases es with
    | nil => rfl
    | cons e es =>
      obtain ⟨j, e⟩ := e
      unfold pyDk at k
      cases q1 : pyD e <;> cases q2 : pyDk es <;> rw [q1, q2] at k <;> cases k
  | (i, d) :: ds, es, p, h, k => by
    unfold pyDk at h
    cases q1 : pyD d with
    | none =>
      rw [q1] at h
      cases h
    | some x => cases q2 : pyDk ds with
      | none =>
        rw [q1, q2] at h
        cases h
      | some xs =>
        rw [q1, q2] at h
        cases h
        cases es with
        | nil => cases k
        | cons e es =>
          obtain ⟨j, e⟩ := e
          unfold pyDk at k
          cases q3 : pyD e with
          | none =>
            rw [q3] at k
            cases k
          | some y => cases q4 : pyDk es with
            | none =>
              rw [q3, q4] at k
              cases k
            | some ys =>
              rw [q3, q4] at k
              injection k with k
              injection k with k1 k2
              injection k1 with k3 k4
              subst k4 k2
              rw [keyD_inj k3, pyD_inj d e _ q1 q3, pyDk_inj ds es _ q2 q4]
end
theorem lookK_mem : ∀ {es : List (Key × D)} {k : Key} {d : D}, (es.map (·.1)).Nodup → (k, d) ∈ es → lookK k es = some d
  | (j, e) :: es, k, d, nd, h => by
    unfold lookK
    rcases List.mem_cons.mp h with h | h
    · cases h
      rw [if_pos rfl]
    · have hj : j ≠ k := fun z => (List.nodup_cons.mp nd).1 (List.mem_map.mpr ⟨(k, d), h, z.symm⟩)
      rw [if_neg hj]
      exact lookK_mem (List.nodup_cons.mp nd).2 h
mutual
theorem eqD_refl : ∀ d : D, plainD d = true → eqD d d = true
  | .non, _ => rfl
  | .bl b, _ => by unfold eqD; simp
  | .int i, _ => by unfold eqD; simp
  | .str x, _ => by unfold eqD; simp
  | .lst ds, h => by
    unfold eqD
    exact eqDs_refl ds h
  | .tup ds, h => by
    unfold eqD
    exact eqDs_refl ds h
  | .dct kvs, h => by
    obtain ⟨h1, h2⟩ := Bool.and_eq_true_iff.mp h
    unfold eqD
    exact Bool.and_eq_true_iff.mpr ⟨decide_eq_true rfl, eqDk_refl kvs kvs h2 fun k d m => lookK_mem (of_decide_eq_true h1) m⟩
  | .ins _ _, h => by cases h
  | .exc _ _, h => by cases h
  | .cls _, h => by cases h
  | .typ _, h => by cases h
  | .fn _, h => by cases h
  | .scr _, h => by cases h
theorem eqDs_refl : ∀ ds : List D, plainDs ds = true → eqDs ds ds = true
  | [], _ => rfl
  | d :: ds, h => by
    obtain ⟨h1, h2⟩ := Bool.and_eq_true_iff.mp h
    unfold eqDs
    exact Bool.and_eq_true_iff.mpr ⟨eqD_refl d h1, eqDs_refl ds h2⟩
theorem eqDk_refl : ∀ (ds es : List (Key × D)), plainDk ds = true → (∀ k d, (k, d) ∈ ds → lookK k es = some d) → eqDk ds es = true
  | [], _, _, _ => rfl
  | (k, d) :: ds, es, h, m => by
    obtain ⟨h1, h2⟩ := Bool.and_eq_true_iff.mp h
    unfold eqDk
    rw [m k d (List.mem_cons_self ..)]
    exact Bool.and_eq_true_iff.mpr ⟨eqD_refl d h1, eqDk_refl ds es h2 fun k d q => m k d (List.mem_cons_of_mem _ q)⟩
end
end Mini
set_option maxHeartbeats 1000000
/-! Mini, part 16: the program's == of plain data is eqD. -/
namespace Mini
open PySem PySem.Spec PyProof.Rows L2
/-- how plain data lie -/
inductive Shp (X : Cx) (G : Hp) (s : Shared) : D → Value → Prop where
  | non : Shp X G s .non .none
  | bl (b : Bool) : Shp X G s (.bl b) (.bool b)
  | int (i : Int) (t : Tok) : Shp X G s (.int i) (.int i t)
  | str (x : Str) (t : Tok) : Shp X G s (.str x) (.str x t)
  | lst {a : Addr} {ds : List D} {xs : List V} {its : List Value} (h : s.heap.IsList a its.toArray) (r : Reps X.K G ds xs) (v : Vals xs its) : Shp X G s (.lst ds) (.ref a)
  | tup {a : Addr} {ds : List D} {xs : List V} {its : List Value} (h : s.heap.IsTuple a its.toArray) (r : Reps X.K G ds xs) (v : Vals xs its) : Shp X G s (.tup ds) (.ref a)
  | dct {a : Addr} {ds : List (Key × D)} {xs : List (Key × V)} {vs : List (Key × Value)} (hs : (a == sysModules) = false) (h : s.heap.DictOf (mixKind X.prog X.w) a vs) (r : RepK X.K G ds xs) (v : KV xs vs) (at' : DictAt s.heap a) : Shp X G s (.dct ds) (.ref a)
section
variable {X : Cx} {pins : List (Addr × Obj)} {σ : L2.St} {H G : Hp} {s : Shared}
theorem shape_of (I : Inv X pins σ H s) (ex : Same G H) {d : D} {x : V} {u : Value} (r : Rep X.K G d x) (rv : RelV x u) (p : plainD d = true) : Shp X G s d u := by
  cases d with
  | non =>
    rw [show x = .non from r] at rv
    rw [show u = .none from rv]
    exact .non
  | bl b =>
    rw [show x = .bl b from r] at rv
    rw [show u = .bool b from rv]
    exact .bl b
  | int i =>
    rw [show x = .int i from r] at rv
    obtain ⟨t, rfl⟩ := rv
    exact .int i t
  | str y =>
    rw [show x = .str y from r] at rv
    obtain ⟨t, rfl⟩ := rv
    exact .str y t
  | lst ds =>
    obtain ⟨a, xs, rfl, h1, h2⟩ := r
    obtain rfl : u = Value.ref a := rv
    obtain ⟨its, rv2, pl, _⟩ := I.list (SqL.of (ex _ _ h1))
    exact .lst pl.isList h2 rv2
  | tup ds =>
    obtain ⟨a, xs, rfl, h1, h2⟩ := r
    obtain rfl : u = Value.ref a := rv
    obtain ⟨its, rv2, pl, _⟩ := I.tuple (sq_t ex h1)
    exact .tup pl h2 rv2
  | dct kvs =>
    obtain ⟨a, xs, rfl, h1, h2⟩ := r
    obtain rfl : u = Value.ref a := rv
    obtain ⟨_, sy, vs, rv2, dd⟩ := (show ObjOk X.prog X.w H s.heap a (.dK xs) from I.hok a _ (ex _ _ h1))
    obtain ⟨o, es, ep, g1, g2, g3, _⟩ := id dd
    obtain ⟨oc, od, dt, sl⟩ := o
    obtain ⟨g4, g5, g6⟩ := g2
    simp only at g3 g4 g5 g6
    subst g3 g4 g5 g6
    exact .dct sy dd h2 rv2 ⟨es, ep, _, g1⟩
  | _ => cases p
/-- item by item -/
def eqJ (ds es : List D) (j : Nat) : Bool := match ds[j]?, es[j]? with
  | some d, some e => eqD d e
  | _, _ => false
theorem all_items : ∀ ds es : List D, ((List.range (min ds.length es.length)).all (eqJ ds es) && (ds.length == es.length)) = eqDs ds es
  | [], [] => rfl
  | [], _ :: _ => by
    unfold eqDs
    simp
  | _ :: _, [] => by
    unfold eqDs
    simp
  | d :: ds, e :: es => by
    show _ = (eqD d e && eqDs ds es)
    rw [← all_items ds es]
    simp only [List.length_cons]
    rw [show min (ds.length + 1) (es.length + 1) = min ds.length es.length + 1 by omega, List.range_succ_eq_map, List.all_cons, List.all_map]
    have e1 : eqJ (d :: ds) (e :: es) 0 = eqD d e := rfl
    have e2 : (eqJ (d :: ds) (e :: es) ∘ Nat.succ) = eqJ ds es := rfl
    have e3 : (ds.length + 1 == es.length + 1) = (ds.length == es.length) := by
      by_cases q : ds.length = es.length
      · simp [q]
      · simp [q]
    rw [e1, e2, e3, Bool.and_assoc]
theorem plain_at : ∀ {ds : List D} {j : Nat} {d : D}, plainDs ds = true → ds[j]? = some d → plainD d = true
  | c :: ds, 0, d, h, e => by
    cases e
    exact (Bool.and_eq_true_iff.mp h).1
  | c :: ds, j + 1, d, h, e => plain_at (ds := ds) (j := j) (Bool.and_eq_true_iff.mp h).2 e
theorem dep_at : ∀ {ds : List D} {j : Nat} {d : D}, ds[j]? = some d → depD d ≤ depDs ds
  | c :: ds, 0, d, e => by
    cases e
    unfold depDs
    omega
  | c :: ds, j + 1, d, e => by
    have := dep_at (ds := ds) (j := j) e
    unfold depDs
    omega
theorem plain_mem : ∀ {ds : List (Key × D)} {k : Key} {d : D}, plainDk ds = true → (k, d) ∈ ds → plainD d = true
  | (j, c) :: ds, k, d, h, e => by
    rcases List.mem_cons.mp e with e | e
    · cases e
      exact (Bool.and_eq_true_iff.mp h).1
    · exact plain_mem (Bool.and_eq_true_iff.mp h).2 e
theorem dep_mem : ∀ {ds : List (Key × D)} {k : Key} {d : D}, (k, d) ∈ ds → depD d ≤ depDk ds
  | (j, c) :: ds, k, d, e => by
    rcases List.mem_cons.mp e with e | e
    · cases e
      unfold depDk
      omega
    · have := dep_mem e
      unfold depDk
      omega
/-- a dict's value at a key -/
theorem valueAt_rep : ∀ {ds : List (Key × D)} {xs : List (Key × V)} {vs : List (Key × Value)}, RepK X.K G ds xs → KV xs vs → ∀ k : Key, (lookK k ds = none ∧ valueAt vs k = none) ∨ ∃ d x u, lookK k ds = some d ∧ (k, d) ∈ ds ∧ valueAt vs k = some u ∧ Rep X.K G d x ∧ RelV x u
  | [], xs, vs, r, v, k => by
    rw [show xs = [] from r] at v
    cases v
    exact .inl ⟨rfl, rfl⟩
  | (j, d) :: ds, _, vs, ⟨x, ys, h1, h2, h3⟩, v, k => by
    subst h1
    cases v with
    | @cons _ b _ bs r1 r2 =>
      obtain ⟨j', u⟩ := b
      obtain ⟨e1, r3⟩ := r1
      obtain rfl : j = j' := e1
      unfold lookK
      by_cases q : j = k
      · rw [if_pos q]
        subst q
        exact .inr ⟨d, x, u, rfl, List.mem_cons_self .., by unfold valueAt; simp, h2, r3⟩
      · rw [if_neg q]
        have e : valueAt ((j, u) :: bs) k = valueAt bs k := by
          unfold valueAt
          rw [List.find?_cons_of_neg (by simpa using q)]
        rcases valueAt_rep h3 r2 k with ⟨k1, k2⟩ | ⟨d', x', u', k1, k2, k3, k4, k5⟩
        · exact .inl ⟨k1, by rw [e]; exact k2⟩
        · exact .inr ⟨d', x', u', k1, List.mem_cons_of_mem _ k2, by rw [e]; exact k3, k4, k5⟩
/-- the answer of a dict's entries -/
def eqKJ (ds es : List (Key × D)) (k : Key) : Bool := match lookK k ds, lookK k es with
  | some d, some e => eqD d e
  | _, _ => false
theorem all_entries {all es : List (Key × D)} {xs : List (Key × V)} {ws : List (Key × Value)} (re : RepK X.K G es xs) (rw' : KV xs ws) (nd : (all.map (·.1)).Nodup) :
    ∀ {ds : List (Key × D)} {ys : List (Key × V)} {vs : List (Key × Value)}, RepK X.K G ds ys → KV ys vs → (∀ p ∈ ds, p ∈ all) → (vs.all fun p => (valueAt ws p.1).isSome && eqKJ all es p.1) = eqDk ds es
  | [], ys, vs, r, v, _ => by
    rw [show ys = [] from r] at v
    cases v
    rfl
  | (j, d) :: ds, _, vs, ⟨x, ys, h1, h2, h3⟩, v, hm => by
    subst h1
    cases v with
    | @cons _ b _ bs r1 r2 =>
      obtain ⟨j', u⟩ := b
      obtain ⟨e1, r3⟩ := r1
      obtain rfl : j = j' := e1
      unfold eqDk
      rw [List.all_cons, all_entries re rw' nd h3 r2 fun p hp => hm p (List.mem_cons_of_mem _ hp)]
      have hl : lookK j all = some d := lookK_mem nd (hm _ (List.mem_cons_self ..))
      congr 1
      unfold eqKJ
      rw [hl]
      dsimp only
      rcases valueAt_rep (X := X) (G := G) re rw' j with ⟨k1, k2⟩ | ⟨d', x', u', k1, k2, k3, k4, k5⟩
      · rw [k1, k2]
        rfl
      · rw [k1, k3]
        rfl
def EqAll (X : Cx) (G : Hp) (s : Shared) (d : D) : Prop := ∀ (e : D) (u v : Value) (n : Nat), Shp X G s d u → Shp X G s e v → plainD d = true → plainD e = true → depD d ≤ n → PySem.W.EqTree X.prog X.w s n u v (eqD d e)
theorem kv_len {xs : List (Key × V)} {vs : List (Key × Value)} (h : KV xs vs) : vs.length = xs.length := (Paired.length h).symm
theorem repk_len {K : PySem.W.Frag} {G : Hp} : ∀ {ds : List (Key × D)} {xs : List (Key × V)}, RepK K G ds xs → xs.length = ds.length
  | [], _, h => by
    rw [show _ = [] from h]
    rfl
  | _ :: ds, _, ⟨v, vs, h1, _, h3⟩ => by
    rw [h1]
    exact congrArg Nat.succ (repk_len h3)
theorem leaf_lt {n : Nat} {A : Around} (h : A.units + n < cLine) : A.units < cLine := by omega
theorem eq_listy (I : Inv X pins σ H s) (ex : Same G H) {ds es : List D} {xs ys : List V} {its its' : List Value} (ih : ∀ (j : Nat) (d : D), ds[j]? = some d → EqAll X G s d) (r1 : Reps X.K G ds xs) (v1 : Vals xs its) (r2 : Reps X.K G es ys) (v2 : Vals ys its')
    (p1 : plainDs ds = true) (p2 : plainDs es = true) {n : Nat} (hn : depDs ds ≤ n) : ∀ (j : Nat) (h1 : j < its.toArray.size) (h2 : j < its'.toArray.size), PySem.W.EqTree X.prog X.w s n its.toArray[j] its'.toArray[j] (eqJ ds es j) := fun j h1 h2 => by
  have l1 : its.length = ds.length := by rw [← Paired.length v1, r1.length]
  have l2 : its'.length = es.length := by rw [← Paired.length v2, r2.length]
  have q1 : ds[j]? = some (ds[j]'(by simp at h1; omega)) := List.getElem?_eq_getElem _
  have q2 : es[j]? = some (es[j]'(by simp at h2; omega)) := List.getElem?_eq_getElem _
  obtain ⟨x, hx, rx⟩ := r1.get q1
  obtain ⟨y, hy, ry⟩ := r2.get q2
  obtain ⟨u, hu, ru⟩ := v1.get hx
  obtain ⟨w, hw, rw'⟩ := v2.get hy
  have e1 : its.toArray[j] = u := by
    have : its[j]? = some u := hu
    rw [List.getElem?_eq_getElem (by simpa using h1)] at this
    simpa using this
  have e2 : its'.toArray[j] = w := by
    have : its'[j]? = some w := hw
    rw [List.getElem?_eq_getElem (by simpa using h2)] at this
    simpa using this
  rw [e1, e2]
  have e3 : eqJ ds es j = eqD (ds[j]'(by simp at h1; omega)) (es[j]'(by simp at h2; omega)) := by
    unfold eqJ
    rw [q1, q2]
  rw [e3]
  have pp1 := plain_at p1 q1
  have pp2 := plain_at p2 q2
  exact ih j _ q1 _ u w n (shape_of I ex rx ru pp1) (shape_of I ex ry rw' pp2) pp1 pp2 (Nat.le_trans (dep_at q1) hn)
theorem eq_sameD (I : Inv X pins σ H s) (ex : Same G H) {d e : D} {u : Value} (h1 : Shp X G s d u) (h2 : Shp X G s e u) (reads : ∀ d, Shp X G s d u → ∀ p, pyD d = some p → ∃ as, Reads s.heap u p as) (p1 : plainD d = true) (p2 : plainD e = true) : eqD d e = true := by
  obtain ⟨x, q1⟩ := pyD_some d p1
  obtain ⟨y, q2⟩ := pyD_some e p2
  obtain ⟨as, r1⟩ := reads d h1 x q1
  obtain ⟨bs, r2⟩ := reads e h2 y q2
  obtain ⟨z, _⟩ := PyProof.Rows.reads_det (fun _ _ e _ => e) r1 r2
  subst z
  rw [pyD_inj d e _ q1 q2]
  exact eqD_refl e p2
theorem shp_reads (I : Inv X pins σ H s) (ex : Same G H) {d : D} {u : Value} (h : Shp X G s d u) : ∀ p, pyD d = some p → ∃ as, Reads s.heap u p as := fun p e => by
  cases h with
  | non =>
    cases e
    exact ⟨_, .none⟩
  | bl b =>
    cases e
    exact ⟨_, .bool b⟩
  | int i t =>
    cases e
    exact ⟨_, .int i t⟩
  | str x t =>
    cases e
    exact ⟨_, .str x t⟩
  | lst h r v =>
    unfold pyD at e
    obtain ⟨ps, h1, rfl⟩ := map_some e
    obtain ⟨as, k1, _⟩ := reps_reads I ex _ _ _ _ r v h1
    obtain ⟨o, g1, g2, n, g3⟩ := h
    exact ⟨_, .list g1 g2 g3 (by simpa using k1)⟩
  | tup h r v =>
    unfold pyD at e
    obtain ⟨ps, h1, rfl⟩ := map_some e
    obtain ⟨as, k1, _⟩ := reps_reads I ex _ _ _ _ r v h1
    obtain ⟨o, g1, g2, n, g3⟩ := h
    exact ⟨_, .tuple g1 g2 g3 (by simpa using k1)⟩
  | dct hs h r v at' =>
    unfold pyD at e
    obtain ⟨ps, h1, rfl⟩ := map_some e
    obtain ⟨o, es, ep, g1, g2, g3, _, g4, _⟩ := h
    obtain ⟨as, k1, k2, _⟩ := repk_reads I ex _ _ _ es.toList _ r v g4 h1
    exact ⟨_, .dict g1 g2.1 g3 k1 k2⟩
/-- data of different kinds -/
theorem leaf_of {e : D} {u v : Value} {d : D} {n : Nat} {b : Bool} (h : ∀ A : Around, A.units < cLine → SeqAt.EqAt A s u v b) : PySem.W.EqTree X.prog X.w s n u v b := .leaf fun A hA => h A (leaf_lt hA)
theorem ref_ne {s : Shared} {a b : Addr} {x y : Obj} (h1 : s.heap.get? a = some x) (h2 : s.heap.get? b = some y) (h : x.cls ≠ y.cls) : a ≠ b := fun z => by
  subst z
  rw [h1] at h2
  exact h (congrArg Obj.cls (Option.some.inj h2))
/-- a scalar beside anything -/
theorem tree_scal {d e : D} {u v : Value} {n : Nat} (h1 : Shp X G s d u) (h2 : Shp X G s e v) (hs : (∀ a, u ≠ .ref a) ∨ ∀ a, v ≠ .ref a) : PySem.W.EqTree X.prog X.w s n u v (eqD d e) := by
  cases h1 with
  | non => cases h2 with
    | non => exact .same
    | bl b => exact leaf_of (d := .non) (e := .non) fun A _ => SeqAt.EqAt.none_bool b
    | int i t => exact leaf_of (d := .non) (e := .non) fun A _ => SeqAt.EqAt.none_int i t
    | str y t => exact leaf_of (d := .non) (e := .non) fun A _ => SeqAt.EqAt.none_str y t
    | lst h r w => exact leaf_of (d := .non) (e := .non) fun A hA => SeqAt.EqAt.none_list h hA
    | tup h r w => exact leaf_of (d := .non) (e := .non) fun A hA => SeqAt.EqAt.none_tuple h hA
    | dct hs h r w z => exact leaf_of (d := .non) (e := .non) fun A hA => eqAt_r (rc_none_dict z hA) fun m => nofun
  | bl a => cases h2 with
    | non => exact leaf_of (d := .non) (e := .non) fun A _ => SeqAt.EqAt.bool_none a
    | bl b => exact leaf_of (d := .non) (e := .non) fun A _ => SeqAt.EqAt.bool_bool a b
    | int i t => exact leaf_of (d := .non) (e := .non) fun A _ => SeqAt.EqAt.bool_int a i t
    | str y t => exact leaf_of (d := .non) (e := .non) fun A _ => SeqAt.EqAt.bool_str a y t
    | lst h r w => exact leaf_of (d := .non) (e := .non) fun A hA => SeqAt.EqAt.bool_list a h hA
    | tup h r w => exact leaf_of (d := .non) (e := .non) fun A hA => SeqAt.EqAt.bool_tuple a h hA
    | dct hs h r w z => exact leaf_of (d := .non) (e := .non) fun A hA => eqAt_r (rc_bool_dict z a hA) fun m => nofun
  | int i t => cases h2 with
    | non => exact leaf_of (d := .non) (e := .non) fun A _ => SeqAt.EqAt.int_none i t
    | bl b => exact leaf_of (d := .non) (e := .non) fun A _ => SeqAt.EqAt.int_bool i t b
    | int j t' => exact leaf_of (d := .non) (e := .non) fun A _ => SeqAt.EqAt.int_int i t j t'
    | str y t' => exact leaf_of (d := .non) (e := .non) fun A _ => SeqAt.EqAt.int_str i t y t'
    | lst h r w => exact leaf_of (d := .non) (e := .non) fun A hA => SeqAt.EqAt.int_list i t h hA
    | tup h r w => exact leaf_of (d := .non) (e := .non) fun A hA => SeqAt.EqAt.int_tuple i t h hA
    | dct hs h r w z => exact leaf_of (d := .non) (e := .non) fun A hA => eqAt_r (rc_int_dict z i t hA) fun m => nofun
  | str x t => cases h2 with
    | non => exact leaf_of (d := .non) (e := .non) fun A _ => SeqAt.EqAt.str_none x t
    | bl b => exact leaf_of (d := .non) (e := .non) fun A _ => SeqAt.EqAt.str_bool x t b
    | int j t' => exact leaf_of (d := .non) (e := .non) fun A _ => SeqAt.EqAt.str_int x t j t'
    | str y t' => exact leaf_of (d := .non) (e := .non) fun A _ => SeqAt.EqAt.str_str x t y t'
    | lst h r w => exact leaf_of (d := .non) (e := .non) fun A hA => SeqAt.EqAt.str_list x t h hA
    | tup h r w => exact leaf_of (d := .non) (e := .non) fun A hA => SeqAt.EqAt.str_tuple x t h hA
    | dct hs h r w z => exact leaf_of (d := .non) (e := .non) fun A hA => eqAt_r (rc_str_dict z x t hA) fun m => nofun
  | lst h r w => cases h2 with
    | non => exact leaf_of (d := .non) (e := .non) fun A hA => SeqAt.EqAt.list_none h hA
    | bl b => exact leaf_of (d := .non) (e := .non) fun A hA => SeqAt.EqAt.list_bool b h hA
    | int j t' => exact leaf_of (d := .non) (e := .non) fun A hA => SeqAt.EqAt.list_int j t' h hA
    | str y t' => exact leaf_of (d := .non) (e := .non) fun A hA => SeqAt.EqAt.list_str y t' h hA
    | _ => exact hs.elim (fun z => absurd rfl (z _)) fun z => absurd rfl (z _)
  | tup h r w => cases h2 with
    | non => exact leaf_of (d := .non) (e := .non) fun A hA => SeqAt.EqAt.tuple_none h hA
    | bl b => exact leaf_of (d := .non) (e := .non) fun A hA => SeqAt.EqAt.tuple_bool b h hA
    | int j t' => exact leaf_of (d := .non) (e := .non) fun A hA => SeqAt.EqAt.tuple_int j t' h hA
    | str y t' => exact leaf_of (d := .non) (e := .non) fun A hA => SeqAt.EqAt.tuple_str y t' h hA
    | _ => exact hs.elim (fun z => absurd rfl (z _)) fun z => absurd rfl (z _)
  | dct hs' h r w z => cases h2 with
    | non => exact leaf_of (d := .non) (e := .non) fun A hA => eqAt_l (rc_dict_none z hA) fun m => nofun
    | bl b => exact leaf_of (d := .non) (e := .non) fun A hA => eqAt_l (rc_dict_bool z b hA) fun m => nofun
    | int j t' => exact leaf_of (d := .non) (e := .non) fun A hA => eqAt_l (rc_dict_int z j t' hA) fun m => nofun
    | str y t' => exact leaf_of (d := .non) (e := .non) fun A hA => eqAt_l (rc_dict_str z y t' hA) fun m => nofun
    | _ => exact hs.elim (fun z => absurd rfl (z _)) fun z => absurd rfl (z _)
theorem entry_treesI (I : Inv X pins σ H s) (ex : Same G H) {ds es : List (Key × D)} {xs ys : List (Key × V)} {vs ws : List (Key × Value)} (ih : ∀ (k : Key) (d : D), (k, d) ∈ ds → EqAll X G s d) (r : RepK X.K G ds xs) (w : KV xs vs) (r' : RepK X.K G es ys) (w' : KV ys ws)
    (p1 : plainD (.dct ds) = true) (p2 : plainD (.dct es) = true) {m : Nat} (hm : depDk ds ≤ m) : ∀ (k : Key) (u y : Value), (k, u) ∈ vs → valueAt ws k = some y → PySem.W.EqTree X.prog X.w s m u y (eqKJ ds es k) := fun k u y hk hy => by
    obtain ⟨nd1, q1⟩ := Bool.and_eq_true_iff.mp p1
    obtain ⟨nd2, q2⟩ := Bool.and_eq_true_iff.mp p2
    have nd1 := of_decide_eq_true nd1
    rcases valueAt_rep r' w' k with ⟨k1, k2⟩ | ⟨d', x', u', k1, k2, k3, k4, k5⟩
    · rw [k2] at hy
      cases hy
    · rw [k3] at hy
      cases hy
      -- the entry on the left
      have left : ∃ d x, (k, d) ∈ ds ∧ Rep X.K G d x ∧ RelV x u := by
        have go : ∀ {ds : List (Key × D)} {xs : List (Key × V)} {vs : List (Key × Value)}, RepK X.K G ds xs → KV xs vs → (k, u) ∈ vs → ∃ d x, (k, d) ∈ ds ∧ Rep X.K G d x ∧ RelV x u := by
          intro ds
          induction ds with
          | nil =>
            intro xs vs r w hm
            rw [show xs = [] from r] at w
            cases w
            cases hm
          | cons p ds ih =>
            obtain ⟨j, d⟩ := p
            rintro _ vs ⟨x, ys, rfl, h2, h3⟩ w hm
            cases w with
            | @cons _ b _ bs r1 r2 =>
              obtain ⟨j', u'⟩ := b
              obtain ⟨e1, r3⟩ := r1
              obtain rfl : j = j' := e1
              rcases List.mem_cons.mp hm with hm | hm
              · cases hm
                exact ⟨d, x, List.mem_cons_self .., h2, r3⟩
              · obtain ⟨d', x', m1, m2, m3⟩ := ih h3 r2 hm
                exact ⟨d', x', List.mem_cons_of_mem _ m1, m2, m3⟩
        exact go r w hk
      obtain ⟨d, x, m1, m2, m3⟩ := left
      have e1 : eqKJ ds es k = eqD d d' := by
        unfold eqKJ
        rw [lookK_mem nd1 m1, k1]
      rw [e1]
      have pp1 := plain_mem q1 m1
      have pp2 := plain_mem q2 k2
      exact ih k d m1 d' u _ m (shape_of I ex m2 m3 pp1) (shape_of I ex k4 k5 pp2) pp1 pp2 (by have := dep_mem m1; omega)
theorem dict_sum {ds es : List (Key × D)} {xs ys : List (Key × V)} {vs ws : List (Key × Value)} (r : RepK X.K G ds xs) (w : KV xs vs) (r' : RepK X.K G es ys) (w' : KV ys ws) (p1 : plainD (.dct ds) = true) :
    (vs.length == ws.length && vs.all fun p => (valueAt ws p.1).isSome && eqKJ ds es p.1) = eqD (.dct ds) (.dct es) := by
  have nd1 := of_decide_eq_true (Bool.and_eq_true_iff.mp p1).1
  rw [all_entries r' w' nd1 r w (fun p hp => hp), kv_len w, kv_len w', repk_len r, repk_len r']
  have e3 : decide (ds.length = es.length) = (ds.length == es.length) := by
    rw [Bool.eq_iff_iff]
    simp
  unfold eqD
  dsimp only
  rw [e3]
mutual
theorem eq_tree (I : Inv X pins σ H s) (ex : Same G H) : ∀ d : D, EqAll X G s d
  | .non => fun e u v n h1 h2 _ _ _ => tree_scal h1 h2 (.inl (by cases h1; exact fun _ => nofun))
  | .bl _ => fun e u v n h1 h2 _ _ _ => tree_scal h1 h2 (.inl (by cases h1; exact fun _ => nofun))
  | .int _ => fun e u v n h1 h2 _ _ _ => tree_scal h1 h2 (.inl (by cases h1; exact fun _ => nofun))
  | .str _ => fun e u v n h1 h2 _ _ _ => tree_scal h1 h2 (.inl (by cases h1; exact fun _ => nofun))
  | .lst ds => fun e u v n h1 h2 p1 p2 hn => by
    have ih := eq_treeS I ex ds
    by_cases hv : ∀ a, v ≠ .ref a
    · exact tree_scal h1 h2 (.inr hv)
    · by_cases huv : u = v
      · subst huv
        rw [eq_sameD I ex h1 h2 (fun d k => shp_reads I ex k) p1 p2]
        exact .same
      · cases h1 with
        | lst hl r w =>
          have hm : depDs ds + 1 ≤ n := hn
          obtain ⟨m, rfl⟩ : ∃ m, n = m + 1 := ⟨n - 1, by omega⟩
          have ne : ∀ {b : Addr}, v = .ref b → _ ≠ b := fun {b} e z => huv (by rw [e, ← z])
          cases h2 with
          | lst hl' r' w' =>
            rename_i es _ _
            have l1 := (Paired.length w).symm.trans r.length
            have l2 := (Paired.length w').symm.trans r'.length
            show PySem.W.EqTree X.prog X.w s (m + 1) _ _ (eqDs ds es)
            by_cases hz : ds.length = es.length
            · have t := PySem.W.EqTree.lists (prog := X.prog) (w := X.w) (n := m) (ne rfl) hl hl' (by simp; omega) (eq_listy I ex ih r w r' w' p1 p2 (by omega))
              have e1 := all_items ds es
              rw [← hz, Nat.min_self, show (ds.length == ds.length) = true by simp, Bool.and_true] at e1
              rw [← e1]
              rw [List.size_toArray, l1] at t
              exact t
            · have e1 : eqDs ds es = false := by
                rw [← all_items ds es, show (ds.length == es.length) = false by simpa using hz, Bool.and_false]
              rw [e1]
              exact .listsLen (ne rfl) hl hl' (by simp; omega)
          | tup hl' r' w' => exact leaf_of (d := .non) (e := .non) fun A hA => SeqAt.EqAt.list_tuple hl hl' hA
          | dct hs' h' r' w' z => exact leaf_of (d := .non) (e := .non) fun A hA => SeqAt.EqAt.of_refs (ne rfl) (rc_list_dict z hl hA)
          | _ => exact absurd (fun _ => nofun) hv
  | .tup ds => fun e u v n h1 h2 p1 p2 hn => by
    have ih := eq_treeS I ex ds
    by_cases hv : ∀ a, v ≠ .ref a
    · exact tree_scal h1 h2 (.inr hv)
    · by_cases huv : u = v
      · subst huv
        rw [eq_sameD I ex h1 h2 (fun d k => shp_reads I ex k) p1 p2]
        exact .same
      · cases h1 with
        | tup hl r w =>
          have hm : depDs ds + 1 ≤ n := hn
          obtain ⟨m, rfl⟩ : ∃ m, n = m + 1 := ⟨n - 1, by omega⟩
          have ne : ∀ {b : Addr}, v = .ref b → _ ≠ b := fun {b} e z => huv (by rw [e, ← z])
          cases h2 with
          | tup hl' r' w' =>
            rename_i es _ _
            have l1 := (Paired.length w).symm.trans r.length
            have l2 := (Paired.length w').symm.trans r'.length
            have t := PySem.W.EqTree.tuples (prog := X.prog) (w := X.w) (n := m) (ne rfl) hl hl' (eq_listy I ex ih r w r' w' p1 p2 (by omega))
            show PySem.W.EqTree X.prog X.w s (m + 1) _ _ (eqDs ds es)
            rw [← all_items ds es]
            rw [List.size_toArray, List.size_toArray, l1, l2] at t
            exact t
          | lst hl' r' w' => exact leaf_of (d := .non) (e := .non) fun A hA => SeqAt.EqAt.tuple_list hl hl' hA
          | dct hs' h' r' w' z => exact leaf_of (d := .non) (e := .non) fun A hA => SeqAt.EqAt.of_refs (ne rfl) (rc_tuple_dict z hl hA)
          | _ => exact absurd (fun _ => nofun) hv
  | .dct ds => fun e u v n h1 h2 p1 p2 hn => by
    have ih := eq_treeK I ex ds
    by_cases hv : ∀ a, v ≠ .ref a
    · exact tree_scal h1 h2 (.inr hv)
    · by_cases huv : u = v
      · subst huv
        rw [eq_sameD I ex h1 h2 (fun d k => shp_reads I ex k) p1 p2]
        exact .same
      · cases h1 with
        | dct hs hd r w z =>
          have hm : depDk ds + 1 ≤ n := hn
          obtain ⟨m, rfl⟩ : ∃ m, n = m + 1 := ⟨n - 1, by omega⟩
          have ne : ∀ {b : Addr}, v = .ref b → _ ≠ b := fun {b} e z => huv (by rw [e, ← z])
          cases h2 with
          | lst hl' r' w' => exact leaf_of (d := .non) (e := .non) fun A hA => SeqAt.EqAt.of_refs (ne rfl) (rc_dict_list z hl' hA)
          | tup hl' r' w' => exact leaf_of (d := .non) (e := .non) fun A hA => SeqAt.EqAt.of_refs (ne rfl) (rc_dict_tuple z hl' hA)
          | dct hs' hd' r' w' z' =>
            rename_i es xs' vs'
            have t := PySem.W.EqTree.dicts (prog := X.prog) (w := X.w) (n := m) (e := eqKJ ds es) (ne rfl) hs hs' hd hd' (entry_treesI I ex ih r w r' w' p1 p2 (by omega))
            rw [dict_sum r w r' w' p1] at t
            exact t
          | _ => exact absurd (fun _ => nofun) hv
  | .ins _ _ => fun e u v n h1 h2 p1 p2 hn => by cases p1
  | .exc _ _ => fun e u v n h1 h2 p1 p2 hn => by cases p1
  | .cls _ => fun e u v n h1 h2 p1 p2 hn => by cases p1
  | .typ _ => fun e u v n h1 h2 p1 p2 hn => by cases p1
  | .fn _ => fun e u v n h1 h2 p1 p2 hn => by cases p1
  | .scr _ => fun e u v n h1 h2 p1 p2 hn => by cases p1
theorem eq_treeS (I : Inv X pins σ H s) (ex : Same G H) : ∀ (ds : List D) (j : Nat) (d : D), ds[j]? = some d → EqAll X G s d
  | c :: ds, 0, d, e => by
    cases e
    exact eq_tree I ex c
  | c :: ds, j + 1, d, e => eq_treeS I ex ds j d e
theorem eq_treeK (I : Inv X pins σ H s) (ex : Same G H) : ∀ (ds : List (Key × D)) (k : Key) (d : D), (k, d) ∈ ds → EqAll X G s d
  | (j, c) :: ds, k, d, e => by
    rcases List.mem_cons.mp e with e | e
    · cases e
      exact eq_tree I ex c
    · exact eq_treeK I ex ds k d e
end
theorem entry_trees (I : Inv X pins σ H s) (ex : Same G H) {ds es : List (Key × D)} {xs ys : List (Key × V)} {vs ws : List (Key × Value)} (r : RepK X.K G ds xs) (w : KV xs vs) (r' : RepK X.K G es ys) (w' : KV ys ws)
    (p1 : plainD (.dct ds) = true) (p2 : plainD (.dct es) = true) {m : Nat} (hm : depDk ds ≤ m) : ∀ (k : Key) (u y : Value), (k, u) ∈ vs → valueAt ws k = some y → PySem.W.EqTree X.prog X.w s m u y (eqKJ ds es k) :=
  entry_treesI I ex (eq_treeK I ex ds) r w r' w' p1 p2 hm
end
end Mini
set_option maxHeartbeats 1000000
/-! Mini, part 17: == and != as operators. -/
namespace Mini
open PySem PySem.Spec PyProof.Rows L2
section
variable {X : Cx} {pins : List (Addr × Obj)} {σ : L2.St} {H G : Hp} {s : Shared}
/-- a scalar beside anything -/
theorem rc_scal {d e : D} {u v : Value} {A : Around} (hA : A.units < cLine) (h1 : Shp X G s d u) (h2 : Shp X G s e v) (hs : (∀ a, u ≠ .ref a) ∨ ∀ a, v ≠ .ref a) : SeqAt.RcAt A s u v (eqD d e) := by
  cases h1 with
  | non => cases h2 with
    | non => exact SeqAt.RcAt.none_none
    | bl b => exact SeqAt.RcAt.none_bool b
    | int i t => exact SeqAt.RcAt.none_int i t
    | str y t => exact SeqAt.RcAt.none_str y t
    | lst h r w => exact SeqAt.RcAt.none_list h hA
    | tup h r w => exact SeqAt.RcAt.none_tuple h hA
    | dct hs h r w z => exact rc_none_dict z hA
  | bl a => cases h2 with
    | non => exact SeqAt.RcAt.bool_none a
    | bl b => exact SeqAt.RcAt.bool_bool a b
    | int i t => exact SeqAt.RcAt.bool_int a i t
    | str y t => exact SeqAt.RcAt.bool_str a y t
    | lst h r w => exact SeqAt.RcAt.bool_list a h hA
    | tup h r w => exact SeqAt.RcAt.bool_tuple a h hA
    | dct hs h r w z => exact rc_bool_dict z a hA
  | int i t => cases h2 with
    | non => exact SeqAt.RcAt.int_none i t
    | bl b => exact SeqAt.RcAt.int_bool i t b
    | int j t' => exact SeqAt.RcAt.int_int i t j t'
    | str y t' => exact SeqAt.RcAt.int_str i t y t'
    | lst h r w => exact SeqAt.RcAt.int_list i t h hA
    | tup h r w => exact SeqAt.RcAt.int_tuple i t h hA
    | dct hs h r w z => exact rc_int_dict z i t hA
  | str x t => cases h2 with
    | non => exact SeqAt.RcAt.str_none x t
    | bl b => exact SeqAt.RcAt.str_bool x t b
    | int j t' => exact SeqAt.RcAt.str_int x t j t'
    | str y t' => exact SeqAt.RcAt.str_str x t y t'
    | lst h r w => exact SeqAt.RcAt.str_list x t h hA
    | tup h r w => exact SeqAt.RcAt.str_tuple x t h hA
    | dct hs h r w z => exact rc_str_dict z x t hA
  | lst h r w => cases h2 with
    | non => exact SeqAt.RcAt.list_none h hA
    | bl b => exact SeqAt.RcAt.list_bool b h hA
    | int j t' => exact SeqAt.RcAt.list_int j t' h hA
    | str y t' => exact SeqAt.RcAt.list_str y t' h hA
    | _ => exact hs.elim (fun z => absurd rfl (z _)) fun z => absurd rfl (z _)
  | tup h r w => cases h2 with
    | non => exact SeqAt.RcAt.tuple_none h hA
    | bl b => exact SeqAt.RcAt.tuple_bool b h hA
    | int j t' => exact SeqAt.RcAt.tuple_int j t' h hA
    | str y t' => exact SeqAt.RcAt.tuple_str y t' h hA
    | _ => exact hs.elim (fun z => absurd rfl (z _)) fun z => absurd rfl (z _)
  | dct hs' h r w z => cases h2 with
    | non => exact rc_dict_none z hA
    | bl b => exact rc_dict_bool z b hA
    | int j t' => exact rc_dict_int z j t' hA
    | str y t' => exact rc_dict_str z y t' hA
    | _ => exact hs.elim (fun z => absurd rfl (z _)) fun z => absurd rfl (z _)
theorem rc_top (I : Inv X pins σ H s) (ex : Same G H) {d e : D} {u v : Value} (h1 : Shp X G s d u) (h2 : Shp X G s e v) (p1 : plainD d = true) (p2 : plainD e = true) (hd : depD d ≤ 60) {A : Around} (hu : A.units + 64 < cLine) {Q E : Value → Shared → Prop} (q : Q (.bool (eqD d e)) s) :
    wpAny (model X.prog X.w) A (compareOp .Eq u v) Q E s := by
  have hA : A.units < cLine := by omega
  by_cases hs : (∀ a, u ≠ .ref a) ∨ ∀ a, v ≠ .ref a
  · exact rc_scal hA h1 h2 hs X.prog X.w E Q q
  · cases h1 with
    | lst hl r w =>
      rename_i ds _ _
      cases h2 with
      | lst hl' r' w' =>
        rename_i es _ _
        have l1 := (Paired.length w).symm.trans r.length
        have l2 := (Paired.length w').symm.trans r'.length
        have hm : depDs ds + 1 ≤ 60 := hd
        have q : Q (.bool (eqDs ds es)) s := q
        by_cases hz : ds.length = es.length
        · have e1 := all_items ds es
          rw [← hz, Nat.min_self, show (ds.length == ds.length) = true by simp, Bool.and_true] at e1
          rw [← e1] at q
          exact PySem.W.eq_listsT hl hl' (by simp; omega) (eq_listy I ex (eq_treeS I ex ds) r w r' w' p1 p2 (n := 60) (by omega)) (by omega) (by rw [List.size_toArray, l1]; exact q)
        · have e1 : eqDs ds es = false := by
            rw [← all_items ds es, show (ds.length == es.length) = false by simpa using hz, Bool.and_false]
          rw [e1] at q
          exact SeqAt.RcAt.lists_lengths hl hl' (by simp; omega) hA X.prog X.w E Q q
      | tup hl' r' w' => exact SeqAt.RcAt.list_tuple hl hl' hA X.prog X.w E Q q
      | dct hs' h' r' w' z => exact rc_list_dict z hl hA X.prog X.w E Q q
      | _ => exact absurd (.inr fun _ => nofun) hs
    | tup hl r w =>
      rename_i ds _ _
      cases h2 with
      | tup hl' r' w' =>
        rename_i es _ _
        have l1 := (Paired.length w).symm.trans r.length
        have l2 := (Paired.length w').symm.trans r'.length
        have hm : depDs ds + 1 ≤ 60 := hd
        have q : Q (.bool (eqDs ds es)) s := q
        rw [← all_items ds es] at q
        exact PySem.W.eq_tuplesT hl hl' (eq_listy I ex (eq_treeS I ex ds) r w r' w' p1 p2 (n := 60) (by omega)) (by omega) (by rw [List.size_toArray, List.size_toArray, l1, l2]; exact q)
      | lst hl' r' w' => exact SeqAt.RcAt.tuple_list hl hl' hA X.prog X.w E Q q
      | dct hs' h' r' w' z => exact rc_tuple_dict z hl hA X.prog X.w E Q q
      | _ => exact absurd (.inr fun _ => nofun) hs
    | dct hs1 hd1 r w z =>
      cases h2 with
      | lst hl' r' w' => exact rc_dict_list z hl' hA X.prog X.w E Q q
      | tup hl' r' w' => exact rc_dict_tuple z hl' hA X.prog X.w E Q q
      | dct hs2 hd2 r' w' z' =>
        rename_i ds _ _ _ es _ _ 
        refine PySem.W.eq_dictsT (knd := mixKind X.prog X.w) (n := 60) (e := eqKJ ds es) hs1 hs2 hd1 hd2 (entry_trees I ex r w r' w' p1 p2 (by have : depDk ds + 1 ≤ 60 := hd; omega)) (by omega) ?_
        rw [dict_sum r w r' w' p1]
        exact q
      | _ => exact absurd (.inr fun _ => nofun) hs
    | _ => exact absurd (.inl fun _ => nofun) hs
end
end Mini
set_option maxHeartbeats 1000000
/-! Mini, part 18: == and != as operators. -/
namespace Mini
open PySem PySem.Spec PyProof.Rows L2
section
variable {X : Cx} {W : WX} {H G : Hp}
def eqF (d e : D) : Option D := if plainD d = true ∧ plainD e = true ∧ depD d ≤ 60 then some (.bl (eqD d e)) else none
theorem ops_eqD (hu : X.A.units + 64 < cLine) : OpS X W (compareOp .Eq) (p2 eqF) := by
  refine opS_pure (r := fun x y H Q => ∃ G d e, Same G H ∧ Rep X.K G d x ∧ Rep X.K G e y ∧ plainD d = true ∧ plainD e = true ∧ depD d ≤ 60 ∧ Q (.bl (eqD d e)) H) (fun pins s σ H x y u v Q I rx ry ⟨G, d, e, ex, r1, r2, p1, p2, hd, q⟩ => ?_) fun G H a b d x y Q ex ra rb h q => ?_
  · exact rc_top I ex (shape_of I ex r1 rx p1) (shape_of I ex r2 ry p2) p1 p2 hd hu ⟨.bl _, H, I, rfl, q⟩
  · unfold eqF at h
    split at h
    · rename_i c
      cases h
      exact ⟨G, a, b, ex, ra, rb, c.1, c.2.1, c.2.2, q _ rfl⟩
    · cases h
mutual
def noDct : D → Bool
  | .lst ds => noDcts ds
  | .tup ds => noDcts ds
  | .non => true
  | .bl _ => true
  | .int _ => true
  | .str x => PyData.strOk x
  | .dct _ => false
  | .ins _ _ => false
  | .exc _ _ => false
  | .cls _ => false
  | .typ _ => false
  | .fn _ => false
  | .scr _ => false
def noDcts : List D → Bool
  | [] => true
  | d :: ds => noDct d && noDcts ds
end
mutual
theorem dp_of {K : PySem.W.Frag} (ex : Same G H) : ∀ (d : D) (v : V) (p : PyData), Rep K G d v → noDct d = true → pyD d = some p → Dp K H v p ∧ p.canLay0 = true ∧ p.depth = depD d
  | .non, v, p, r, _, e => by
    cases e
    rw [show v = .non from r]
    exact ⟨.non, rfl, rfl⟩
  | .bl b, v, p, r, _, e => by
    cases e
    rw [show v = .bl b from r]
    exact ⟨.bl b, rfl, rfl⟩
  | .int i, v, p, r, _, e => by
    cases e
    rw [show v = .int i from r]
    exact ⟨.int i, rfl, rfl⟩
  | .str x, v, p, r, h, e => by
    cases e
    rw [show v = .str x from r]
    exact ⟨.str x, h, rfl⟩
  | .lst ds, v, p, r, h, e => by
    unfold pyD at e
    obtain ⟨ps, e1, rfl⟩ := map_some e
    obtain ⟨a, xs, rfl, h1, h2⟩ := r
    obtain ⟨k1, k2, k3⟩ := dps_of ex ds xs ps h2 h e1
    refine ⟨.lst (SqL.of (ex _ _ h1)) k1, by unfold PyData.canLay0; exact k2, ?_⟩
    unfold PyData.depth depD
    omega
  | .tup ds, v, p, r, h, e => by
    unfold pyD at e
    obtain ⟨ps, e1, rfl⟩ := map_some e
    obtain ⟨a, xs, rfl, h1, h2⟩ := r
    obtain ⟨k1, k2, k3⟩ := dps_of ex ds xs ps h2 h e1
    refine ⟨.tup (sq_t ex h1) k1, by unfold PyData.canLay0; exact k2, ?_⟩
    unfold PyData.depth depD
    omega
  | .dct _, _, _, _, h, _ => by cases h
  | .ins _ _, _, _, _, h, _ => by cases h
  | .exc _ _, _, _, _, h, _ => by cases h
  | .cls _, _, _, _, h, _ => by cases h
  | .typ _, _, _, _, h, _ => by cases h
  | .fn _, _, _, _, h, _ => by cases h
  | .scr _, _, _, _, h, _ => by cases h
theorem dps_of {K : PySem.W.Frag} (ex : Same G H) : ∀ (ds : List D) (vs : List V) (ps : List PyData), Reps K G ds vs → noDcts ds = true → pyDs ds = some ps → DpAll K H vs ps ∧ PyData.canLayAll0 ps = true ∧ PyData.depthAll ps = depDs ds
  | [], vs, ps, r, _, e => by
    cases e
    rw [show vs = [] from r]
    exact ⟨.nil, rfl, rfl⟩
  | d :: ds, _, ps, ⟨v, vs, h1, h2, h3⟩, h, e => by
    subst h1
    unfold pyDs at e
    cases q1 : pyD d with
    | none =>
      rw [q1] at e
      cases e
    | some x => cases q2 : pyDs ds with
      | none =>
        rw [q1, q2] at e
        cases e
      | some xs =>
        rw [q1, q2] at e
        cases e
        obtain ⟨n1, n2⟩ := Bool.and_eq_true_iff.mp h
        obtain ⟨k1, k2, k3⟩ := dp_of ex d v x h2 n1 q1
        obtain ⟨m1, m2, m3⟩ := dps_of ex ds vs xs h3 n2 q2
        refine ⟨.cons k1 m1, by unfold PyData.canLayAll0; exact Bool.and_eq_true_iff.mpr ⟨k2, m2⟩, ?_⟩
        unfold PyData.depthAll depDs
        rw [k3, m3]
end
mutual
theorem eqv_eqD : ∀ (d e : D) (p q : PyData), noDct d = true → noDct e = true → pyD d = some p → pyD e = some q → PyData.eqv p q = eqD d e
  | .non, e, p, q, _, h, e1, e2 => by
    cases e1
    cases e <;> first | (cases e2; rfl) | (unfold pyD at e2; obtain ⟨_, _, rfl⟩ := map_some e2; rfl) | cases h
  | .bl b, e, p, q, _, h, e1, e2 => by
    cases e1
    cases e <;> first | (cases e2; rfl) | (unfold pyD at e2; obtain ⟨_, _, rfl⟩ := map_some e2; rfl) | cases h
  | .int b, e, p, q, _, h, e1, e2 => by
    cases e1
    cases e <;> first | (cases e2; rfl) | (unfold pyD at e2; obtain ⟨_, _, rfl⟩ := map_some e2; rfl) | cases h
  | .str b, e, p, q, _, h, e1, e2 => by
    cases e1
    cases e <;> first | (cases e2; rfl) | (unfold pyD at e2; obtain ⟨_, _, rfl⟩ := map_some e2; rfl) | cases h
  | .lst ds, e, p, q, g, h, e1, e2 => by
    unfold pyD at e1
    obtain ⟨ps, k1, rfl⟩ := map_some e1
    cases e with
    | lst es =>
      unfold pyD at e2
      obtain ⟨qs, k2, rfl⟩ := map_some e2
      unfold PyData.eqv eqD
      exact eqv_eqDs ds es ps qs g h k1 k2
    | _ => first | (cases e2; rfl) | (unfold pyD at e2; obtain ⟨_, _, rfl⟩ := map_some e2; rfl) | cases h
  | .tup ds, e, p, q, g, h, e1, e2 => by
    unfold pyD at e1
    obtain ⟨ps, k1, rfl⟩ := map_some e1
    cases e with
    | tup es =>
      unfold pyD at e2
      obtain ⟨qs, k2, rfl⟩ := map_some e2
      unfold PyData.eqv eqD
      exact eqv_eqDs ds es ps qs g h k1 k2
    | _ => first | (cases e2; rfl) | (unfold pyD at e2; obtain ⟨_, _, rfl⟩ := map_some e2; rfl) | cases h
  | .dct _, _, _, _, h, _, _, _ => by cases h
  | .ins _ _, _, _, _, h, _, _, _ => by cases h
  | .exc _ _, _, _, _, h, _, _, _ => by cases h
  | .cls _, _, _, _, h, _, _, _ => by cases h
  | .typ _, _, _, _, h, _, _, _ => by cases h
  | .fn _, _, _, _, h, _, _, _ => by cases h
  | .scr _, _, _, _, h, _, _, _ => by cases h
theorem eqv_eqDs : ∀ (ds es : List D) (ps qs : List PyData), noDcts ds = true → noDcts es = true → pyDs ds = some ps → pyDs es = some qs → PyData.eqvAll ps qs = eqDs ds es
  | [], es, ps, qs, _, h, e1, e2 => by
    cases e1
    cases es with
    | nil =>
      cases e2
      rfl
    | cons e es =>
      unfold pyDs at e2
      cases q1 : pyD e <;> cases q2 : pyDs es <;> rw [q1, q2] at e2 <;> cases e2
      rfl
  | d :: ds, es, ps, qs, g, h, e1, e2 => by
    unfold pyDs at e1
    cases q1 : pyD d with
    | none =>
      rw [q1] at e1
      cases e1
    | some x => cases q2 : pyDs ds with
      | none =>
        rw [q1, q2] at e1
        cases e1
      | some xs =>
        rw [q1, q2] at e1
        cases e1
        cases es with
        | nil =>
          cases e2
          rfl
        | cons e es =>
          unfold pyDs at e2
          cases q3 : pyD e with
          | none =>
            rw [q3] at e2
            cases e2
          | some y => cases q4 : pyDs es with
            | none =>
              rw [q3, q4] at e2
              cases e2
            | some ys =>
              rw [q3, q4] at e2
              cases e2
              obtain ⟨g1, g2⟩ := Bool.and_eq_true_iff.mp g
              obtain ⟨h1, h2⟩ := Bool.and_eq_true_iff.mp h
              show (PyData.eqv x y && PyData.eqvAll xs ys) = (eqD d e && eqDs ds es)
              rw [eqv_eqD d e x y g1 h1 q1 q3, eqv_eqDs ds es xs ys g2 h2 q2 q4]
end
def neF (d e : D) : Option D := if plainD d = true ∧ plainD e = true ∧ noDct d = true ∧ noDct e = true ∧ depD d ≤ 60 ∧ depD e ≤ 60 then some (.bl (!eqD d e)) else none
theorem ops_neD (hu : X.A.units + 64 < cLine) : OpS X W (compareOp .NotEq) (p2 neF) := opS_pure (op_neD hu) fun G H a b d x y Q ex ra rb h q => by
  unfold neF at h
  split at h
  · rename_i c
    cases h
    obtain ⟨c1, c2, c3, c4, c5, c6⟩ := c
    obtain ⟨p, e1⟩ := pyD_some a c1
    obtain ⟨p', e2⟩ := pyD_some b c2
    obtain ⟨k1, k2, k3⟩ := dp_of ex a x p ra c3 e1
    obtain ⟨m1, m2, m3⟩ := dp_of ex b y p' rb c4 e2
    have s1 : SeqAt.shaped p = true := Bool.and_eq_true_iff.mpr ⟨k2, decide_eq_true (by omega)⟩
    have s2 : SeqAt.shaped p' = true := Bool.and_eq_true_iff.mpr ⟨m2, decide_eq_true (by omega)⟩
    refine ⟨p, p', k1, m1, s1, s2, q _ ?_⟩
    rw [eqv_eqD a b p p' c3 c4 e1 e2]
    rfl
  · cases h
/-- scalars -/
def neS : D → D → Option D
  | .int i, .int j => some (.bl (!decide (i = j)))
  | .str x, .str y => some (.bl (!decide (x = y)))
  | .bl a, .bl b => some (.bl (!decide (a = b)))
  | .non, .non => some (.bl false)
  | .non, .int _ | .int _, .non | .non, .str _ | .str _, .non | .non, .bl _ | .bl _, .non | .int _, .str _ | .str _, .int _ | .bl _, .str _ | .str _, .bl _ => some (.bl true)
  | _, _ => none
theorem ops_neS : OpS X W (compareOp .NotEq) (p2 neS) := opS_pure op_ne fun G H a b d x y Q ex ra rb h q => by
  unfold neS at h
  split at h <;> first
    | (cases h; rw [show x = _ from ra, show y = _ from rb]; refine ⟨rfl, ?_⟩; have z := q _ rfl; simpa using z)
    | cases h
abbrev gNe : D → D → M D := orM (p2 neS) (p2 neF)
theorem ops_ne (hu : X.A.units + 64 < cLine) : OpS X W (compareOp .NotEq) gNe := ops_neS.or (ops_neD hu)
end
end Mini
set_option maxHeartbeats 1000000
/-! Mini, part 22: promises for positional calls; *parts; instances made. -/
namespace Mini
open PySem PySem.Spec PyProof.Rows L2
/-- a promise for positional calls, where no repr is under way -/
def FnP (P : Program) (w : World) (K : PySem.W.Frag) (mg : Str → Option Value) (base : Heap) (k : Nat) (f : Addr) (sp : Sp) : Prop :=
  ∀ (A : Around) (below : List Env) (s : Shared) (H : Hp) (us : List Value) (vs : List V) (Q : VK) (E : XK), A.guards = some [] → Room k A → Env0 P w K mg base A below s H → Vals vs us → sp vs H Q E →
    codeAny (model P w) A (.call (.ref f) ⟨us, []⟩) (CR (L2.CX P w) below P w H s Q E) s
/-- any number of arguments -/
def spV (K : PySem.W.Frag) (run : Run) : Sp := fun vs H Q E => ∃ B args G, Rel K B args G (vs.map some) H ∧ PostF K B G H (run args) Q E
/-- with just n arguments -/
def lenRun (n : Nat) (run : Run) : Run := fun args => if args.length = n then run args else .stuck
section
variable {P : Program} {w : World} {K : PySem.W.Frag} {mg : Str → Option Value} {base : Heap} {k : Nat} {f : Addr} {fd : FuncData} {ps : List Str} {run : Run}
theorem FnG.toP (F : FnG P w K mg base k f fd ps (spM K ps.length run)) (hb : ∀ (s : Shared) (us : List Value), us.length = ps.length → BindsTo s fd ⟨us, []⟩ (ps.zip us)) : FnP P w K mg base k f (spV K (lenRun ps.length run)) := by
  rintro A below s H us vs Q E hg hr e0 rv ⟨B, args, G, rl, post⟩
  unfold lenRun at post
  split at post
  · rename_i hl
    have l1 : vs.length = ps.length := by
      have := rl.len
      rw [List.length_map] at this
      omega
    exact F.run A below s H ⟨us, []⟩ us vs Q E hg hr e0 (hb s us (by rw [← Paired.length rv]; exact l1)) rv ⟨l1, B, args, G, rl, post⟩
  · exact post.elim
theorem FnP.mono {sp : Sp} {j : Nat} (F : FnP P w K mg base j f sp) (h : j ≤ k) : FnP P w K mg base k f sp := fun A below s H us vs Q E hg hr => F A below s H us vs Q E hg (hr.mono h)
/-- the arguments behind the first n, as data -/
def vals : List Sl → Option (List D)
  | [] => some []
  | .val d :: r => (vals r).map (d :: ·)
  | _ => none
def starRun (n : Nat) (run : Run) : Run := fun args => if n ≤ args.length ∧ args.length ≤ LIM then (match vals (args.drop n) with
  | some ds => run (args.take n ++ [.val (.tup ds)])
  | none => .stuck) else .stuck
theorem vals_len : ∀ {l : List Sl} {ds : List D}, vals l = some ds → ds.length = l.length
  | [], _, h => by
    cases h
    rfl
  | .val d :: r, _, h => by
    unfold vals at h
    obtain ⟨as, q, rfl⟩ := map_some h
    exact congrArg Nat.succ (vals_len q)
  | .no :: r, _, h => by cases h
  | .own _ :: r, _, h => by cases h
theorem vals_at : ∀ {l : List Sl} {ds : List D}, vals l = some ds → l = ds.map .val
  | [], _, h => by
    cases h
    rfl
  | .val d :: r, _, h => by
    unfold vals at h
    obtain ⟨as, q, rfl⟩ := map_some h
    rw [List.map_cons, ← vals_at q]
  | .no :: r, _, h => by cases h
  | .own _ :: r, _, h => by cases h
theorem reps_of {G : Hp} : ∀ {ds : List D} {vs : List V}, ds.length = vs.length → (∀ (i : Nat) (d : D), ds[i]? = some d → ∃ v, vs[i]? = some v ∧ Rep K G d v) → Reps K G ds vs
  | [], [], _, _ => rfl
  | [], _ :: _, h, _ => by cases h
  | _ :: _, [], h, _ => by cases h
  | d :: ds, v :: vs, h, k => by
    obtain ⟨v', e, r⟩ := k 0 d rfl
    cases e
    exact ⟨v, vs, rfl, r, reps_of (by simpa using h) fun i c e => k (i + 1) c e⟩
theorem fnP_star {name qual pv : Str} {params : Arguments} {body : List Stmt} {scope : Scope} {dV kV doc pm cdv ct oc : Value} {an od : Option Addr} {osl : Array (Option Value)} {N : List Str} {m : MS}
    (lk : K.lookup f = some ⟨oc, od, .func (PySem.W.fnOf name qual params body scope dV kV doc pm an cdv ct), osl⟩) (hcd : PySem.W.codeIn K cdv qual = true) (S : FnScope N (ps ++ [pv]) scope)
    (hb : ∀ us rest : List Value, us.length = ps.length → bindArgs (PySem.W.fnOf name qual params body scope dV kV doc pm an cdv ct) ⟨us ++ rest, []⟩ = (newTuple rest >>= fun t => pure (ps.zip us ++ [(pv, t)])))
    (hm : ∀ (A : Around) (below : List Env) (s : Shared) (H : Hp) (E : XK), A.guards = some [] → Room k (A.deeper (envOfC qual scope s.heap.objs.size f cdv)) → SSs (cxOf (L2.CX P w) P w K mg base N qual scope f cdv A below s H E) (fun C d _ H1 => E C d H1) (some (ps ++ [pv]).length) body m) :
    FnP P w K mg base (k + 1) f (spV K (starRun ps.length (bodyRun N.length m))) := by
  rintro A below s H us vs Q E hg hr e0 rv ⟨B, args, G, rl, post⟩
  have la : args.length = vs.length := by
    have := rl.len
    rw [List.length_map] at this
    exact this
  have lB : B.length = vs.length := by
    have := rl.lenA
    rw [List.length_map] at this
    exact this
  unfold starRun at post
  split at post
  · rename_i hn
    cases q : vals (args.drop ps.length) with
    | none =>
      rw [q] at post
      exact post.elim
    | some ds =>
      rw [q] at post
      dsimp only at post
      have ld := vals_len q
      have at' := vals_at q
      rw [List.length_drop] at ld
      obtain ⟨hn1, hn2⟩ := hn
      have lw : (vs.take ps.length).length = ps.length := by
        rw [List.length_take]
        omega
      have hus := Paired.length rv
      have rv1 : Vals (vs.take ps.length) (us.take ps.length) ∧ Vals (vs.drop ps.length) (us.drop ps.length) := by
        obtain ⟨u1, u2, e, r1, r2⟩ := StX.vals_split (ws := vs.take ps.length) (rest := vs.drop ps.length) (by rw [List.take_append_drop]; exact rv)
        have l1 : u1.length = ps.length := by
          rw [← Paired.length r1]
          exact lw
        rw [e, List.take_left' l1, List.drop_left' l1]
        exact ⟨r1, r2⟩
      have hz : (vs.drop ps.length).length ≤ sizeLine := by
        rw [List.length_drop]
        exact lim_ok (by omega)
      refine StX.run_bnd lk hcd S hr e0 (G := fun xs H2 => ∃ p, H p = none ∧ xs = vs.take ps.length ++ [V.ref p] ∧ H2 = upd H p (.tup (vs.drop ps.length))) (fun A' Ex Q' h => ?_) fun s2 H2 xs ⟨p, hp, ex, eH⟩ hr' => ?_
      · have lu : (us.take ps.length).length = ps.length := by
          rw [← Paired.length rv1.1]
          exact lw
        rw [← List.take_append_drop ps.length us, hb _ _ lu]
        refine wpAny_bind (wpAny_newTuple (wpAny_pure ?_) (by rw [← Paired.length rv1.2]; exact hz))
        have hf : H s.heap.objs.size = none := e0.hok.fresh (Nat.le_refl _)
        have ok : ObjOk P w (upd H s.heap.objs.size (.tup (vs.drop ps.length))) (s.heap.push ({ cls := .type "tuple", data := .seq (us.drop ps.length).toArray } : Obj)) s.heap.objs.size (.tup (vs.drop ps.length)) := ⟨hz, _, rv1.2, ⟨_, Heap.get?_push_size _ rfl, rfl, _, rfl⟩⟩
        have un := StX.un_laid (fs := frs below) (s := s) (o := ({ cls := .type "tuple", data := .seq (us.drop ps.length).toArray } : Obj)) (u := .tup (vs.drop ps.length)) hf
        have go := h _ _ (vs.take ps.length ++ [V.ref s.heap.objs.size]) (us.take ps.length ++ [Value.ref s.heap.objs.size]) (StX.env0_laid e0 ok) un rfl (fun e s' => StX.cxUp below s H _ _ E e s' un (fun b o y => Heap.get?_push_of_some _ y) rfl) (rv1.1.append (.cons rfl .nil))
          (by rw [List.length_append, List.length_append, lw]; rfl) ⟨_, hf, rfl, rfl⟩
        rw [List.zip_append lu.symm] at go
        exact go
      · subst ex eH
        have hGp : G p = none := rl.ex.free hp
        have hpB : some p ∉ B := fun z => (rl.off p z).2 hp
        have sg := same_upd (o := HO.tup (vs.drop ps.length)) hGp
        have sh := same_upd (o := HO.tup (vs.drop ps.length)) hp
        have Bdrop : ∀ (i : Nat) (a : Addr), B[i]? = some (some a) → i < ps.length := fun i a hi => by
          obtain ⟨d, hd⟩ := rl.has i a hi
          refine Nat.lt_of_not_le fun hge => ?_
          have e2 : (args.drop ps.length)[i - ps.length]? = some (.own d) := by
            rw [List.getElem?_drop, show ps.length + (i - ps.length) = i by omega]
            exact hd
          rw [at', List.getElem?_map] at e2
          cases z : ds[i - ps.length]? <;> rw [z] at e2 <;> cases e2
        have tk : ∀ {α : Type} {l : List α} {x y : α} {i : Nat}, l.length = vs.length → (l.take ps.length ++ [y])[i]? = some x → (i < ps.length ∧ l[i]? = some x) ∨ (i = ps.length ∧ x = y) := fun {α l x y i} hl e => by
          have lt : (l.take ps.length).length = ps.length := by
            rw [List.length_take]
            omega
          by_cases hi : i < ps.length
          · rw [List.getElem?_append_left (by omega), List.getElem?_take_of_lt hi] at e
            exact .inl ⟨hi, e⟩
          · rw [List.getElem?_append_right (by omega), lt] at e
            have : i - ps.length = 0 := by
              have := (List.getElem?_eq_some_iff.mp e).1
              simp at this
              omega
            rw [this] at e
            exact .inr ⟨by omega, (Option.some.inj e).symm⟩
        have kt : ∀ {α : Type} {l : List α} {x y : α} {i : Nat}, l.length = vs.length → i < ps.length → l[i]? = some x → (l.take ps.length ++ [y])[i]? = some x := fun {α l x y i} hl hi e => by
          rw [List.getElem?_append_left (by rw [List.length_take]; omega), List.getElem?_take_of_lt hi]
          exact e
        have rrest : Reps K G ds (vs.drop ps.length) := reps_of (by rw [List.length_drop]; omega) fun i d hd => by
          have e2 : args[ps.length + i]? = some (.val d) := by
            rw [← List.getElem?_drop, at', List.getElem?_map, hd]
            rfl
          obtain ⟨v, h1, h2⟩ := rl.val _ d e2
          rw [List.getElem?_map] at h1
          cases z : vs[ps.length + i]? with
          | none =>
            rw [z] at h1
            cases h1
          | some v' =>
            rw [z] at h1
            cases h1
            exact ⟨v, by rw [List.getElem?_drop]; exact z, h2⟩
        have mem : ∀ a, some a ∈ B.take ps.length ++ [none] ↔ some a ∈ B := fun a => by
          refine ⟨fun h => ?_, fun h => ?_⟩
          · obtain ⟨i, hi⟩ := List.mem_iff_getElem?.mp h
            rcases tk lB hi with ⟨_, e⟩ | ⟨_, e⟩
            · exact List.mem_of_getElem? e
            · cases e
          · obtain ⟨i, hi⟩ := List.mem_iff_getElem?.mp h
            exact List.mem_of_getElem? (kt lB (Bdrop i a hi) hi)
        have lst : (ps ++ [pv]).length = ps.length + 1 := by simp
        refine body_reads (hm A below s2 _ E hg hr') ⟨by rw [List.length_append, lw, lst]; rfl, B.take ps.length ++ [none], args.take ps.length ++ [.val (.tup ds)], upd G p (.tup (vs.drop ps.length)), ?_, ?_⟩
        · refine ⟨same_upds rl.ex, by simp; omega, by simp; omega, fun i d e => ?_, fun i d e => ?_, fun a h => ?_, fun i j a h1 h2 => ?_, fun i a h => ?_⟩
          · rcases tk la e with ⟨hi, e⟩ | ⟨hi, e⟩
            · obtain ⟨v, h1, h2⟩ := rl.val i d e
              refine ⟨v, ?_, h2.mono sg⟩
              rw [List.map_append, List.map_take]
              exact kt (by simp) hi h1
            · cases e
              subst hi
              refine ⟨.ref p, ?_, p, vs.drop ps.length, rfl, .inl (.inl upd_same), rrest.mono sg⟩
              rw [List.map_append, List.map_take]
              have lt : ((vs.map some).take ps.length).length = ps.length := by
                rw [List.length_take, List.length_map]
                omega
              rw [List.getElem?_append_right (Nat.le_of_eq lt), lt, Nat.sub_self]
              rfl
          · rcases tk la e with ⟨hi, e⟩ | ⟨hi, e⟩
            · obtain ⟨a, o, h1, h2, h3, h4⟩ := rl.own i d e
              refine ⟨a, o, kt lB hi h1, ?_, sh _ _ h3, h4.mono sg⟩
              rw [List.map_append, List.map_take]
              exact kt (by simp) hi h2
            · cases e
          · obtain ⟨h1, h2⟩ := rl.off a ((mem a).mp h)
            have na : a ≠ p := fun z => hpB (z ▸ (mem a).mp h)
            rw [upd_ne na, upd_ne na]
            exact ⟨h1, h2⟩
          · rcases tk lB h1 with ⟨_, e1⟩ | ⟨_, e1⟩
            · rcases tk lB h2 with ⟨_, e2⟩ | ⟨_, e2⟩
              · exact rl.inj i j a e1 e2
              · cases e2
            · cases e1
          · rcases tk lB h with ⟨hi, e1⟩ | ⟨_, e1⟩
            · obtain ⟨d, q2⟩ := rl.has i a e1
              exact ⟨d, kt la hi q2⟩
            · cases e1
        · have outs : ∀ {G' H' : Hp} {e' : En}, Outs K (B.take ps.length ++ [none]) G' H' e' → Outs K B G' H' e' := fun {G' H' e'} o i a hi => o i a (kt lB (Bdrop i a hi) hi)
          have adv : ∀ {G' H' : Hp}, Adv (B.take ps.length ++ [none]) (upd G p (.tup (vs.drop ps.length))) (upd H p (.tup (vs.drop ps.length))) G' H' → Adv B G H G' H' := fun {G' H'} a => (Adv.laid rl.ex hp).trans ⟨a.g, a.new, fun b o nb => a.fr b o fun z => nb ((mem b).mp z), a.th⟩
          cases r : bodyRun N.length m (args.take ps.length ++ [.val (.tup ds)]) with
          | ok d e' =>
            rw [r] at post
            exact fun G' H' v ex ad ou ro => post G' H' v ex (adv ad) (outs ou) (ro.down fun b hb => by
              by_cases z : b = p
              · exact z ▸ hp
              · rw [upd_ne z] at hb
                exact hb)
          | err x e' =>
            rw [r] at post
            exact fun G' H' C d ex ad ou xr => post G' H' C d ex (adv ad) (outs ou) xr
          | stuck =>
            rw [r] at post
            exact post.elim
  · exact post.elim
end
end Mini
set_option maxHeartbeats 1000000
/-! Mini, part 23: instances made, their attributes stored. -/
namespace Mini
open PySem PySem.Spec PyProof.Rows L2
section
variable {X : Cx} {W : WX} {k : Nat} {f C : Addr} {sp : Sp}
theorem run_fnP {pins : List (Addr × Obj)} {σ : L2.St} {H : Hp} {s : Shared} {Q : VK} {us : List Value} {vs : List V} (F : FnP X.prog X.w X.K X.mg X.base k f sp) (hg : X.A.guards = some []) (hr : Room k X.A) (tk : Takes X W) (I : Inv X pins σ H s) (r : Vals vs us) (h : sp vs H Q (WE W σ)) :
    wpAny (model X.prog X.w) X.A (call (.ref f) us) (EP X pins σ Q) X.xe s := by
  refine wpAny_call (codeAny_mono (F X.A X.stack s H us vs Q (WE W σ) hg hr I.env0 r h) fun r s' q => ?_)
  cases r with
  | error e => exact passAt tk σ pins H s e s' I q
  | ok fl => cases fl with
    | ret u => exact I.after q
    | next => exact q.elim
    | brk => exact q.elim
    | cont => exact q.elim
theorem pe_callP {x : Str} {p pos : Pos} {e : Expr} {es : List Expr} {t : TA} (F : FnP X.prog X.w X.K X.mg X.base k f sp) (hgu : X.A.guards = some []) (hr : Room k X.A) (hg : Gl X x) (hm : X.mg x = some (.ref f)) (hk : PySem.W.keepIn X.K (.ref f) = true) (tk : Takes X W) (ha : PA X (e :: es) t)
    (hdb : (x == ("__debug__" : Str)) = false) (he : starEach (e :: es) X.env = (false, eval e X.env) :: starEach es X.env) (hpl : (backTo pos (starEach es X.env)).any (·.1) = false) : PE X (.Call (.Name x p) (e :: es) [] pos) (tCallG sp W t) := by
  refine ⟨fun pins s σ H Q I h => wpAny_Call_Name_kw (ld_glob I hg hm ?_ hdb)⟩
  exact PySem.W.callWith_K (h₀ := X.base) I.ok.mod.kin hk (thn (ha.run pos pins s σ H _ I h) fun us s1 ⟨vs, H1, I1, r, q⟩ => ⟨I1.kIn, run_fnP F hgu hr tk I1 r q⟩) he hpl
theorem pe_callP0 {x : Str} {p pos : Pos} (F : FnP X.prog X.w X.K X.mg X.base k f sp) (hgu : X.A.guards = some []) (hr : Room k X.A) (hg : Gl X x) (hm : X.mg x = some (.ref f)) (hk : PySem.W.keepIn X.K (.ref f) = true) (tk : Takes X W) (hdb : (x == ("__debug__" : Str)) = false) :
    PE X (.Call (.Name x p) [] [] pos) (tCallG sp W tNil) := by
  refine ⟨fun pins s σ H Q I h => wpAny_Call_Name_kw (ld_glob I hg hm ?_ hdb)⟩
  exact PySem.W.callWith_K0 I.kIn hk (run_fnP (us := []) F hgu hr tk I .nil h)
/-- the reading of a call, any number of arguments -/
theorem call_treeV {run : Run} {ma : M (List Ag)} {t : TA} (k : ∀ A env G σ H (Q : List V → Hp → Prop), Rel X.K A env G σ H → Post X.K A G σ H W (ma env) (fun ds _ G' H' => ∀ vs, RepAgs X.K A G' ds vs → Q vs H') → t σ H Q)
    {A : List (Option Addr)} {env : En} {G : Hp} {σ : L2.St} {H : Hp} {Q : VK} (rl : Rel X.K A env G σ H) (h : Post X.K A G σ H W (callM run ma env) fun r _ G' H' => ∀ v, RetOk X.K G' H' H r v → Q v H') : tCallG (spV X.K run) W t σ H Q := by
  refine k A env G σ H _ rl (Post.mono (Post.bind h) fun ags e1 G1 H1 ad rl1 z vs rv => ?_)
  exact (call_reads rl1 (Post.mono z fun r e2 G2 H2 ad2 rl2 y v w => y v (w.down ad.th)) rv rfl).2
theorem sv_callP {x : Str} {p pos : Pos} {run : Run} {e : Expr} {es : List Expr} {ma : M (List Ag)} (F : FnP X.prog X.w X.K X.mg X.base k f (spV X.K run)) (hgu : X.A.guards = some []) (hr : Room k X.A) (hg : Gl X x) (hm : X.mg x = some (.ref f)) (hk : PySem.W.keepIn X.K (.ref f) = true) (tk : Takes X W) (ha : SAg X W (e :: es) ma)
    (hdb : (x == ("__debug__" : Str)) = false) (he : starEach (e :: es) X.env = (false, eval e X.env) :: starEach es X.env) (hpl : (backTo pos (starEach es X.env)).any (·.1) = false) : SV X W (.Call (.Name x p) (e :: es) [] pos) (callM run ma) := by
  obtain ⟨t, pt, kt⟩ := ha
  exact ⟨_, pe_callP F hgu hr hg hm hk tk pt hdb he hpl, fun A env G σ H Q rl h => call_treeV kt rl h⟩
theorem sv_callP0 {x : Str} {p pos : Pos} {run : Run} (F : FnP X.prog X.w X.K X.mg X.base k f (spV X.K run)) (hgu : X.A.guards = some []) (hr : Room k X.A) (hg : Gl X x) (hm : X.mg x = some (.ref f)) (hk : PySem.W.keepIn X.K (.ref f) = true) (tk : Takes X W) (hdb : (x == ("__debug__" : Str)) = false) : SV X W (.Call (.Name x p) [] [] pos) (callM run (ret [])) :=
  ⟨_, pe_callP0 F hgu hr hg hm hk tk hdb, fun A env G σ H Q rl h => call_treeV (ma := ret []) (t := tNil) (fun A env G σ H Q rl h => Post.here h rl [] rfl) rl h⟩
/-! ### C(..), a plain class with its own __init__ -/
def tMkP (C : Addr) (sp : Sp) (W : WX) (t : TA) : TE := fun σ H Q => t σ H fun vs H1 => ∀ x dx, H1 x = none → H1 dx = none → dx ≠ x → sp (.ref x :: vs) (upd (upd H1 dx (.own x)) x (.ins C dx [])) (fun v H2 => v = .non ∧ Q (.ref x) H2) (WE W σ)
theorem run_mkP {pins : List (Addr × Obj)} {σ : L2.St} {H : Hp} {s : Shared} {Q : VK} {us : List Value} {vs : List V} (M : Mk X.K C f) (F : FnP X.prog X.w X.K X.mg X.base k f sp) (hg : X.A.guards = some []) (hr : Room (k + 1) X.A) (tk : Takes X W) (I : Inv X pins σ H s) (r : Vals vs us)
    (h : ∀ x dx, H x = none → H dx = none → dx ≠ x → sp (.ref x :: vs) (upd (upd H dx (.own x)) x (.ins C dx [])) (fun v H2 => v = .non ∧ Q (.ref x) H2) (WE W σ)) : wpAny (model X.prog X.w) X.A (call (.ref C) us) (EP X pins σ Q) X.xe s := by
  have hq := h (s.heap.objs.size + 1) s.heap.objs.size (I.hok.fresh (Nat.le_succ _)) (I.hok.fresh (Nat.le_refl _)) (Nat.ne_of_lt (Nat.lt_succ_self _))
  have J := Inv.made (C := C) I
  refine wpAny_call (make_map (f := f) I.kIn M.makes M.init (beq_iff_eq.mp M.fn) (codeAny_mono (F _ X.stack _ _ (Value.ref (s.heap.objs.size + 1) :: us) (V.ref (s.heap.objs.size + 1) :: vs) _ (WE W σ) (guards_make hg) (hr.make C us []) (J.env0.make C us []) (.cons rfl r) hq) fun r s' q => ?_))
  cases r with
  | error e => exact passAt tk σ pins _ _ e s' J q
  | ok fl => cases fl with
    | ret u =>
      obtain ⟨v, H', J2, rv, ev, q3⟩ := J.after q
      subst ev
      exact ⟨rv, ⟨V.ref (s.heap.objs.size + 1), H', J2, rfl, q3⟩⟩
    | next => exact q.elim
    | brk => exact q.elim
    | cont => exact q.elim
theorem pe_mkP {x : Str} {p pos : Pos} {e : Expr} {es : List Expr} {t : TA} (M : Mk X.K C f) (F : FnP X.prog X.w X.K X.mg X.base k f sp) (hgu : X.A.guards = some []) (hr : Room (k + 1) X.A) (hg : Gl X x) (hm : X.mg x = some (.ref C)) (tk : Takes X W) (ha : PA X (e :: es) t)
    (hdb : (x == ("__debug__" : Str)) = false) (he : starEach (e :: es) X.env = (false, eval e X.env) :: starEach es X.env) (hpl : (backTo pos (starEach es X.env)).any (·.1) = false) : PE X (.Call (.Name x p) (e :: es) [] pos) (tMkP C sp W t) := by
  refine ⟨fun pins s σ H Q I h => wpAny_Call_Name_kw (ld_glob I hg hm ?_ hdb)⟩
  exact PySem.W.callWith_K (h₀ := X.base) I.ok.mod.kin M.kp (thn (ha.run pos pins s σ H _ I h) fun us s1 ⟨vs, H1, I1, r, q⟩ => ⟨I1.kIn, run_mkP M F hgu hr tk I1 r q⟩) he hpl
/-- an instance, by data -/
def mkM (c : Str) (run : Run) (ma : M (List Ag)) : M Rv := fun e => (ma e).bind fun ags e1 => match enter e1 ags with
  | some args => if (lents ags).Nodup then (match run (.own (.ins c []) :: args) with
    | .ok (.sh .non) e' => (match (e'[0]? : Option Sl) with
      | some (Sl.own d) => .ok (.ow d) (leave e1 e'.tail ags 0)
      | _ => .stuck)
    | .ok _ _ => .stuck
    | .err x e' => .err x (leave e1 e'.tail ags 0)
    | .stuck => .stuck) else .stuck
  | none => .stuck
theorem mk_reads {c : Str} {A : List (Option Addr)} {e1 : En} {G1 H1 : Hp} {σ : L2.St} {run : Run} {ags : List Ag} {vs : List V} {Qv : VK} (rl : Rel X.K A e1 G1 σ H1)
    (h : Post X.K A G1 σ H1 W (match enter e1 ags with
      | some args => if (lents ags).Nodup then (match run (.own (.ins c []) :: args) with
        | .ok (.sh .non) e' => (match (e'[0]? : Option Sl) with
          | some (Sl.own d) => R.ok (Rv.ow d) (leave e1 e'.tail ags 0)
          | _ => .stuck)
        | .ok _ _ => .stuck
        | .err x e' => .err x (leave e1 e'.tail ags 0)
        | .stuck => .stuck) else .stuck
      | none => .stuck) fun r _ G' H' => ∀ v, RetOk X.K G' H' H1 r v → Qv v H') (rv : RepAgs X.K A G1 ags vs) :
    ∀ x dx, H1 x = none → H1 dx = none → dx ≠ x → spV X.K run (.ref x :: vs) (upd (upd H1 dx (.own x)) x (.ins (He.ga X.K c) dx [])) (fun v H2 => v = .non ∧ Qv (.ref x) H2) (WE W σ) := by
  intro x dx hx hd hne
  cases he : enter e1 ags with
  | none =>
    rw [he] at h
    exact h.elim
  | some args =>
    rw [he] at h
    dsimp only at h
    split at h
    · rename_i nd
      have r0 := rl.enter rv he nd
      have hG : G1 x = none := rl.ex.free hx
      have hGd : G1 dx = none := rl.ex.free hd
      have hxB : some x ∉ Bof A ags := fun z => (r0.off x z).2 hx
      have old : ∀ b, b ≠ x → b ≠ dx → upd (upd H1 dx (.own x)) x (.ins (He.ga X.K c) dx []) b = H1 b := fun b h1 h2 => by rw [upd_ne h1, upd_ne h2]
      have up : ∀ b o, H1 b = some o → upd (upd H1 dx (.own x)) x (.ins (He.ga X.K c) dx []) b = some o := fun b o q => by
        rw [old b (ne_of_none q hx) (ne_of_none q hd)]
        exact q
      have nx : some x ∉ A := fun z => (rl.off x z).2 hx
      have back : ∀ {G' H' : Hp}, Adv (some x :: Bof A ags) G1 (upd (upd H1 dx (.own x)) x (.ins (He.ga X.K c) dx [])) G' H' → Adv (Bof A ags) G1 H1 G' H' := fun {G' H'} a => by
        have th : ∀ b, upd (upd H1 dx (.own x)) x (.ins (He.ga X.K c) dx []) b = none → H1 b = none := fun b q => by
          by_cases h1 : b = x
          · exact h1 ▸ hx
          · by_cases h2 : b = dx
            · exact h2 ▸ hd
            · rw [old b h1 h2] at q
              exact q
        refine ⟨a.g, fun b o q => (a.new b o q).imp id (th b), fun b o nb q => a.fr b o (fun z => ?_) (up b o q), fun b q => th b (a.th b q)⟩
        rcases List.mem_cons.mp z with z | z
        · cases z
          rw [hx] at q
          cases q
        · exact nb z
      have tl : ∀ {G' H' : Hp} {e' : En}, Outs X.K (some x :: Bof A ags) G' H' e' → Outs X.K (Bof A ags) G' H' e'.tail := fun {G' H' e'} o i a hi => by
        obtain ⟨d, u, k1, k2⟩ := o (i + 1) a hi
        exact ⟨d, u, by rw [List.getElem?_tail]; exact k1, k2⟩
      refine ⟨some x :: Bof A ags, .own (.ins c []) :: args, G1, ?_, ?_⟩
      · refine ⟨fun b o q => up b o (rl.ex b o q), congrArg Nat.succ r0.len, congrArg Nat.succ r0.lenA, fun i d e => ?_, fun i d e => ?_, fun a z => ?_, fun i j a h1 h2 => ?_, fun i a h => ?_⟩
        · cases i with
          | zero => cases e
          | succ i => exact r0.val i d e
        · cases i with
          | zero =>
            cases e
            exact ⟨x, _, rfl, rfl, upd_same, dx, [], rfl, rfl⟩
          | succ i =>
            obtain ⟨a, o, k1, k2, k3, k4⟩ := r0.own i d e
            exact ⟨a, o, k1, k2, up _ _ k3, k4⟩
        · rcases List.mem_cons.mp z with z | z
          · cases z
            exact ⟨hG, by rw [upd_same]; simp⟩
          · obtain ⟨k1, k2⟩ := r0.off a z
            refine ⟨k1, fun q => ?_⟩
            cases y : H1 a with
            | none => exact k2 y
            | some o =>
              rw [up a o y] at q
              cases q
        · cases i with
          | zero =>
            cases h1
            cases j with
            | zero => rfl
            | succ j => exact absurd (List.mem_of_getElem? (show (Bof A ags)[j]? = some (some x) from h2)) hxB
          | succ i => cases j with
            | zero =>
              cases h2
              exact absurd (List.mem_of_getElem? (show (Bof A ags)[i]? = some (some x) from h1)) hxB
            | succ j => exact congrArg Nat.succ (r0.inj i j a h1 h2)
        · cases i with
          | zero => exact ⟨_, rfl⟩
          | succ i => exact r0.has i a h
      · cases q : run (.own (.ins c []) :: args) with
        | ok r e' =>
          rw [q] at h
          intro G' H' v ex ad ou ro
          cases r with
          | ow d => exact h.elim
          | sh d => cases d with
            | non =>
              dsimp only at h
              obtain ⟨d, o, k1, k2, k3, k4⟩ := ou 0 x rfl
              rw [k1] at h
              refine ⟨ro, ?_⟩
              exact h G' H' (back ad).lent (rl.leave he (back ad) ex (tl ou)) (.ref x) ⟨x, o, rfl, k4, hx, k2, k3⟩
            | _ => exact h.elim
        | err y e' =>
          rw [q] at h
          exact fun G' H' C d ex ad ou xr => h G' H' C d (back ad).lent (rl.leave he (back ad) ex (tl ou)) xr
        | stuck =>
          rw [q] at h
          exact h.elim
    · exact h.elim
theorem sv_mk {c x : Str} {p pos : Pos} {run : Run} {e : Expr} {es : List Expr} {ma : M (List Ag)} (M : Mk X.K (He.ga X.K c) f) (F : FnP X.prog X.w X.K X.mg X.base k f (spV X.K run)) (hgu : X.A.guards = some []) (hr : Room (k + 1) X.A) (hg : Gl X x) (hm : X.mg x = some (.ref (He.ga X.K c))) (tk : Takes X W) (ha : SAg X W (e :: es) ma)
    (hdb : (x == ("__debug__" : Str)) = false) (he : starEach (e :: es) X.env = (false, eval e X.env) :: starEach es X.env) (hpl : (backTo pos (starEach es X.env)).any (·.1) = false) : SV X W (.Call (.Name x p) (e :: es) [] pos) (mkM c run ma) := by
  obtain ⟨t, pt, kt⟩ := ha
  refine ⟨_, pe_mkP M F hgu hr hg hm tk pt hdb he hpl, fun A env G σ H Q rl h => ?_⟩
  refine kt A env G σ H _ rl (Post.mono (Post.bind h) fun ags e1 G1 H1 ad rl1 z vs rv => ?_)
  exact mk_reads rl1 (Post.mono z fun r e2 G2 H2 ad2 rl2 y v w => y v (w.down ad.th)) rv
end
end Mini
set_option maxHeartbeats 1000000
/-! Mini, part 24: attributes of own instances; own ==, !=, truth. -/
namespace Mini
open PySem PySem.Spec PyProof.Rows L2
section
variable {X : Cx} {W : WX} {np : Option Nat}
/-- self.f = e, self the frame's own instance -/
def fldM (T : Tab) (f : Str) (i : Nat) (m : M D) : MS := fun e => (m e).bind fun d e1 => match e1[i]? with
  | some (.own (.ins c fs)) => if T.fld c f = true ∧ fs.length < 1000 then .ok .nx (e1.set i (.own (.ins c (putD f d fs)))) else .stuck
  | _ => .stuck
theorem ss_fld {T : Tab} {i : Nat} {x f : Str} {p0 p1 pos : Pos} {e : Expr} {m : M D} (TO : TabOk T X.K) (hN : X.N[i]? = some x) (hv : Vis X.env.scope x) (hd : (x == ("__debug__" : Str)) = false) (hcd : (x == ("__classdict__" : Str)) = false) (he : SE X W e m)
    (hs : swapsWith e (some (.Attribute (.Name x p0) f p1)) pos.line X.env = pure false) : SS X W np (.Assign [.Attribute (.Name x p0) f p1] e pos) (fldM T f i m) := by
  obtain ⟨t, p, k⟩ := he
  refine ⟨_, ps_fld (pe_var hN hv hd hcd) p hs, fun F A env G σ H E hnp c h => ?_⟩
  refine k A env G σ H _ c.rel (Post.mono (Post.stmt c h) fun d e1 G1 H1 ad rl z v rv => ?_)
  obtain ⟨c1, z1⟩ := z
  split at z1
  · rename_i cn fs q
    split at z1
    · rename_i hc
      obtain ⟨a, o, h1, h2, h3, dx, gs, rfl, rf⟩ := c1.rel.own i _ q
      obtain ⟨k1, k2⟩ := TO.fld _ _ hc.1
      refine ⟨.ref a, h2, a, _, dx, gs, rfl, h3, k1, k2, by rw [rf.length]; exact hc.2, ?_⟩
      exact z1 A G1 σ _ (Same.refl G1) (c1.put q h1 ⟨dx, _, rfl, rf.put rv⟩)
    · exact z1.elim
  · exact z1.elim
end
/-! ### raw comparisons -/
section
variable {prog : Program} {w : World} {A : Around} {E : Value → Shared → Prop} {s : Shared} {K : PySem.W.Frag} {x y C C2 f : Addr} {ox oy : Obj} {od od2 : Option Obj} {b tb : Value}
open PySem.W in
theorem own_ne {Q : Value → Shared → Prop} (hu : A.units + 1 < cLine) (Xk : K.In s.heap) (I : InstAt s.heap x ox C od) (hb : Looks (model prog w) s.heap (typeOf b) tb) (hn : notFirst K C tb = true) (hm : mroIn K C (.type "object") = some true)
    (hne : findIn K (.ref C) "__ne__" = some (some (.builtin "object.__ne__"))) (hs : findIn K (.ref C) "__eq__" = some (some (.ref f))) (hf : isFn K (.ref f) = true)
    (h : wpAny (model prog w) A.in1 (call (.ref f) [.ref x, b]) (fun v s' => ∃ r, v = .bool r ∧ Q (.bool (!r)) s') E s) : wpAny (model prog w) A (richCompare .NotEq (.ref x) b) Q E s := by
  have entry : ∀ {Q' : Fin → Shared → Prop} {E' : Value → Shared → Prop}, (wpAny (model prog w) A.in1 (call (.ref f) [.ref x, b]) (fun v s' => ∃ r, v = .bool r ∧ Q' (.done (.ret (.bool (!r)))) s') E' s) → wpAny (model prog w) A.in1 (Builtin.«object.__ne__» ⟨[.ref x, b], []⟩) Q' E' s := fun {Q' E'} hq => by
    unfold Builtin.«object.__ne__»
    refine wpAny_bind (wpAny_pure ?_)
    dsimp only
    refine wpAny_bind (wpAny_cRoomFor (by show A.units + 1 < cLine; exact hu) ?_)
    refine wpAny_bind (ifBound_K Xk I hs hf (wpAny_mono hq (fun v s' hv => ?_) fun _ _ z => z))
    obtain ⟨r, rfl, q⟩ := hv
    refine wpAny_bind (wpAny_truthy_bool (wpAny_pure q))
  have one : wpAny (model prog w) A (tryCompare (.ref x) "__ne__" b) (fun r s' => ∃ v, r = some v ∧ Q v s') E s := by
    unfold tryCompare
    refine wpAny_bind ?_
    simp only [callSpecialIfBound?, bindSpecialIfBound?]
    refine wpAny_holding (wpAny_bind (wpAny_bind (wpAny_bind (I.type.here ((looks_findIn Xk hne).here ?_)))))
    refine wpAny_bind (wpAny_askSetting (wpAny_ite ?_))
    have fin : wpAny (model prog w) A (call (.builtin "object.__ne__") ([.ref x] ++ [b]) >>= fun v => pure (some v)) (fun a s' => wpAny (model prog w) A (match a with | some .notImplemented | none => pure none | some v => pure (some v)) (fun r s' => ∃ v, r = some v ∧ Q v s') E s') E s := by
      refine wpAny_bind (wpAny_call (codeAny_call_builtin F.cmp_object.ne.plain F.cmpEntry_ne (check_slot F.cmpKind_ne F.cmpSplit_ne (I.type.andThen (looks_mroIn Xk hm)) (F.cmpArgs_ne _ _) (entry (wpAny_mono h (fun v s' hv => ?_) fun _ _ z => z)))))
      obtain ⟨r, rfl, q⟩ := hv
      exact ⟨r, rfl, wpAny_pure (wpAny_pure ⟨_, rfl, q⟩)⟩
    split
    · exact wpAny_bind (wpAny_of_eq (F.cmp_object.ne.bind _) (wpAny_pure (by exact fin)))
    · exact wpAny_tryCatch (wpAny_bind (wpAny_of_eq (F.cmp_object.ne.bind _) (wpAny_pure (by exact fin))))
  unfold richCompare
  simp only [oneThing_ref]
  refine wpAny_holding (wpAny_bind (wpAny_cRoomFor (by omega) ?_))
  refine wpAny_bind (I.type.here (wpAny_bind (hb.here ?_)))
  split
  · rename_i q
    have e : subIn K tb (.ref C) = some false := by
      rcases Bool.or_eq_true_iff.mp hn with e | e
      · rw [beq_iff_eq.mp e] at q
        simp at q
      · exact beq_iff_eq.mp e
    refine wpAny_bind ((looks_subIn Xk e).here ?_)
    simp only [Bool.false_eq_true, if_false]
    refine wpAny_bind (wpAny_mono one (fun r s' z => ?_) fun _ _ e => e)
    obtain ⟨v, rfl, hq⟩ := z
    exact wpAny_pure hq
  · refine wpAny_bind (wpAny_pure ?_)
    simp only [Bool.false_eq_true, if_false]
    refine wpAny_bind (wpAny_mono one (fun r s' z => ?_) fun _ _ e => e)
    obtain ⟨v, rfl, hq⟩ := z
    exact wpAny_pure hq
open PySem.W in
/-- the right one is of a class below: it is asked first -/
theorem own_refl {op : CmpOp} {Q : Value → Shared → Prop} (hu : A.units < cLine) (Xk : K.In s.heap) (I : InstAt s.heap x ox C od) (J : InstAt s.heap y oy C2 od2) (hne : C2 ≠ C) (hsub : subIn K (.ref C2) (.ref C) = some true) (hs : findIn K (.ref C2) (cmpInfo op).2.2 = some (some (.ref f))) (hf : isFn K (.ref f) = true)
    (h : wpAny (model prog w) A (call (.ref f) [.ref y, .ref x]) (PySem.W.CmpBack Q) E s) : wpAny (model prog w) A (richCompare op (.ref x) (.ref y)) Q E s := by
  have one : wpAny (model prog w) A (tryCompare (.ref y) (cmpInfo op).2.2 (.ref x)) (fun r s' => ∃ v, r = some v ∧ Q v s') E s := by
    unfold tryCompare
    refine wpAny_bind (ifBound_K Xk J hs hf (wpAny_mono h (fun v s' hv => ?_) fun _ _ z => z))
    cases v <;> first | exact hv.elim | exact wpAny_pure ⟨_, rfl, hv⟩
  unfold richCompare
  simp only [oneThing_ref]
  refine wpAny_holding (wpAny_bind (wpAny_cRoomFor hu ?_))
  refine wpAny_bind (I.type.here (wpAny_bind (J.type.here ?_)))
  have q : (Value.ref C != Value.ref C2) = true := by
    simp only [bne_iff_ne, ne_eq, Value.ref.injEq]
    exact fun z => hne z.symm
  rw [if_pos q]
  refine wpAny_bind ((looks_subIn Xk hsub).here ?_)
  simp only [if_true]
  refine wpAny_bind (wpAny_mono one (fun r s' z => ?_) fun _ _ e => e)
  obtain ⟨v, rfl, hq⟩ := z
  exact wpAny_bind (wpAny_rule (wpAny_pure hq))
end
/-! ### own == by data -/
/-- a run upon shared data -/
def onD (run : Run) (ds : List D) : M D := fun e => match run (ds.map .val) with
  | .ok (.sh d) _ => .ok d e
  | _ => .stuck
/-- the same, the answer True or False -/
def onB (run : Run) (neg : Bool) (ds : List D) : M D := fun e => match run (ds.map .val) with
  | .ok (.sh (.bl b)) _ => .ok (.bl (if neg then !b else b)) e
  | _ => .stuck
section
variable {X : Cx} {W : WX}
theorem rel_vals {K : PySem.W.Frag} {G H : Hp} {ds : List D} {vs : List V} (ex : Same G H) (r : Reps K G ds vs) : Rel K (List.replicate ds.length none) (ds.map .val) G (vs.map some) H := by
  have hl := r.length
  refine ⟨ex, by simp [hl], by simp [hl], fun i d e => ?_, fun i d e => ?_, fun a z => ?_, fun i j a z => ?_, fun i a z => ?_⟩
  · rw [List.getElem?_map] at e
    cases q : ds[i]? with
    | none =>
      rw [q] at e
      cases e
    | some c =>
      rw [q] at e
      cases e
      obtain ⟨v, hv, rv⟩ := r.get q
      exact ⟨v, by rw [List.getElem?_map, hv]; rfl, rv⟩
  · rw [List.getElem?_map] at e
    cases q : ds[i]? <;> rw [q] at e <;> cases e
  · exact nomatch (List.mem_replicate.mp z).2
  · exact nomatch (List.mem_replicate.mp (List.mem_of_getElem? z)).2
  · exact nomatch (List.mem_replicate.mp (List.mem_of_getElem? z)).2
theorem adv_vals {n : Nat} {A : List (Option Addr)} {G H G' H' : Hp} (a : Adv (List.replicate n none) G H G' H') : Adv A G H G' H' := ⟨a.g, a.new, fun b o _ h => a.fr b o (fun z => nomatch (List.mem_replicate.mp z).2) h, a.th⟩
/-- a run upon shared data keeps the frame -/
theorem onB_reads {run : Run} {neg : Bool} {A : List (Option Addr)} {env : En} {G H : Hp} {σ : L2.St} {ds : List D} {vs : List V} {Q : VK} (rl : Rel X.K A env G σ H) (r : Reps X.K G ds vs) (h : Post X.K A G σ H W (onB run neg ds env) fun d _ G' H' => ∀ v, Rep X.K G' d v → Q v H') :
    spV X.K run vs H (fun v H' => ∃ b, v = .bl b ∧ Q (.bl (if neg then !b else b)) H') (fun _ _ _ => False) := by
  refine ⟨_, _, G, rel_vals rl.ex r, ?_⟩
  unfold onB at h
  cases q : run (ds.map .val) with
  | ok x e' =>
    rw [q] at h
    cases x with
    | ow d => exact h.elim
    | sh d => cases d with
      | bl b =>
        intro G' H' v ex ad ou ro
        exact ⟨b, ro, h G' H' (adv_vals ad) (rl.step (adv_vals ad) ex fun a o _ z => ad.fr a o (fun y => nomatch (List.mem_replicate.mp y).2) z) _ rfl⟩
      | _ => exact h.elim
  | err y e' =>
    rw [q] at h
    exact h.elim
  | stuck =>
    rw [q] at h
    exact h.elim
/-- a class with its own == -/
def OwnCmp (X : Cx) (k : Nat) (c : Str) (run : Run) : Prop := ∃ f, PySem.W.findIn X.K (.ref (He.ga X.K c)) "__eq__" = some (some (.ref f)) ∧ PySem.W.isFn X.K (.ref f) = true ∧ FnP X.prog X.w X.K X.mg X.base k f (spV X.K run) ∧
  PySem.W.findIn X.K (.ref (He.ga X.K c)) "__ne__" = some (some (.builtin "object.__ne__"))
theorem sub_kind {K : PySem.W.Frag} {n : String} {C : Addr} {d : D} (h : kindD d = some n) : PySem.W.subIn K (.type n) (.ref C) = some false := by
  have e : ∀ m ∈ ["NoneType", "bool", "int", "str", "list", "tuple", "dict"], PySem.W.subIn K (.type m) (.ref C) = some false := by
    intro m hm
    simp only [List.mem_cons, List.not_mem_nil, or_false] at hm
    rcases hm with rfl | rfl | rfl | rfl | rfl | rfl | rfl
    · show (PySem.fastBuiltinMro "NoneType").map (·.contains (.ref C)) = some false
      rw [show PySem.fastBuiltinMro "NoneType" = some [.type "NoneType", .type "object"] from by decide +kernel]
      first
        | rfl
        | simp
    · show (PySem.fastBuiltinMro "bool").map (·.contains (.ref C)) = some false
      rw [show PySem.fastBuiltinMro "bool" = some [.type "bool", .type "int", .type "object"] from by decide +kernel]
      first
        | rfl
        | simp
    · show (PySem.fastBuiltinMro "int").map (·.contains (.ref C)) = some false
      rw [show PySem.fastBuiltinMro "int" = some [.type "int", .type "object"] from by decide +kernel]
      first
        | rfl
        | simp
    · show (PySem.fastBuiltinMro "str").map (·.contains (.ref C)) = some false
      rw [show PySem.fastBuiltinMro "str" = some [.type "str", .type "object"] from by decide +kernel]
      first
        | rfl
        | simp
    · show (PySem.fastBuiltinMro "list").map (·.contains (.ref C)) = some false
      rw [show PySem.fastBuiltinMro "list" = some [.type "list", .type "object"] from by decide +kernel]
      first
        | rfl
        | simp
    · show (PySem.fastBuiltinMro "tuple").map (·.contains (.ref C)) = some false
      rw [show PySem.fastBuiltinMro "tuple" = some [.type "tuple", .type "object"] from by decide +kernel]
      first
        | rfl
        | simp
    · show (PySem.fastBuiltinMro "dict").map (·.contains (.ref C)) = some false
      rw [show PySem.fastBuiltinMro "dict" = some [.type "dict", .type "object"] from by decide +kernel]
      first
        | rfl
        | simp
  refine e n ?_
  cases d <;> first | (cases h; decide) | cases h
/-- what the type of a datum is -/
theorem kind_looks {pins : List (Addr × Obj)} {σ : L2.St} {H G : Hp} {s : Shared} (I : Inv X pins σ H s) (ex : Same G H) {d : D} {v : V} {u : Value} {n : String} (r : Rep X.K G d v) (rv : RelV v u) (hk : kindD d = some n) : ∀ M, PySem.W.Looks M s.heap (typeOf u) (.type n) := by
  have tx : TyX X.K H v (.type n) := by
    cases d with
    | non =>
      cases hk
      rw [show v = .non from r]
      exact .base .non
    | bl b =>
      cases hk
      rw [show v = .bl b from r]
      exact .base (.bl b)
    | int i =>
      cases hk
      rw [show v = .int i from r]
      exact .base (.int i)
    | str x =>
      cases hk
      rw [show v = .str x from r]
      exact .base (.str x)
    | lst ds =>
      cases hk
      obtain ⟨a, xs, rfl, h1, _⟩ := r
      exact .base (.lst (ex _ _ h1))
    | tup ds =>
      cases hk
      obtain ⟨a, xs, rfl, h1, _⟩ := r
      rcases sq_t ex h1 with (h | ⟨o, h⟩) | h
      · exact .base (.tup h)
      · exact .fTuple h
      · obtain ⟨its, _, o, h1, h2, _⟩ := h
        exact .kTuple h1 h2
    | dct ds =>
      cases hk
      obtain ⟨a, xs, rfl, h1, _⟩ := r
      exact .base (.dK (ex _ _ h1))
    | scr ns =>
      cases hk
      obtain ⟨a, rfl, h1⟩ := r
      rcases ex.seq h1 with (h | ⟨o, h⟩) | h
      · exact .base (.lst h)
      · exact .base (.frz h)
      · obtain ⟨its, _, o, h1, h2, _⟩ := h
        exact .kList h1 h2
    | _ => cases hk
  obtain ⟨P, Z, p, _⟩ := kit_of I rv tx
  exact fun M => Z.ty M s.heap I.kIn p
theorem ins_at {pins : List (Addr × Obj)} {σ : L2.St} {H G : Hp} {s : Shared} (I : Inv X pins σ H s) (ex : Same G H) {c : Str} {fs : List (Str × D)} {v : V} (r : Rep X.K G (.ins c fs) v) : ∃ a ox od, v = .ref a ∧ PySem.W.InstAt s.heap a ox (He.ga X.K c) od := by
  obtain ⟨a, dx, gs, rfl, h1, _⟩ := r
  obtain ⟨mA, O, _⟩ := ins_get I.hok (ex _ _ h1)
  obtain ⟨od, J, _⟩ := O.look
  exact ⟨a, _, _, rfl, J⟩
/-- the facts of classes that own comparisons ask -/
structure CmpOk (T : Tab) (X : Cx) (k : Nat) (eqm : Str → Option Run) : Prop where
  own : ∀ c run, eqm c = some run → OwnCmp X k c run
  sub : ∀ c c' b, T.sub c c' = some b → PySem.W.subIn X.K (.ref (He.ga X.K c)) (.ref (He.ga X.K c')) = some b
/-- by the == of the left one; of the right one, which is of a class below -/
def lefR (T : Tab) (eqm : Str → Option Run) (d e : D) : Option Run := match d with
  | .ins c _ => (match e with
    | .ins c2 _ => if c = c2 ∨ T.sub c2 c = some false then eqm c else none
    | e => if (kindD e).isSome then eqm c else none)
  | _ => none
def rigR (T : Tab) (eqm : Str → Option Run) (d e : D) : Option Run := match d, e with
  | .ins c _, .ins c2 _ => if T.sub c2 c = some true ∧ T.sub c c2 = some false then eqm c2 else none
  | _, _ => none
def gOwnEq (T : Tab) (eqm : Str → Option Run) (d e : D) : M D := match lefR T eqm d e with
  | some r => onB r false [d, e]
  | none => (match rigR T eqm d e with
    | some r => onB r false [e, d]
    | none => fun _ => .stuck)
def gOwnNe (T : Tab) (eqm : Str → Option Run) (d e : D) : M D := match lefR T eqm d e with
  | some r => onB r true [d, e]
  | none => fun _ => .stuck
/-- the rest of a comparison's call, told to whoever waits -/
theorem own_call {k : Nat} {f : Addr} {run : Run} {A' : Around} {pins : List (Addr × Obj)} {σ : L2.St} {H : Hp} {s : Shared} {us : List Value} {vs : List V} {Q : VK} {Q2 : Value → Shared → Prop} (F : FnP X.prog X.w X.K X.mg X.base k f (spV X.K run)) (hg : A'.guards = some []) (hfr : A'.frames = X.A.frames) (hr : Room k A') (I : Inv X pins σ H s) (r : Vals vs us)
    (h : spV X.K run vs H (fun v H' => ∃ b, v = .bl b ∧ Q v H') (fun _ _ _ => False)) (h2 : ∀ b s', EP X pins σ Q (.bool b) s' → Q2 (.bool b) s') {E : Value → Shared → Prop} : wpAny (model X.prog X.w) A' (call (.ref f) us) Q2 E s := by
  have e := I.env0
  have e0 : Env0 X.prog X.w X.K X.mg X.base A' X.stack s H := ⟨by rw [hfr]; exact e.frames, e.mod, e.bs, e.bsz, e.funs, e.frf, e.hok, e.bare⟩
  refine wpAny_call (codeAny_mono (F A' X.stack s H us vs _ _ hg hr e0 r h) fun r s' q => ?_)
  cases r with
  | error er =>
    obtain ⟨_, _, _, _, _, _, _, _, _, _, _, _, z⟩ := q
    exact z.elim
  | ok fl => cases fl with
    | ret u =>
      obtain ⟨v, H', J, rv, b, rfl, q2⟩ := I.after q
      obtain rfl : u = .bool b := rv
      exact h2 b s' ⟨.bl b, H', J, rfl, q2⟩
    | next => exact q.elim
    | brk => exact q.elim
    | cont => exact q.elim
theorem lef_ok {T : Tab} {k : Nat} {eqm : Str → Option Run} (CO : CmpOk T X k eqm) {pins : List (Addr × Obj)} {σ : L2.St} {H G : Hp} {s : Shared} (I : Inv X pins σ H s) (ex : Same G H) {d e : D} {x y : V} {u v : Value} {r : Run} (r1 : Rep X.K G d x) (r2 : Rep X.K G e y) (rx : RelV x u) (ry : RelV y v) (hc : lefR T eqm d e = some r) :
    ∃ c a ox od tb, x = .ref a ∧ u = .ref a ∧ PySem.W.InstAt s.heap a ox (He.ga X.K c) od ∧ eqm c = some r ∧ (∀ M, PySem.W.Looks M s.heap (typeOf v) tb) ∧ PySem.W.notFirst X.K (He.ga X.K c) tb = true := by
  unfold lefR at hc
  cases d with
  | ins c fs =>
    obtain ⟨a, ox, od, rfl, J⟩ := ins_at I ex r1
    obtain rfl : u = Value.ref a := rx
    dsimp only at hc
    have blt : ∀ n, kindD e = some n → eqm c = some r → ∃ c a' ox od tb, V.ref a = .ref a' ∧ Value.ref a = .ref a' ∧ PySem.W.InstAt s.heap a' ox (He.ga X.K c) od ∧ eqm c = some r ∧ (∀ M, PySem.W.Looks M s.heap (typeOf v) tb) ∧ PySem.W.notFirst X.K (He.ga X.K c) tb = true := fun n hn hq =>
      ⟨c, a, ox, od, .type n, rfl, rfl, J, hq, kind_looks I ex r2 ry hn, by
        unfold PySem.W.notFirst
        rw [sub_kind (d := e) hn]
        simp⟩
    cases e with
    | ins c2 gs =>
      obtain ⟨b, oy, od2, rfl, J2⟩ := ins_at I ex r2
      obtain rfl : v = Value.ref b := ry
      dsimp only at hc
      split at hc
      · rename_i hh
        refine ⟨c, a, ox, od, .ref (He.ga X.K c2), rfl, rfl, J, hc, fun M => J2.type, ?_⟩
        unfold PySem.W.notFirst
        rcases hh with rfl | hh
        · simp
        · rw [CO.sub _ _ _ hh]
          simp
      · cases hc
    | non => exact blt _ rfl hc
    | bl _ => exact blt _ rfl hc
    | int _ => exact blt _ rfl hc
    | str _ => exact blt _ rfl hc
    | lst _ => exact blt _ rfl hc
    | tup _ => exact blt _ rfl hc
    | dct _ => exact blt _ rfl hc
    | scr _ => exact blt _ rfl hc
    | exc _ _ => cases hc
    | cls _ => cases hc
    | typ _ => cases hc
    | fn _ => cases hc
  | _ => cases hc
theorem ops_ownEq {T : Tab} {k : Nat} {eqm : Str → Option Run} (TO : TabOk T X.K) (CO : CmpOk T X k eqm) (hg : X.A.guards = some []) (hr : Room k X.A) : OpS X W (compareOp .Eq) (gOwnEq T eqm) := by
  refine ⟨fun x y H Q => ∃ G d e, Same G H ∧ Rep X.K G d x ∧ Rep X.K G e y ∧ ((∃ r, lefR T eqm d e = some r ∧ spV X.K r [x, y] H (fun v H' => ∃ b, v = .bl b ∧ Q v H') (fun _ _ _ => False)) ∨ ∃ r, rigR T eqm d e = some r ∧ spV X.K r [y, x] H (fun v H' => ∃ b, v = .bl b ∧ Q v H') (fun _ _ _ => False)),
    fun pins s σ H x y u v Q I rx ry ⟨G, d, e, ex, r1, r2, h⟩ => ?_, fun A env G σ H Q d e x y rl r1 r2 h => ?_⟩
  · rcases h with ⟨r, hc, h⟩ | ⟨r, hc, h⟩
    · obtain ⟨c, a, ox, od, tb, rfl, rfl, J, hq, ht, hn⟩ := lef_ok CO I ex r1 r2 rx ry hc
      obtain ⟨f, k1, k2, k3, _⟩ := CO.own c _ hq
      obtain ⟨m, hF⟩ := I.fr
      exact PySem.W.cmp_K (op := .Eq) (tb := tb) hr.units0 hF I.ok.mod.kin J (ht _) hn k1 k2 (own_call (A' := X.A) (Q2 := PySem.W.CmpBack (EP X pins σ Q)) k3 hg rfl hr I (show Vals [V.ref a, y] [Value.ref a, v] from .cons rfl (.cons ry .nil)) h fun b s' z => z)
    · unfold rigR at hc
      split at hc
      · rename_i c fs c2 gs
        split at hc
        · rename_i hh
          obtain ⟨a, ox, od, rfl, J⟩ := ins_at I ex r1
          obtain rfl : u = Value.ref a := rx
          obtain ⟨b, oy, od2, rfl, J2⟩ := ins_at I ex r2
          obtain rfl : v = Value.ref b := ry
          obtain ⟨f, k1, k2, k3, _⟩ := CO.own c2 _ hc
          have hne : He.ga X.K c2 ≠ He.ga X.K c := fun z => by
            have e1 := TO.sub _ _ _ hh.2
            rw [z] at e1
            unfold PySem.W.kitOne at e1
            rw [if_pos (by simp)] at e1
            cases e1
          exact own_refl (op := .Eq) hr.units0 I.kIn J J2 hne (CO.sub _ _ _ hh.1) k1 k2 (own_call (A' := X.A) (Q2 := PySem.W.CmpBack (EP X pins σ Q)) k3 hg rfl hr I (show Vals [V.ref b, V.ref a] [Value.ref b, Value.ref a] from .cons rfl (.cons rfl .nil)) h fun b s' z => z)
        · cases hc
      · cases hc
  · refine ⟨G, d, e, rl.ex, r1, r2, ?_⟩
    have two : ∀ {a b : D} {va vb : V}, Rep X.K G a va → Rep X.K G b vb → Reps X.K G [a, b] [va, vb] := fun {a b va vb} h1 h2 => ⟨va, [vb], rfl, h1, vb, [], rfl, h2, rfl⟩
    unfold gOwnEq at h
    cases q : lefR T eqm d e with
    | some r =>
      rw [q] at h
      refine .inl ⟨r, rfl, ?_⟩
      obtain ⟨B, args, G1, k1, k2⟩ := onB_reads rl (two r1 r2) h
      refine ⟨B, args, G1, k1, ?_⟩
      unfold PostF at k2 ⊢
      split at k2
      · rename_i dd e' _
        exact fun G' H' v h1 h2 h3 h4 => by
          obtain ⟨b, rfl, z⟩ := k2 G' H' v h1 h2 h3 h4
          exact ⟨b, rfl, z⟩
      · exact k2
      · exact k2
    | none =>
      rw [q] at h
      dsimp only at h
      cases q2 : rigR T eqm d e with
      | some r =>
        rw [q2] at h
        refine .inr ⟨r, rfl, ?_⟩
        obtain ⟨B, args, G1, k1, k2⟩ := onB_reads rl (two r2 r1) h
        refine ⟨B, args, G1, k1, ?_⟩
        unfold PostF at k2 ⊢
        split at k2
        · rename_i dd e' _
          exact fun G' H' v h1 h2 h3 h4 => by
            obtain ⟨b, rfl, z⟩ := k2 G' H' v h1 h2 h3 h4
            exact ⟨b, rfl, z⟩
        · exact k2
        · exact k2
      | none =>
        rw [q2] at h
        exact h.elim
theorem ops_ownNe {T : Tab} {k : Nat} {eqm : Str → Option Run} (TO : TabOk T X.K) (CO : CmpOk T X k eqm) (hm : ∀ c run, eqm c = some run → PySem.W.mroIn X.K (He.ga X.K c) (.type "object") = some true) (hg : X.A.guards = some []) (hr : Room (k + 1) X.A) : OpS X W (compareOp .NotEq) (gOwnNe T eqm) := by
  refine ⟨fun x y H Q => ∃ G d e r, Same G H ∧ Rep X.K G d x ∧ Rep X.K G e y ∧ lefR T eqm d e = some r ∧ spV X.K r [x, y] H (fun v H' => ∃ b, v = .bl b ∧ Q (.bl (!b)) H') (fun _ _ _ => False),
    fun pins s σ H x y u v Q I rx ry ⟨G, d, e, r, ex, r1, r2, hc, h⟩ => ?_, fun A env G σ H Q d e x y rl r1 r2 h => ?_⟩
  · obtain ⟨c, a, ox, od, tb, rfl, rfl, J, hq, ht, hn⟩ := lef_ok CO I ex r1 r2 rx ry hc
    obtain ⟨f, k1, k2, k3, k4⟩ := CO.own c _ hq
    have hu : X.A.units + 1 < cLine := by have := hr.units; omega
    refine own_ne hu I.kIn J (ht _) hn (hm c _ hq) k4 k1 k2 (own_call (A' := X.A.in1) (Q := fun v H' => ∃ b, v = V.bl b ∧ Q (.bl (!b)) H') k3 hg rfl (Room.in1 hr) I (show Vals [V.ref a, y] [Value.ref a, v] from .cons rfl (.cons ry .nil)) ?_ fun b s' z => ?_)
    · obtain ⟨B, args, G1, j1, j2⟩ := h
      refine ⟨B, args, G1, j1, ?_⟩
      unfold PostF at j2 ⊢
      split at j2
      · exact fun G' H' v h1 h2 h3 h4 => by
          obtain ⟨b, rfl, z⟩ := j2 G' H' v h1 h2 h3 h4
          exact ⟨b, rfl, b, rfl, z⟩
      · exact j2
      · exact j2
    · obtain ⟨v', H', J', rv, b', rfl, q⟩ := z
      obtain rfl : b = b' := by
        have : Value.bool b = .bool b' := rv
        injection this
      exact ⟨b, rfl, .bl (!b), H', J', rfl, q⟩
  · unfold gOwnNe at h
    cases q : lefR T eqm d e with
    | some r =>
      rw [q] at h
      exact ⟨G, d, e, r, rl.ex, r1, r2, q, onB_reads (neg := true) (ds := [d, e]) rl ⟨x, [y], rfl, r1, y, [], rfl, r2, rfl⟩ h⟩
    | none =>
      rw [q] at h
      exact h.elim
end
end Mini
set_option maxHeartbeats 1000000
/-! Mini, part 25: own truth; a class's name. -/
namespace Mini
open PySem PySem.Spec PyProof.Rows L2
section
variable {X : Cx} {W : WX}
/-- a value's truth by data -/
def TruS (X : Cx) (W : WX) (g : D → M Bool) : Prop := ∃ r, TruR X r ∧ ∀ A env G σ H (Q : Bool → Hp → Prop) d v, Rel X.K A env G σ H → Rep X.K G d v → Post X.K A G σ H W (g d env) (fun b _ _ H' => Q b H') → r v H Q
def asTG (g : D → M Bool) (m : M D) : M Bool := fun e => (m e).bind g
theorem st_truG {g : D → M Bool} {e : Expr} {m : M D} (hT : TruS X W g) (he : SE X W e m) (hi : ∀ whole, isTrue e X.env whole = (do let v ← whole; standAt e.pos; holding [v] (truthy v))) : ST X W e (asTG g m) := by
  obtain ⟨r, o, k⟩ := hT
  obtain ⟨t, p, l⟩ := he
  refine ⟨_, pt_truthR p o hi, fun A env G σ H Q rl h => ?_⟩
  exact l A env G σ H _ rl (Post.mono (Post.bind h) fun d e1 G1 H1 ad rl1 z v rv => k A e1 G1 σ H1 Q d v rl1 rv z)
/-- a class with its own truth -/
def OwnTru (X : Cx) (k : Nat) (c : Str) (run : Run) : Prop := ∃ f, PySem.W.findIn X.K (.ref (He.ga X.K c)) "__bool__" = some (some (.ref f)) ∧ PySem.W.isFn X.K (.ref f) = true ∧ FnP X.prog X.w X.K X.mg X.base k f (spV X.K run)
def gTru (bm : Str → Option Run) (d : D) : M Bool := match d with
  | .ins c _ => (match bm c with
    | some r => fun e => (match r [.val d] with
      | .ok (.sh (.bl b)) _ => .ok b e
      | _ => .stuck)
    | none => fun _ => .stuck)
  | d => fun e => (match truD d with
    | some b => .ok b e
    | none => .stuck)
theorem tru_all {k : Nat} {bm : Str → Option Run} (BO : ∀ c run, bm c = some run → OwnTru X k c run) (hg : X.A.guards = some []) (hr : Room k X.A) : TruS X W (gTru bm) := by
  refine ⟨fun v H Q => (∃ b, TruV X.K v H b ∧ Q b H) ∨ ∃ G c fs r, Same G H ∧ Rep X.K G (.ins c fs) v ∧ bm c = some r ∧ spV X.K r [v] H (fun v H' => ∃ b, v = .bl b ∧ Q b H') (fun _ _ _ => False), fun pins s σ H x v Q I rx h => ?_, fun A env G σ H Q d v rl rv h => ?_⟩
  · rcases h with h | ⟨G, c, fs, r, ex, r1, hb, h⟩
    · exact tru_ok pins s σ H x v Q I rx h
    · obtain ⟨a, ox, od, rfl, J⟩ := ins_at I ex r1
      obtain rfl : v = Value.ref a := rx
      obtain ⟨f, k1, k2, k3⟩ := BO c r hb
      obtain ⟨m, hF⟩ := I.fr
      refine PySem.W.truthy_K hF I.ok.mod.kin J k1 k2 (own_call (A' := X.A) (Q := fun v H' => ∃ b, v = V.bl b ∧ Q b H') (Q2 := PySem.W.BoolBack (TP X pins σ Q)) k3 hg rfl hr I (show Vals [V.ref a] [Value.ref a] from .cons rfl .nil) ?_ fun b s' z => ?_)
      · obtain ⟨B, args, G1, j1, j2⟩ := h
        refine ⟨B, args, G1, j1, ?_⟩
        unfold PostF at j2 ⊢
        split at j2
        · exact fun G' H' v h1 h2 h3 h4 => by
            obtain ⟨b, rfl, z⟩ := j2 G' H' v h1 h2 h3 h4
            exact ⟨b, rfl, b, rfl, z⟩
        · exact j2
        · exact j2
      · obtain ⟨v', H', J', rv, b', rfl, q⟩ := z
        obtain rfl : b = b' := by
          have : Value.bool b = .bool b' := rv
          injection this
        exact ⟨H', J', q⟩
  · have plain : (match truD d with | some b => R.ok b env | none => R.stuck) = gTru bm d env → ∃ b, TruV X.K v H b ∧ Q b H := fun e => by
      rw [← e] at h
      cases q : truD d with
      | none =>
        rw [q] at h
        exact h.elim
      | some b =>
        rw [q] at h
        exact ⟨b, truD_ok rl.ex rv q, Post.here h rl⟩
    cases d with
    | ins c fs =>
      unfold gTru at h
      dsimp only at h
      cases q : bm c with
      | none =>
        rw [q] at h
        exact h.elim
      | some r =>
        rw [q] at h
        dsimp only at h
        refine .inr ⟨G, c, fs, r, rl.ex, rv, q, _, _, G, rel_vals (ds := [.ins c fs]) (vs := [v]) rl.ex ⟨v, [], rfl, rv, rfl⟩, ?_⟩
        show PostF X.K _ G H (r [Sl.val (.ins c fs)]) _ _
        cases q2 : r [Sl.val (.ins c fs)] with
        | ok x e' =>
          rw [q2] at h
          cases x with
          | ow d => exact h.elim
          | sh d => cases d with
            | bl b => exact fun G' H' v' ex ad ou ro => ⟨b, ro, h G' H' (adv_vals ad) (rl.step (adv_vals ad) ex fun a o _ z => ad.fr a o (fun y => nomatch (List.mem_replicate.mp y).2) z)⟩
            | _ => exact h.elim
        | err y e' =>
          rw [q2] at h
          exact h.elim
        | stuck =>
          rw [q2] at h
          exact h.elim
    | _ => exact .inl (plain rfl)
end
end Mini
set_option maxHeartbeats 2000000
/-! Mini, part 26: an own class's __name__. -/
namespace Mini
open PySem PySem.Spec PyProof.Rows L2 PySem.W PySem.Calls Builtin Builtin.ObjectAttr Builtin.Getset_descriptor
section
variable {prog : Program} {w : World} {A : Around} {E : Value → Shared → Prop} {s : Shared} {K : Frag} {R : Result → Shared → Prop} {C : Addr} {oC : Obj} {nm : Str} {tk : Tok}
theorem cn_dga (d tp : Value) (C : Addr) : descrGetArgs ⟨[d, .ref C, tp], []⟩ = pure (d, some (.ref C), given tp) := by kernel_rfl
theorem cn_get {tp : Value} (X : K.In s.heap) (hC : K.lookup C = some oC) (hc : oC.cls = .type "type") (hs : oC.slots[2]? = some (some (.str nm tk))) (h : R (.ok (.ret (.str nm tk))) s) :
    codeAny (model prog w) A (.call (.builtin "getset_descriptor.__get__") ⟨[.builtin "type.__name__", .ref C, tp], []⟩) R s := by
  obtain ⟨hh, g, dr, t, os⟩ := s
  have hCh := X _ _ hC
  have L0 : Looks (model prog w) hh (typeOf (.ref C)) (.type "type") := hc ▸ (Looks.ld hCh).andThen .now
  have L1 : Looks (model prog w) hh (isSubtype (.type "type") (.type "type")) true := Looks.of_pure (by rw [isSubtype_type]; kernel_rfl)
  refine codeAny_call_builtin KF.slot_gs.plain KF.entry_gs (KF.slot_gs.check _ _ _ _ _ _ _ _ ktyn_type (KF.args_gs _ _ _) ?_)
  unfold Builtin.«getset_descriptor.__get__» descrGet
  rw [cn_dga]
  refine wpAny_bind (wpAny_pure ?_)
  unfold descrGetter descrCheckInstance descrNameAndClass isInstance
  simp only [ktyn_owner]
  repeat lk
  refine ⟨Code.quiet_builtin _ (by decide +kernel), codeAny_builtin ktyn_entry ?_⟩
  unfold Builtin.«type.__name__»
  dsimp only
  unfold keptObject
  dsimp only
  unfold slotAt
  refine wpAny_bind (wpAny_bind (wpAny_loadPart hCh (wpAny_pure ?_)))
  rw [hs]
  exact wpAny_pure h
theorem cn_attr {expr : Bool} {Q : Value → Shared → Prop} (X : K.In s.heap) (opq : nsIn K cStatics "thirdparty.any" = some none) (hC : K.lookup C = some oC) (hc : oC.cls = .type "type") (hs : oC.slots[2]? = some (some (.str nm tk)))
    (e : findCls K (.ref C) (.type "type") "__name__" = some (.get (.builtin "getset_descriptor.__get__") (.builtin "type.__name__") (.ref C) (.type "type"))) (h : ∀ u, Q (.str nm tk) { s with toks := u }) : wpAny (model prog w) A (getAttr (.ref C) "__name__" expr) Q E s := by
  have L0 : Looks (model prog w) s.heap (typeOf (.ref C)) (.type "type") := hc ▸ (Looks.ld (X _ _ hC)).andThen .now
  have hg : findIn K (.type "type") "__getattribute__" = some (some (.builtin "type.__getattribute__")) := type_tga
  refine cls_open X (looks_opaque X opq) L0 hg (looks_hook X (r := none) (by rfl)) (by show subIn K _ _ = _; rfl) e ?_
  show wpAny _ _ (do PySem.ret (← holding [Value.builtin "type.__name__"] (call (.builtin "getset_descriptor.__get__") [.builtin "type.__name__", .ref C, .type "type"]))) _ _ _
  refine wpAny_bind (wpAny_holding (wpAny_call (cn_get (s := { s with toks := s.toks + 1 }) X hC hc hs ?_)))
  exact wpAny_pure (handed_on rfl (h _))
end
section
variable {X : Cx} {W : WX}
/-- what the text says of a class's name -/
structure NmOk (K : Frag) (c nm : Str) : Prop where
  at' : ∃ oC tk, K.lookup (He.ga K c) = some oC ∧ oC.cls = .type "type" ∧ oC.slots[2]? = some (some (.str nm tk))
  get : findCls K (.ref (He.ga K c)) (.type "type") "__name__" = some (.get (.builtin "getset_descriptor.__get__") (.builtin "type.__name__") (.ref (He.ga K c)) (.type "type"))
  opq : nsIn K cStatics "thirdparty.any" = some none
theorem at_name {nmf : Str → Option Str} (NO : ∀ c nm, nmf c = some nm → NmOk X.K c nm) : AtR X "__name__" (fun x H Q => ∃ c nm, x = .ref (He.ga X.K c) ∧ nmf c = some nm ∧ Q (.str nm) H) := by
  intro pins s σ H x u Q I rx h
  obtain ⟨c, nm, rfl, hn, q⟩ := h
  obtain rfl : u = Value.ref (He.ga X.K c) := rx
  have N := NO c nm hn
  obtain ⟨oC, tk, h1, h2, h3⟩ := N.at'
  exact cn_attr I.kIn N.opq h1 h2 h3 N.get fun t' => ⟨.str nm, H, I.tok _, ⟨_, rfl⟩, q⟩
theorem at_class {T : Tab} (TO : TabOk T X.K) : AtR X "__class__" (fun x H Q => ∃ a c dx fs, x = .ref a ∧ H a = some (.ins (He.ga X.K c) dx fs) ∧ T.pl c = true ∧ Q (.ref (He.ga X.K c)) H) := by
  intro pins s σ H x u Q I rx h
  obtain ⟨a, c, dx, fs, rfl, ha, hp, q⟩ := h
  obtain rfl : u = Value.ref a := rx
  have kp := TO.pl c hp
  obtain ⟨mA, O, _⟩ := ins_get I.hok ha
  obtain ⟨od, J, _⟩ := O.look
  obtain ⟨m, hF⟩ := I.fr
  exact get_class hF I.ok.mod.kin J (kp.cl.get _) kp.cl.hd kp.ha TO.cn TO.ct kp.hm ⟨.ref (He.ga X.K c), H, I.tok _, rfl, q⟩
def clsM (T : Tab) (m : M D) : M D := fun e => (m e).bind fun d e1 => match d with
  | .ins c _ => if T.pl c = true then .ok (.cls c) e1 else .stuck
  | _ => .stuck
theorem se_cls {T : Tab} {e : Expr} {pos : Pos} {m : M D} (TO : TabOk T X.K) (he : SE X W e m) (hb : attributeBase e "__class__" X.env (eval e X.env) = eval e X.env) : SE X W (.Attribute e "__class__" pos) (clsM T m) := by
  obtain ⟨t, p, k⟩ := he
  refine ⟨_, pe_attr (at_class TO) p hb, fun A env G σ H Q rl h => ?_⟩
  refine k A env G σ H _ rl (Post.mono (Post.bind h) fun d e1 G1 H1 ad rl1 z x rx => ?_)
  cases d with
  | ins c fs =>
    dsimp only at z
    split at z
    · rename_i hp
      obtain ⟨a, dx, gs, rfl, h1, _⟩ := rx
      exact ⟨a, c, dx, gs, rfl, rl1.ex _ _ h1, hp, Post.here z rl1 _ rfl⟩
    · exact z.elim
  | _ => exact False.elim z
def nmM (nmf : Str → Option Str) (m : M D) : M D := fun e => (m e).bind fun d e1 => match d with
  | .cls c => (match nmf c with
    | some nm => .ok (.str nm) e1
    | none => .stuck)
  | _ => .stuck
theorem se_nm {nmf : Str → Option Str} (NO : ∀ c nm, nmf c = some nm → NmOk X.K c nm) {e : Expr} {pos : Pos} {m : M D} (he : SE X W e m) (hb : attributeBase e "__name__" X.env (eval e X.env) = eval e X.env) : SE X W (.Attribute e "__name__" pos) (nmM nmf m) := by
  obtain ⟨t, p, k⟩ := he
  refine ⟨_, pe_attr (at_name NO) p hb, fun A env G σ H Q rl h => ?_⟩
  refine k A env G σ H _ rl (Post.mono (Post.bind h) fun d e1 G1 H1 ad rl1 z x rx => ?_)
  cases d with
  | cls c =>
    dsimp only at z
    cases q : nmf c with
    | none =>
      rw [q] at z
      exact z.elim
    | some nm =>
      rw [q] at z
      exact ⟨c, nm, rx, q, Post.here z rl1 _ rfl⟩
  | _ => exact False.elim z
end
end Mini
set_option maxHeartbeats 1000000
/-! Mini, part 27: displays of dicts. -/
namespace Mini
open PySem PySem.Spec PyProof.Rows L2
def RepP (K : PySem.W.Frag) (G : Hp) : List (D × D) → List (V × V) → Prop
  | [], ps => ps = []
  | (k, d) :: r, ps => ∃ u v qs, ps = (u, v) :: qs ∧ Rep K G k u ∧ Rep K G d v ∧ RepP K G r qs
section
variable {X : Cx} {W : WX}
def SPr (X : Cx) (W : WX) (pos : Pos) (ks : List (Option Expr)) (es : List Expr) (m : M (List (D × D))) : Prop := ∃ t, PPs X pos ks es t ∧ ∀ A env G σ H (Q : List (V × V) → Hp → Prop), Rel X.K A env G σ H →
  Post X.K A G σ H W (m env) (fun ds _ G' H' => ∀ ps, RepP X.K G' ds ps → Q ps H') → tPairs t σ H Q
theorem spr_nil {pos : Pos} : SPr X W pos [] [] (ret []) := ⟨_, pps_nil, fun A env G σ H Q rl h => Post.here h rl [] rfl⟩
def consP (mk mv : M D) (r : M (List (D × D))) : M (List (D × D)) := fun e => (mk e).bind fun k e1 => (mv e1).bind fun v e2 => (r e2).bind fun ps e3 => .ok ((k, v) :: ps) e3
theorem spr_cons {pos : Pos} {k v : Expr} {ks : List (Option Expr)} {es : List Expr} {mk mv : M D} {r : M (List (D × D))} (hk : SE X W k mk) (hv : SE X W v mv) (hr : SPr X W pos ks es r) : SPr X W pos (some k :: ks) (v :: es) (consP mk mv r) := by
  obtain ⟨tk, pk, kk⟩ := hk
  obtain ⟨tv, pv, kv⟩ := hv
  obtain ⟨tr, pr, kr⟩ := hr
  refine ⟨_, pps_cons pk pv pr, fun A env G σ H Q rl h => ?_⟩
  refine kk A env G σ H _ rl (Post.mono (Post.bind h) fun dk e1 G1 H1 ad1 rl1 h1 x rx => ?_)
  refine kv A e1 G1 σ H1 _ rl1 (Post.mono (Post.bind h1) fun dv e2 G2 H2 ad2 rl2 h2 y ry => ?_)
  refine kr A e2 G2 σ H2 _ rl2 (Post.mono (Post.bind h2) fun ds e3 G3 H3 ad3 rl3 h3 ps rp => ?_)
  exact Post.here h3 rl3 _ ⟨x, y, ps, rfl, rx.mono (ad2.g.trans ad3.g), ry.mono ad3.g, rp⟩
/-- the pairs as a dict's: keys ints, texts -/
def keysD : List (D × D) → Option (List (Key × D))
  | [] => some []
  | (.int i, d) :: r => (keysD r).map ((Sum.inl i, d) :: ·)
  | (.str x, d) :: r => (keysD r).map ((Sum.inr x, d) :: ·)
  | _ => none
theorem keys_rep {K : PySem.W.Frag} {G : Hp} : ∀ {ds : List (D × D)} {ps : List (V × V)} {kds : List (Key × D)}, RepP K G ds ps → keysD ds = some kds → ∃ kvs, ps = kvs.map (fun kv => (kV kv.1, kv.2)) ∧ RepK K G kds kvs ∧ kvs.length = ds.length
  | [], ps, kds, r, h => by
    cases h
    exact ⟨[], r, rfl, rfl⟩
  | (k, d) :: ds, _, kds, ⟨u, v, qs, h1, h2, h3, h4⟩, h => by
    subst h1
    cases k with
    | int i =>
      unfold keysD at h
      obtain ⟨ks, q, rfl⟩ := map_some h
      obtain ⟨kvs, k1, k2, k3⟩ := keys_rep h4 q
      exact ⟨(Sum.inl i, v) :: kvs, by rw [show u = .int i from h2, k1]; rfl, ⟨v, kvs, rfl, h3, k2⟩, congrArg Nat.succ k3⟩
    | str x =>
      unfold keysD at h
      obtain ⟨ks, q, rfl⟩ := map_some h
      obtain ⟨kvs, k1, k2, k3⟩ := keys_rep h4 q
      exact ⟨(Sum.inr x, v) :: kvs, by rw [show u = .str x from h2, k1]; rfl, ⟨v, kvs, rfl, h3, k2⟩, congrArg Nat.succ k3⟩
    | _ => cases h
/-- pairs merged, later ones in the places of earlier ones -/
def putKD (k : Key) (d : D) : List (Key × D) → List (Key × D)
  | [] => [(k, d)]
  | (j, c) :: r => if j = k then (j, d) :: r else (j, c) :: putKD k d r
def mergeD : List (Key × D) → List (Key × D) → List (Key × D)
  | acc, [] => acc
  | acc, (k, d) :: r => mergeD (putKD k d acc) r
def disM (ms : M (List (D × D))) : M D := fun e => match ms e with
  | .ok ds e1 => (match keysD ds with
    | some [(k, d)] => .ok (.dct [(k, d)]) e1
    | _ => .stuck)
  | _ => .stuck
/-- {k: v} -/
theorem se_dis1 {k v : Expr} {pos : Pos} {ms : M (List (D × D))} (h : SPr X W pos [some k] [v] ms) : SE X W (.Dict [some k] [v] pos) (disM ms) := by
  obtain ⟨t, p, kk⟩ := h
  refine ⟨_, pe_disp p rfl rfl (by simp) (by simp), fun A env G σ H Q rl h => ?_⟩
  intro p hp
  have hG : G p = none := rl.ex.free hp
  have hA : some p ∉ A := fun z => (rl.off p z).2 hp
  have rl1 : Rel X.K A env G σ (upd H p (.dK [])) := by
    refine ⟨fun b o e => same_upd hp b o (rl.ex b o e), rl.len, rl.lenA, rl.val, fun i d e => ?_, fun a z => ⟨(rl.off a z).1, ?_⟩, rl.inj, rl.has⟩
    · obtain ⟨a, o, k1, k2, k3, k4⟩ := rl.own i d e
      exact ⟨a, o, k1, k2, same_upd hp a o k3, k4⟩
    · rw [upd_ne (fun y => hA (by rw [← y]; exact z))]
      exact (rl.off a z).2
  refine kk A env G σ _ _ rl1 ?_
  unfold disM at h
  cases q : ms env with
  | ok ds e1 =>
    rw [q] at h
    dsimp only at h
    intro G2 H2 ad rl2 ps rp
    have h2p : H2 p = some (.dK []) := ad.fr p _ hA upd_same
    refine ⟨h2p, ?_⟩
    have hG2 : G2 p = none := by
      cases z : G2 p with
      | none => rfl
      | some o =>
        rcases ad.new p o z with y | y
        · rw [hG] at y
          cases y
        · rw [upd_same] at y
          cases y
    cases q2 : keysD ds with
    | none =>
      rw [q2] at h
      exact h.elim
    | some kds =>
      rw [q2] at h
      cases kds with
      | nil => exact h.elim
      | cons kd r => cases r with
        | cons _ _ => exact h.elim
        | nil =>
          obtain ⟨key, d⟩ := kd
          obtain ⟨kvs, k1, k2, k3⟩ := keys_rep rp q2
          obtain ⟨v0, vs0, e0, r0, e2⟩ := k2
          have e2 : vs0 = [] := e2
          subst e2 e0
          refine ⟨[(key, v0)], k1, by simp, ?_⟩
          have hm : mergeK [] [(key, v0)] = [(key, v0)] := rfl
          rw [hm]
          have sg := same_upd (o := HO.dK [(key, v0)]) hG2
          have rl3 : Rel X.K A e1 (upd G2 p (.dK [(key, v0)])) σ (upd H2 p (.dK [(key, v0)])) := by
            refine ⟨same_upds rl2.ex, rl2.len, rl2.lenA, fun i d e => ?_, fun i d e => ?_, fun a z => ?_, rl2.inj, rl2.has⟩
            · obtain ⟨v, a1, a2⟩ := rl2.val i d e
              exact ⟨v, a1, a2.mono sg⟩
            · obtain ⟨a, o, k1, k2, k3, k4⟩ := rl2.own i d e
              have na : a ≠ p := fun y => hA (y ▸ List.mem_of_getElem? k1)
              exact ⟨a, o, k1, k2, by rw [upd_ne na]; exact k3, k4.mono sg⟩
            · have na : a ≠ p := fun y => hA (y ▸ z)
              rw [upd_ne na, upd_ne na]
              exact rl2.off a z
          refine h _ _ ⟨ad.g.trans sg, fun b o z => ?_, fun b o nb z => ?_, fun b z => ?_⟩ rl3 (.ref p) ⟨p, _, rfl, upd_same, v0, [], rfl, r0.mono sg, rfl⟩
          · by_cases hb : b = p
            · exact .inr (hb ▸ hp)
            · rw [upd_ne hb] at z
              rcases ad.new b o z with y | y
              · exact .inl y
              · rw [upd_ne hb] at y
                exact .inr y
          · have hb : b ≠ p := ne_of_none z hp
            rw [upd_ne hb]
            exact ad.fr b o nb (by rw [upd_ne hb]; exact z)
          · by_cases hb : b = p
            · exact hb ▸ hp
            · rw [upd_ne hb] at z
              have y := ad.th b z
              rw [upd_ne hb] at y
              exact y
  | err x e1 =>
    rw [q] at h
    exact h.elim
  | stuck =>
    rw [q] at h
    exact h
/-! ### C(), an error's class without an own __init__ -/
def exc0M (c : Str) : M D := ret (.exc c [])
theorem se_exc0 {c x : Str} {p pos : Pos} {bmB : List Value} {B newId initId : String} (F : ExcBaseFacts B newId initId bmB) (q : PySem.W.excIn X.K (He.ga X.K c) bmB newId = true) (gC : X.mg x = some (.ref (He.ga X.K c))) (kC : PySem.W.keepIn X.K (.ref (He.ga X.K c)) = true) (hg : Gl X x) (hdb : (x == ("__debug__" : Str)) = false) :
    SE X W (.Call (.Name x p) [] [] pos) (exc0M c) := by
  refine ⟨fun σ H Q => ∀ a, H a = none → Q (.ref a) (upd H a (exo a (He.ga X.K c) none)), ⟨fun pins s σ H Q I h => ?_⟩, fun A env G σ H Q rl h a n => ?_⟩
  · refine wpAny_Call_Name_kw (ld_glob I hg gC ?_ hdb)
    refine PySem.W.callWith_K0 I.kIn kC ?_
    show wpAny _ _ (call (.ref (He.ga X.K c)) []) _ _ _
    obtain ⟨bm, N, nm, qn, bs, hdct, sn, sub, ab, col, dd, k0, k1, k2, k3, k5, mN, hC, hN, hni, T⟩ := exc_obj I.kIn q
    refine wpAny_call_exc_subT F T hC hN hni (fun h' a hm => ?_) (by show 0 ≤ sizeLine; omega)
    have hn : H a = none := I.hok.gone hm.new
    obtain ⟨t, ht, _, _⟩ := hm.there
    exact ⟨.ref a, _, L2.Inv.laidN I hm.keeps hm.new hn (exo_ok ht), rfl, h a hn⟩
  · exact Post.new h rl n (.ref a) ⟨a, none, [], rfl, upd_same, .inl ⟨rfl, rfl⟩, rfl⟩
end
end Mini
set_option maxHeartbeats 2000000
/-! Mini, part 28: from the syntax tree to what it says; expressions. -/
namespace Mini
open PySem PySem.Spec PyProof.Rows L2
abbrev stuckM {α : Type} : M α := fun _ => .stuck
/-- an error's class: how many parameters its __init__ has, what it leaves, how keywords stand for parameters -/
structure ErrI where
  np : Nat
  eR : List D → Option (List (Str × D))
  kw : List (List Str × List Nat)
/-- what is known of the text -/
structure Txt where
  tab : Tab
  free : Str → Bool
  con : Str → Option D
  isCls : Str → Bool
  fnr : Str → Option Run
  mkr : Str → Option Run
  err : Str → Option ErrI
  ex0 : Str → Bool
  eqm : Str → Option Run
  bm : Str → Option Run
  nmf : Str → Option Str
/-- where an expression stands -/
structure CC where
  N : List Str
  sc : Scope
  fnl : Str → Bool
structure ErrOk (X : Cx) (k : Nat) (c : Str) (i : ErrI) : Prop where
  ex : ∃ (fI : Addr) (fd : FuncData) (ps : List Str), OexC X.K (He.ga X.K c) ∧ PySem.W.findIn X.K (.ref (He.ga X.K c)) "__init__" = some (some (.ref fI)) ∧ PySem.W.typeIn X.K (.ref fI) = some (.type "function") ∧ FnG X.prog X.w X.K X.mg X.base k fI fd ps (spErr X.K (He.ga X.K c) ps.length i.eR) ∧
    (∀ (s : Shared) (us : List Value), us.length = ps.length → BindsTo s fd ⟨us, []⟩ (ps.zip us)) ∧ (∀ ks ix, (ks, ix) ∈ i.kw → ix.length + 1 = ps.length ∧ ∀ (s : Shared) (e : Value) (ws : List Value), ws.length = ix.length → BindsTo s fd ⟨[e], ks.zip ws⟩ (ps.zip (e :: sel ix ws))) ∧
    ∀ ds fs, i.eR ds = some fs → ds.length + 1 = ps.length
/-- the facts behind the tables -/
structure Facts (T : Txt) (k : Nat) (X : Cx) : Prop where
  tab : TabOk T.tab X.K
  free : ∀ x, T.free x = true → X.mg x = none
  con : ∀ x d, T.con x = some d → ∃ u v, X.mg x = some u ∧ RelV v u ∧ ∀ G, Rep X.K G d v
  cls : ∀ c, T.isCls c = true → X.mg c = some (.ref (He.ga X.K c))
  fnr : ∀ x r, T.fnr x = some r → ∃ f, X.mg x = some (.ref f) ∧ PySem.W.keepIn X.K (.ref f) = true ∧ FnP X.prog X.w X.K X.mg X.base k f (spV X.K r)
  mkr : ∀ c r, T.mkr c = some r → ∃ f, X.mg c = some (.ref (He.ga X.K c)) ∧ Mk X.K (He.ga X.K c) f ∧ FnP X.prog X.w X.K X.mg X.base k f (spV X.K r)
  err : ∀ c i, T.err c = some i → X.mg c = some (.ref (He.ga X.K c)) ∧ ErrOk X k c i
  ex0 : ∀ c, T.ex0 c = true → X.mg c = some (.ref (He.ga X.K c)) ∧ PySem.W.keepIn X.K (.ref (He.ga X.K c)) = true ∧ PySem.W.excIn X.K (He.ga X.K c) HandSPX.veTail "ValueError.__new__" = true
  cmp : CmpOk T.tab X k T.eqm
  mro : ∀ c run, T.eqm c = some run → PySem.W.mroIn X.K (He.ga X.K c) (.type "object") = some true
  bm : ∀ c run, T.bm c = some run → OwnTru X k c run
  nm : ∀ c nm, T.nmf c = some nm → NmOk X.K c nm
  sy : ∃ o, X.K.lookup sysModules = some o
/-- a context that goes with the tables -/
structure Rdy (T : Txt) (k : Nat) (c : CC) (X : Cx) (W : WX) : Prop where
  N : X.N = c.N
  nd : c.N.Nodup
  sc : X.env.scope = c.sc
  fnl : X.fn = c.fnl
  calm : X.calm = true
  gu : X.A.guards = some []
  room : Room (k + 2) X.A
  tk : Takes X W
  fc : Facts T k X
/-! ### names -/
def ixOf (N : List Str) (x : Str) : Option Nat := N.findIdx? (fun y => decide (y = x))
theorem ixOf_get {N : List Str} {x : Str} {i : Nat} (h : ixOf N x = some i) : N[i]? = some x := by
  unfold ixOf at h
  rw [List.findIdx?_eq_some_iff_getElem] at h
  obtain ⟨hi, h1, _⟩ := h
  rw [List.getElem?_eq_getElem hi]
  exact congrArg some (of_decide_eq_true h1)
def okName (x : Str) : Bool := !(x == ("__debug__" : Str)) && !(x == ("__classdict__" : Str))
theorem okName_1 {x : Str} (h : okName x = true) : (x == ("__debug__" : Str)) = false ∧ (x == ("__classdict__" : Str)) = false := by
  unfold okName at h
  simp only [Bool.and_eq_true, Bool.not_eq_true'] at h
  exact h
def visB (sc : Scope) (x : Str) : Bool := match sc.names.lookup x with
  | some .local => true
  | some .cell => true
  | some .free => true
  | _ => false
theorem visB_ok {sc : Scope} {x : Str} (h : visB sc x = true) : Vis sc x := by
  unfold visB at h
  unfold Vis
  split at h <;> first | exact .inl (by assumption) | exact .inr (.inl (by assumption)) | exact .inr (.inr (by assumption)) | cases h
def glbB (sc : Scope) (x : Str) : Bool := match sc.names.lookup x with
  | some .globalImplicit => true
  | _ => false
theorem glbB_ok {T : Txt} {k : Nat} {c : CC} {X : Cx} {W : WX} {x : Str} (R : Rdy T k c X W) (h : glbB c.sc x = true) : Gl X x := by
  unfold glbB at h
  show X.env.scope.names.lookup x = some .globalImplicit
  rw [R.sc]
  split at h
  · assumption
  · cases h
def slotB (c : CC) (x : Str) : Option Nat := match ixOf c.N x with
  | some i => if visB c.sc x && okName x then some i else none
  | none => none
theorem slotB_ok {T : Txt} {k : Nat} {c : CC} {X : Cx} {W : WX} {x : Str} {i : Nat} (R : Rdy T k c X W) (h : slotB c x = some i) : X.N[i]? = some x ∧ Vis X.env.scope x ∧ (x == ("__debug__" : Str)) = false ∧ (x == ("__classdict__" : Str)) = false := by
  unfold slotB at h
  split at h
  · rename_i j hj
    split at h
    · rename_i hv
      cases h
      obtain ⟨h1, h2⟩ := Bool.and_eq_true_iff.mp hv
      rw [R.N, R.sc]
      exact ⟨ixOf_get hj, visB_ok h1, okName_1 h2⟩
    · cases h
  · cases h
/-- a name of the module, of the builtins -/
def gblB (T : Txt) (c : CC) (x : Str) : Bool := glbB c.sc x && okName x
def cName (T : Txt) (c : CC) (x : Str) : M D := match slotB c x with
  | some i => getv i
  | none => if gblB T c x then (match T.con x with
    | some d => ret d
    | none => if T.isCls x then ret (.cls x) else if T.free x && !decide (x = "__name__") then (match bootBuiltins x with
      | some (.type n) => ret (.typ n)
      | _ => stuckM) else stuckM) else stuckM
section
variable {T : Txt} {k : Nat} {c : CC} {X : Cx} {W : WX}
theorem se_stuck {e : Expr} : SE X W e stuckM := se_never fun _ => rfl
theorem cName_ok (R : Rdy T k c X W) (x : Str) (pos : Pos) : SE X W (.Name x pos) (cName T c x) := by
  unfold cName
  split
  · rename_i i hi
    obtain ⟨h1, h2, h3, h4⟩ := slotB_ok R hi
    exact se_var h1 h2 h3 h4
  · split
    · rename_i hg
      obtain ⟨g1, g2⟩ := Bool.and_eq_true_iff.mp hg
      have G := glbB_ok R g1
      have dd := (okName_1 g2).1
      split
      · rename_i d hd
        obtain ⟨u, v, k1, k2, k3⟩ := R.fc.con x d hd
        exact se_glob G k1 k2 k3 dd
      · split
        · rename_i hc
          exact se_glob (v := .ref (He.ga X.K x)) G (R.fc.cls x hc) rfl (fun _ => rfl) dd
        · split
          · rename_i hf
            obtain ⟨f1, f2⟩ := Bool.and_eq_true_iff.mp hf
            split
            · rename_i n hb
              exact se_typ G (R.fc.free x f1) hb (by simpa using f2) dd
            · exact se_stuck
          · exact se_stuck
    · exact se_stuck
end
/-! ### sides -/
def nsE : Expr → Bool
  | .Starred _ _ => false
  | _ => true
theorem nsE_ok {e : Expr} (h : nsE e = true) (es : List Expr) (env : Env) : starEach (e :: es) env = (false, eval e env) :: starEach es env := by
  cases e <;> first | rfl | cases h
theorem nsE_all {es : List Expr} {env : Env} (pos : Pos) (h : es.all nsE = true) : (backTo pos (starEach es env)).any (·.1) = false := by
  induction es with
  | nil => rfl
  | cons e es ih =>
    obtain ⟨h1, h2⟩ := Bool.and_eq_true_iff.mp (show (nsE e && es.all nsE) = true from h)
    rw [nsE_ok h1]
    exact ih h2
/-- expressions that are subscripts, bases of attributes, values in the plain way -/
def plE : Expr → Bool
  | .Name _ _ => true
  | .Constant _ _ _ => true
  | .BinOp _ _ _ _ => true
  | .Call _ _ _ _ => true
  | .Attribute _ _ _ => true
  | .Subscript _ _ _ => true
  | _ => false
def supE : Expr → Bool
  | .Call (.Name x _) [] [] _ => x == ("super" : Str)
  | _ => false
theorem plainIx_ok {e : Expr} (h : plE e = true) : PlainIx e := by
  intro o i
  cases e <;> first | rfl | cases h
theorem attrBase_ok {e : Expr} {f : Str} {env : Env} (h : plE e = true) (hs : supE e = false) : attributeBase e f env (eval e env) = eval e env := by
  cases e with
  | Call f0 as ks p =>
    unfold attributeBase
    cases f0 with
    | Name x q =>
      cases as with
      | nil =>
        cases ks with
        | nil =>
          have hx : (x != ("super" : Str)) = true := by
            have : (x == ("super" : Str)) = false := hs
            simp [bne, this]
          dsimp only
          rw [hx]
          simp
        | cons _ _ => rfl
      | cons _ _ => rfl
    | _ => rfl
  | _ => first | rfl | cases h
theorem isTrue_ok {e : Expr} (h : plE e = true) (env : Env) (whole : Sem Value) : isTrue e env whole = (do let v ← whole; standAt e.pos; holding [v] (truthy v)) := by
  cases e <;> first | rfl | cases h
/-! ### calls -/
structure Cm where
  E : Expr → M D
  T : Expr → M Bool
  V : Expr → M Rv
structure Sound (X : Cx) (W : WX) (p : Cm) : Prop where
  E : ∀ e, SE X W e (p.E e)
  T : ∀ e, ST X W e (p.T e)
  V : ∀ e, SV X W e (p.V e)
def cEs (f : Expr → M D) : List Expr → M (List D)
  | [] => ret []
  | e :: es => if nsE e then consM (f e) (cEs f es) else stuckM
theorem sa_stuck {X : Cx} {W : WX} {es : List Expr} : SA X W es stuckM := ⟨fun _ _ _ => False, ⟨fun _ _ _ _ _ _ _ z => z.elim⟩, fun A env G σ H Q rl p => p⟩
theorem cEs_ok {X : Cx} {W : WX} {p : Cm} (S : Sound X W p) : ∀ es, SA X W es (cEs p.E es)
  | [] => sa_nil
  | e :: es => by
    unfold cEs
    split
    · rename_i h
      exact sa_cons (S.E e) (cEs_ok S es) (nsE_ok h es _)
    · exact sa_stuck
def cAr (c : CC) (f : Expr → M D) : Expr → M Ag
  | .Name x p => match slotB c x with
    | some i => lnM i
    | none => vlM (f (.Name x p))
  | e => vlM (f e)
def cAgs (c : CC) (f : Expr → M D) : List Expr → M (List Ag)
  | [] => ret []
  | e :: es => if nsE e then consA (cAr c f e) (cAgs c f es) else stuckM
theorem sag_stuck {X : Cx} {W : WX} {es : List Expr} : SAg X W es stuckM := ⟨fun _ _ _ => False, ⟨fun _ _ _ _ _ _ _ z => z.elim⟩, fun A env G σ H Q rl p => p⟩
section
variable {T : Txt} {k : Nat} {c : CC} {X : Cx} {W : WX} {p : Cm}
theorem cAr_ok (R : Rdy T k c X W) (S : Sound X W p) (e : Expr) : SAr X W e (cAr c p.E e) := by
  unfold cAr
  split
  · split
    · rename_i i hi
      obtain ⟨h1, h2, h3, h4⟩ := slotB_ok R hi
      exact sar_name h1 h2 h3 h4
    · exact sar_vl (S.E _)
  · exact sar_vl (S.E _)
theorem cAgs_ok (R : Rdy T k c X W) (S : Sound X W p) : ∀ es, SAg X W es (cAgs c p.E es)
  | [] => sag_nil
  | e :: es => by
    unfold cAgs
    split
    · rename_i h
      exact sag_cons (cAr_ok R S e) (cAgs_ok R S es) (nsE_ok h es _)
    · exact sag_stuck
theorem sv_stuck {e : Expr} : SV X W e stuckM := ⟨fun _ _ _ => False, ⟨fun _ _ _ _ _ _ z => z.elim⟩, fun A env G σ H Q rl p => p⟩
theorem st_stuck {e : Expr} : ST X W e stuckM := ⟨fun _ _ _ => False, ⟨fun _ _ _ _ _ _ z => z.elim⟩, fun A env G σ H Q rl p => p⟩
/-- the builtin functions, types -/
def bltF (T : Txt) (id : String) : Option (List D → M D) := if id = "len" then some (pB lenF) else if id = "abs" then some (pB absF) else if id = "isinstance" then some (pB (isiG T.tab)) else if id = "repr" then some (pB reprF) else none
def tyF (n : String) : Option (List D → M D) := if n = "int" then some (pB intF) else if n = "bool" then some (pB boolF) else if n = "str" then some (pB strF) else if n = "list" then some (pB listF) else if n = "tuple" then some (pB tupF) else none
theorem bltF_ok (R : Rdy T k c X W) {id : String} {g : List D → M D} (h : bltF T id = some g) : CB X W (.builtin id) g := by
  unfold bltF at h
  have hu : X.A.units + 110 < cLine := by
    have := R.room.un
    omega
  split at h
  · rename_i e
    cases h
    rw [e]
    exact cb_len
  · split at h
    · rename_i e
      cases h
      rw [e]
      exact cb_abs
    · split at h
      · rename_i e
        cases h
        rw [e]
        exact cb_isi R.fc.tab
      · split at h
        · rename_i e
          cases h
          rw [e]
          exact cb_repr R.fc.sy R.gu hu
        · cases h
theorem tyF_ok {n : String} {g : List D → M D} (h : tyF n = some g) : CB X W (.type n) g := by
  unfold tyF at h
  split at h
  · rename_i e
    cases h
    rw [e]
    exact cb_int
  · split at h
    · rename_i e
      cases h
      rw [e]
      exact cb_bool
    · split at h
      · rename_i e
        cases h
        rw [e]
        exact cb_str
      · split at h
        · rename_i e
          cases h
          rw [e]
          exact cb_list
        · split at h
          · rename_i e
            cases h
            rw [e]
            exact cb_tup
          · cases h
def kwNames (kws : List Keyword) : List Str := kws.filterMap (·.arg)
def cKs (f : Expr → M D) : List Keyword → M (List D)
  | [] => ret []
  | kw :: r => consM (f kw.value) (cKs f r)
theorem cKs_ok (S : Sound X W p) : ∀ kws, SK X W kws (cKs p.E kws)
  | [] => sk_nil
  | ⟨nm, e, kp⟩ :: r => sk_cons (S.E e) (cKs_ok S r)
theorem kw_all {kws : List Keyword} {env : Env} (pos : Pos) (h : kws.all (fun q => q.arg.isSome) = true) : (backToKw pos (keywordEach kws env)).all (·.1.isSome) = true ∧ (backToKw pos (keywordEach kws env)).filterMap (·.1) = kwNames kws ∧ (backToKw pos (keywordEach kws env)).any (·.1.isNone) = false := by
  induction kws with
  | nil => exact ⟨rfl, rfl, rfl⟩
  | cons q r ih =>
    obtain ⟨nm, e, kp⟩ := q
    obtain ⟨h1, h2⟩ := Bool.and_eq_true_iff.mp (show ((nm.isSome) && r.all (fun q => q.arg.isSome)) = true from h)
    obtain ⟨i1, i2, i3⟩ := ih h2
    cases nm with
    | none => cases h1
    | some n => exact ⟨i1, congrArg (n :: ·) i2, i3⟩
theorem cKs_len {f : Expr → M D} : ∀ {kws : List Keyword} {env : En} {ds : List D} {e1 : En}, cKs f kws env = .ok ds e1 → ds.length = kws.length
  | [], _, _, _, h => by
    cases h
    rfl
  | kw :: r, env, ds, e1, h => by
    unfold cKs consM at h
    cases q : f kw.value env with
    | ok d e2 =>
      rw [q] at h
      simp only [R.bind_ok] at h
      cases q2 : cKs f r e2 with
      | ok ds2 e3 =>
        rw [q2] at h
        cases h
        exact congrArg Nat.succ (cKs_len q2)
      | err _ _ =>
        rw [q2] at h
        cases h
      | stuck =>
        rw [q2] at h
        cases h
    | err _ _ =>
      rw [q] at h
      cases h
    | stuck =>
      rw [q] at h
      cases h
def cCall (T : Txt) (c : CC) (p : Cm) (x : Str) (args : List Expr) (kws : List Keyword) : M Rv := if gblB T c x then (match kws, args with
  | [], [] => (match T.fnr x with
    | some r => callM r (ret [])
    | none => if T.ex0 x then shM (exc0M x) else stuckM)
  | [], e :: es => if (e :: es).all nsE then (match T.fnr x with
    | some r => callM r (cAgs c p.E (e :: es))
    | none => (match T.mkr x with
      | some r => mkM x r (cAgs c p.E (e :: es))
      | none => (match T.err x with
        | some i => shM (errM x i.eR id (cEs p.E (e :: es)))
        | none => if T.free x && !decide (x = "__name__") then (match bootBuiltins x with
          | some (.builtin id) => (match bltF T id with
            | some g => shM (bltM g (cEs p.E (e :: es)))
            | none => stuckM)
          | some (.type n) => (match tyF n with
            | some g => shM (bltM g (cEs p.E (e :: es)))
            | none => stuckM)
          | _ => stuckM) else stuckM))) else stuckM
  | kws, [] => (match T.err x with
    | some i => (match i.kw.lookup (kwNames kws) with
      | some ix => if kws.all (fun q => q.arg.isSome) && decide (kws.length = ix.length) then shM (errM x i.eR (sel ix) (cKs p.E kws)) else stuckM
      | none => stuckM)
    | none => stuckM)
  | _, _ => stuckM) else stuckM
theorem mem_of_lookup2 {α β : Type} [BEq α] [LawfulBEq α] {l : List (α × β)} {a : α} {b : β} (h : l.lookup a = some b) : (a, b) ∈ l := by
  induction l with
  | nil => cases h
  | cons p l ih =>
    obtain ⟨x, y⟩ := p
    simp only [List.lookup] at h
    split at h
    · rename_i q
      cases h
      rw [beq_iff_eq.mp q]
      exact List.mem_cons_self ..
    · exact List.mem_cons_of_mem _ (ih h)
theorem cCall_ok (R : Rdy T k c X W) (S : Sound X W p) (x : Str) (args : List Expr) (kws : List Keyword) (q pos : Pos) : SV X W (.Call (.Name x q) args kws pos) (cCall T c p x args kws) := by
  have r0 : Room k X.A := R.room.mono (by omega)
  have r1 : Room (k + 1) X.A := R.room.mono (by omega)
  unfold cCall
  split
  · rename_i hg
    obtain ⟨g1, g2⟩ := Bool.and_eq_true_iff.mp hg
    have G := glbB_ok R g1
    have dd := (okName_1 g2).1
    split
    · split
      · rename_i r hr
        obtain ⟨f, k1, k2, k3⟩ := R.fc.fnr x r hr
        exact sv_callP0 k3 R.gu r0 G k1 k2 R.tk dd
      · split
        · rename_i h
          obtain ⟨k1, k2, k3⟩ := R.fc.ex0 x h
          exact sv_sh (se_exc0 F.excBase_ValueError k3 k1 k2 G dd)
        · exact sv_stuck
    · rename_i e es
      split
      · rename_i hns
        obtain ⟨n1, n2⟩ := Bool.and_eq_true_iff.mp (show (nsE e && es.all nsE) = true from hns)
        have he := nsE_ok n1 es X.env
        have hp := nsE_all (env := X.env) pos n2
        split
        · rename_i r hr
          obtain ⟨f, k1, k2, k3⟩ := R.fc.fnr x r hr
          exact sv_callP k3 R.gu r0 G k1 k2 R.tk (cAgs_ok R S _) dd he hp
        · split
          · rename_i r hr
            obtain ⟨f, k1, k2, k3⟩ := R.fc.mkr x r hr
            exact sv_mk k2 k3 R.gu r1 G k1 R.tk (cAgs_ok R S _) dd he hp
          · split
            · rename_i i hi
              obtain ⟨k1, ⟨fI, fd, ps, j1, j2, j3, j4, j5, j6, j7⟩⟩ := R.fc.err x i hi
              exact sv_sh (se_err j1 j2 j3 j4 R.gu r1 j5 G k1 (cEs_ok S _) dd he hp j7)
            · split
              · rename_i hf
                obtain ⟨f1, f2⟩ := Bool.and_eq_true_iff.mp hf
                split
                · rename_i id hb
                  split
                  · rename_i g hgf
                    exact sv_sh (se_blt (bltF_ok R hgf) G (R.fc.free x f1) hb (cEs_ok S _) (by simpa using f2) dd he hp)
                  · exact sv_stuck
                · rename_i n hb
                  split
                  · rename_i g hgf
                    exact sv_sh (se_bty (tyF_ok hgf) G (R.fc.free x f1) hb (cEs_ok S _) (by simpa using f2) dd he hp)
                  · exact sv_stuck
                · exact sv_stuck
              · exact sv_stuck
      · exact sv_stuck
    · split
      · rename_i i hi
        split
        · rename_i ix hix
          split
          · rename_i ha
            obtain ⟨a1, a2⟩ := Bool.and_eq_true_iff.mp ha
            obtain ⟨b1, b2, b3⟩ := kw_all (env := X.env) pos a1
            obtain ⟨k1, ⟨fI, fd, ps, j1, j2, j3, j4, j5, j6, j7⟩⟩ := R.fc.err x i hi
            obtain ⟨m1, m2⟩ := j6 _ _ (mem_of_lookup2 hix)
            exact sv_sh (se_errK j1 j2 j3 j4 R.gu r1 m2 G k1 (cKs_ok S _) dd b1 b2 (by rw [b3]; rfl) j7 m1 fun env ds e1 z => (cKs_len z).trans (of_decide_eq_true a2))
          · exact sv_stuck
        · exact sv_stuck
      · exact sv_stuck
    · exact sv_stuck
  · exact sv_stuck
end
end Mini
set_option maxHeartbeats 2000000
/-! Mini, part 29: from the syntax tree to what it says; all expressions. -/
namespace Mini
open PySem PySem.Spec PyProof.Rows L2
section
variable {T : Txt} {k : Nat} {c : CC} {X : Cx} {W : WX} {p : Cm}
/-- the one reading, or the other -/
def orX (m1 m2 : M D) : M D := fun e => match m1 e with
  | .stuck => m2 e
  | r => r
theorem SE.or {e : Expr} {m1 m2 : M D} (h1 : SE X W e m1) (h2 : SE X W e m2) : SE X W e (orX m1 m2) := by
  obtain ⟨t1, p1, k1⟩ := h1
  obtain ⟨t2, p2, k2⟩ := h2
  refine ⟨fun σ H Q => t1 σ H Q ∨ t2 σ H Q, ⟨fun pins s σ H Q I h => h.elim (p1.run pins s σ H Q I) (p2.run pins s σ H Q I)⟩, fun A env G σ H Q rl h => ?_⟩
  unfold orX at h
  cases q : m1 env with
  | stuck =>
    rw [q] at h
    exact .inr (k2 A env G σ H Q rl h)
  | ok d e1 =>
    rw [q] at h
    exact .inl (k1 A env G σ H Q rl (by rw [q]; exact h))
  | err x e1 =>
    rw [q] at h
    exact .inl (k1 A env G σ H Q rl (by rw [q]; exact h))
/-! ### comparisons -/
def cmpG (T : Txt) : CmpOp → Option (D → D → M D)
  | .Eq => some (orM (p2 eqF) (gOwnEq T.tab T.eqm))
  | .NotEq => some (orM gNe (gOwnNe T.tab T.eqm))
  | .Lt => some gLt
  | .LtE => some gLe
  | .Gt => some gGt
  | .GtE => some gGe
  | _ => none
theorem cmpG_ok (R : Rdy T k c X W) {op : CmpOp} {g : D → D → M D} (h : cmpG T op = some g) : OpS X W (compareOp op) g := by
  have r0 : Room k X.A := R.room.mono (by omega)
  have r1 : Room (k + 1) X.A := R.room.mono (by omega)
  have hu : X.A.units + 64 < cLine := by
    have := R.room.un
    omega
  cases op with
  | Eq =>
    cases h
    exact (ops_eqD hu).or (ops_ownEq R.fc.tab R.fc.cmp R.gu r0)
  | NotEq =>
    cases h
    exact (ops_ne hu).or (ops_ownNe R.fc.tab R.fc.cmp R.fc.mro R.gu r1)
  | Lt =>
    cases h
    exact ops_lt
  | LtE =>
    cases h
    exact ops_le
  | Gt =>
    cases h
    exact ops_gt
  | GtE =>
    cases h
    exact ops_ge
  | _ => cases h
/-! ### and, or -/
def cAndT (f : Expr → M Bool) : List Expr → M Bool
  | [] => stuckM
  | [e] => f e
  | e :: b :: r => andM (f e) (cAndT f (b :: r))
def cOrT (f : Expr → M Bool) : List Expr → M Bool
  | [] => stuckM
  | [e] => f e
  | e :: b :: r => orB (f e) (cOrT f (b :: r))
theorem cAndT_ok (S : Sound X W p) (pos : Pos) : ∀ es, es ≠ [] → SW X W (.BoolOp .And es pos) (cAndT p.T es)
  | [], h => absurd rfl h
  | [e], _ => sw_and1 (S.T e)
  | e :: b :: r, _ => sw_and (S.T e) (cAndT_ok S pos (b :: r) (by simp))
theorem cOrT_ok (S : Sound X W p) (pos : Pos) : ∀ es, es ≠ [] → SW X W (.BoolOp .Or es pos) (cOrT p.T es)
  | [], h => absurd rfl h
  | [e], _ => sw_or1 (S.T e)
  | e :: b :: r, _ => sw_or (S.T e) (cOrT_ok S pos (b :: r) (by simp))
def cAndV (f : Expr → M D) : List Expr → M D
  | [] => stuckM
  | [e] => f e
  | e :: b :: r => andV (f e) (cAndV f (b :: r))
def cOrV (f : Expr → M D) : List Expr → M D
  | [] => stuckM
  | [e] => f e
  | e :: b :: r => orV (f e) (cOrV f (b :: r))
theorem cAndV_ok (S : Sound X W p) (pos : Pos) : ∀ es, es ≠ [] → SE X W (.BoolOp .And es pos) (cAndV p.E es)
  | [], h => absurd rfl h
  | [e], _ => se_one (S.E e)
  | e :: b :: r, _ => se_and (S.E e) (cAndV_ok S pos (b :: r) (by simp))
theorem cOrV_ok (S : Sound X W p) (pos : Pos) : ∀ es, es ≠ [] → SE X W (.BoolOp .Or es pos) (cOrV p.E es)
  | [], h => absurd rfl h
  | [e], _ => se_one (S.E e)
  | e :: b :: r, _ => se_or (S.E e) (cOrV_ok S pos (b :: r) (by simp))
/-! ### slices, f-strings -/
def cO (f : Expr → M D) : Option Expr → M (Option Int)
  | none => ret none
  | some e => partM (f e)
theorem cO_ok (S : Sound X W p) : ∀ o, SO X W o (cO p.E o)
  | none => so_none
  | some e => so_some (S.E e)
def cJ (f : Expr → M D) : List Expr → Str → M Str
  | [] => fun acc => ret acc
  | e :: es => joinM (f e) (cJ f es)
theorem cJ_ok (S : Sound X W p) : ∀ es, SJ X W es (cJ p.E es)
  | [] => sj_nil
  | e :: es => sj_cons (S.E e) (cJ_ok S es)
/-! ### loops' parts -/
def locB (c : CC) (x : Str) : Bool := match c.sc.names.lookup x with
  | some .local => true
  | some .cell => c.fnl x
  | _ => false
theorem locB_ok (R : Rdy T k c X W) {x : Str} (h : locB c x = true) : Loc X.env.scope x ∧ (X.fn x = true ∨ X.env.scope.names.lookup x = some .local) := by
  unfold locB at h
  rw [R.sc, R.fnl]
  unfold L2.Loc
  split at h
  · rename_i q
    exact ⟨.inl q, .inr q⟩
  · rename_i q
    exact ⟨.inr q, .inl h⟩
  · cases h
def cTgs (c : CC) : List Expr → Option (List Nat)
  | [] => some []
  | .Name x _ :: r => match ixOf c.N x, cTgs c r with
    | some i, some is => if locB c x then some (i :: is) else none
    | _, _ => none
  | _ => none
theorem cTgs_ok (R : Rdy T k c X W) : ∀ {es : List Expr} {is : List Nat}, cTgs c es = some is → Tgs X es is
  | [], _, h => by
    cases h
    exact .nil
  | e :: r, is, h => by
    cases e with
    | Name x q =>
      unfold cTgs at h
      split at h
      · rename_i i js hi hj
        split at h
        · rename_i hl
          cases h
          obtain ⟨l1, l2⟩ := locB_ok R hl
          exact .cons (by rw [R.N]; exact ixOf_get hi) l1 l2 (cTgs_ok R hj)
        · cases h
      · cases h
    | _ => cases h
def cTg (c : CC) (np : Option Nat) : Expr → Option (List Nat × (D → En → Option En))
  | .Name x _ => match ixOf c.N x with
    | some i => if locB c x then some ([i], put1 np i) else none
    | none => none
  | .Tuple es _ _ => (cTgs c es).map fun is => (is, putT np is)
  | _ => none
theorem asg_each {es : List Expr} {is : List Nat} (h : Tgs X es is) : (assignEach es X.env).length = es.length ∧ (assignEach es X.env).findIdx? (·.1) = none := by
  induction h with
  | nil => exact ⟨rfl, rfl⟩
  | @cons i x pos es is _ _ _ _ ih =>
    obtain ⟨i1, i2⟩ := ih
    refine ⟨congrArg Nat.succ i1, ?_⟩
    show List.findIdx? _ (_ :: _) = none
    rw [List.findIdx?_cons]
    simp [i2]
theorem cTg_ok (R : Rdy T k c X W) {np : Option Nat} {e : Expr} {is : List Nat} {put : D → En → Option En} (h : cTg c np e = some (is, put)) : SG X np e is put := by
  have nd : X.N.Nodup := by
    rw [R.N]
    exact R.nd
  cases e with
  | Name x q =>
    change (match ixOf c.N x with | some i => if locB c x then some ([i], put1 np i) else none | none => none) = some (is, put) at h
    split at h
    · rename_i i hi
      split at h
      · rename_i hl
        cases h
        obtain ⟨l1, l2⟩ := locB_ok R hl
        exact sg_name nd (by rw [R.N]; exact ixOf_get hi) l1 l2
      · cases h
    · cases h
  | Tuple es kk q =>
    change (cTgs c es).map (fun is => (is, putT np is)) = some (is, put) at h
    obtain ⟨js, h1, h2⟩ := map_some h
    cases h2
    have tg := cTgs_ok R h1
    obtain ⟨a1, a2⟩ := asg_each tg
    exact sg_tup R.calm nd tg fun g pg => pg_tup R.calm pg a1 a2
  | _ => cases h
def rngE : Expr → Bool
  | .Call (.Name x _) _ [] _ => decide (x = "range")
  | _ => false
def nsetE : Expr → Bool
  | .Set _ _ _ => false
  | _ => true
theorem nset_ok {e : Expr} (h : nsetE e = true) (env : Env) (x : Value) : foldedSetIterable e env x = pure x := by
  cases e <;> first | rfl | cases h
def cIt (T : Txt) (c : CC) (p : Cm) : Expr → M (List D)
  | .Call (.Name x q) as [] pos => if x = "range" then (if gblB T c x && T.free x && as.all nsE then (match as with
    | [_] => range1M (cEs p.E as)
    | [_, _] => range2M (cEs p.E as)
    | _ => stuckM) else stuckM) else itemsM (p.E (.Call (.Name x q) as [] pos))
  | e => itemsM (p.E e)
theorem si_stuck {tg e : Expr} : SI X W tg e stuckM := ⟨fun _ _ _ => False, ⟨fun _ _ _ _ _ _ z => z.elim⟩, fun A env G σ H Rk rl p => p⟩
theorem cIt_ok (R : Rdy T k c X W) (S : Sound X W p) (tg e : Expr) : SI X W tg e (cIt T c p e) := by
  unfold cIt
  split
  · rename_i x q as pos
    split
    · rename_i hx
      subst hx
      split
      · rename_i hg
        obtain ⟨h1, h2⟩ := Bool.and_eq_true_iff.mp hg
        obtain ⟨h3, h4⟩ := Bool.and_eq_true_iff.mp h1
        have G := glbB_ok R (Bool.and_eq_true_iff.mp h3).1
        have mg := R.fc.free _ h4
        split
        · rename_i a
          obtain ⟨n1, n2⟩ := Bool.and_eq_true_iff.mp (show (nsE a && ([] : List Expr).all nsE) = true from h2)
          exact si_range1 G mg (cEs_ok S _) (nsE_ok n1 [] _)
        · rename_i a b
          obtain ⟨n1, n2⟩ := Bool.and_eq_true_iff.mp (show (nsE a && [b].all nsE) = true from h2)
          obtain ⟨n3, _⟩ := Bool.and_eq_true_iff.mp (show (nsE b && ([] : List Expr).all nsE) = true from n2)
          exact si_range2 (cEs_ok S _) fun t pt => pi_range2 G mg pt (by rw [nsE_ok n1, nsE_ok n3]; rfl) (nsE_ok n3 [] _)
        · exact si_stuck
      · exact si_stuck
    · exact si_seq (S.E _)
  · exact si_seq (S.E _)
/-! ### blocks of comprehensions -/
def relS (scope sc : Scope) : Scope := { scope with names := scope.names.map fun (n, kd) => if (kd == .free && sc.kind == .function && sc.names.lookup n == some .cell) then (n, .cell) else (n, kd) }
def CC.blk (c : CC) (scope : Scope) : CC := ⟨c.N, relS scope c.sc, fun x => scope.names.lookup x == some .cell⟩
def ownOf (N : List Str) (scope : Scope) : List (Str × Nat) := scope.names.filterMap fun y => match y.2 with
  | .local => (ixOf N y.1).map fun i => (y.1, i)
  | .cell => (ixOf N y.1).map fun i => (y.1, i)
  | _ => none
theorem Rdy.blk (R : Rdy T k c X W) (s : Shared) (H : Hp) (scope : Scope) (C : Addr) (cl : List (Str × Addr)) (fp : List Addr) : Rdy T k (c.blk scope) (X.blk s H scope (compEnvC scope cl C X.env) fp) W0 where
  N := R.N
  nd := R.nd
  sc := by
    show relabel scope X.env = relS scope c.sc
    rw [← R.sc]
    rfl
  fnl := rfl
  calm := R.calm
  gu := R.gu
  room := R.room
  tk := fun u s' ⟨_, _, _, _, _, _, _, _, _, _, _, _, _, _, _, _, w⟩ => w.elim
  fc := ⟨R.fc.tab, R.fc.free, R.fc.con, R.fc.cls, R.fc.fnr, R.fc.mkr, fun c i h => ⟨(R.fc.err c i h).1, ⟨(R.fc.err c i h).2.ex⟩⟩, R.fc.ex0, ⟨R.fc.cmp.own, R.fc.cmp.sub⟩, R.fc.mro, R.fc.bm, R.fc.nm, R.fc.sy⟩
def cIfs (f : Expr → M Bool) : List Expr → M Bool
  | [] => ret true
  | [t] => f t
  | _ => stuckM
theorem cIfs_ok (S : Sound X W p) : ∀ es, SP X W es (cIfs p.T es)
  | [] => sp_nil
  | [t] => sp_one (S.T t)
  | _ :: _ :: _ => ⟨fun _ _ _ => False, ⟨fun _ _ _ _ _ _ z => z.elim⟩, fun A env G σ H Q rl p => p⟩
def cLc (T : Txt) (c : CC) (p pb : Cm) (elt tg iter : Expr) (ifs : List Expr) (scope : Scope) : M D := match cTg (c.blk scope) none tg with
  | some (is, put) => if blkC c.N c.sc scope (ownOf c.N scope) && is.all (fun i => decide (i ∈ (ownOf c.N scope).map (·.2))) && nsetE iter then lcM ((ownOf c.N scope).map (·.2)) (cIt T c p iter) put (cIfs pb.T ifs) (pb.E elt) else stuckM
  | none => stuckM
theorem cLc_ok (R : Rdy T k c X W) (S : Sound X W p) {pb : Cm} {elt tg iter : Expr} {ifs : List Expr} {scope : Scope} {pos : Pos} (SB : ∀ X W, Rdy T k (c.blk scope) X W → Sound X W pb) : SE X W (.ListComp elt [⟨tg, iter, ifs, 0⟩] scope pos) (cLc T c p pb elt tg iter ifs scope) := by
  unfold cLc
  split
  · rename_i is put ht
    split
    · rename_i hc
      obtain ⟨h1, h2⟩ := Bool.and_eq_true_iff.mp hc
      obtain ⟨h3, h4⟩ := Bool.and_eq_true_iff.mp h1
      have hb : BlkOk X.N X.env.scope scope (ownOf c.N scope) := by
        rw [R.N, R.sc]
        exact blkOk_by h3
      exact se_lc R.calm (by rw [R.N]; exact R.nd) hb (cIt_ok R S tg iter) (fun s H C cl fp => cTg_ok (R.blk s H scope C cl fp) ht) (fun s H C cl fp => cIfs_ok (SB _ _ (R.blk s H scope C cl fp)) ifs) (fun s H C cl fp => (SB _ _ (R.blk s H scope C cl fp)).E elt)
        (fun i hi => of_decide_eq_true (List.all_eq_true.mp h4 i hi)) (fun x => nset_ok h2 _ x)
    · exact se_stuck
  · exact se_stuck
end
end Mini
set_option maxHeartbeats 2000000
/-! Mini, part 30: comp of expressions. -/
namespace Mini
open PySem PySem.Spec PyProof.Rows L2
def stepE (T : Txt) (c : CC) (p : Cm) (pb : CC → Cm) : Expr → M D
  | .Constant (.int i) _ _ => ret (.int i)
  | .Constant (.bool b) _ _ => ret (.bl b)
  | .Constant .none _ _ => ret .non
  | .Constant (.str x) _ _ => ret (.str x)
  | .Name x _ => cName T c x
  | .BinOp a op b _ => bin2 (gBin op) (p.E a) (p.E b)
  | .Compare a [op] [b] _ => if behindInMarks op b then stuckM else (match cmpG T op with
    | some g => bin2 g (p.E a) (p.E b)
    | none => stuckM)
  | .UnaryOp .Not a _ => notV (p.E a)
  | .BoolOp .And es _ => cAndV p.E es
  | .BoolOp .Or es _ => cOrV p.E es
  | .IfExp t a b _ => ifM (p.T t) (p.E a) (p.E b)
  | .List es _ => lstM (cEs p.E es)
  | .Tuple es _ _ => tupM (cEs p.E es)
  | .Subscript e (.Slice lo hi none _) _ => slM (p.E e) (cO p.E lo) (cO p.E hi)
  | .Subscript (.Name x q) b _ => if plE b then (match slotB c x with
    | some i => orX (bin2 (p2 ixD) (p.E (.Name x q)) (p.E b)) (ixOwnM i (p.E b))
    | none => bin2 (p2 ixD) (p.E (.Name x q)) (p.E b)) else stuckM
  | .Subscript a b _ => if plE b then bin2 (p2 ixD) (p.E a) (p.E b) else stuckM
  | .Attribute e f _ => if plE e && !supE e then (if f = "__class__" then clsM T.tab (p.E e) else if f = "__name__" then nmM T.nmf (p.E e) else atM T.tab f (p.E e)) else stuckM
  | .Call (.Name x _) as ks _ => unM (cCall T c p x as ks)
  | .ListComp elt [⟨tg, iter, ifs, 0⟩] scope _ => cLc T c p (pb (c.blk scope)) elt tg iter ifs scope
  | .Dict [some kk] [v] _ => disM (consP (p.E kk) (p.E v) (ret []))
  | .FormattedValue e (-1) none _ => fmtM (p.E e)
  | .JoinedStr (a :: b :: es) _ => fstrM (cJ p.E (a :: b :: es))
  | .JoinedStr [a] _ => p.E a
  | _ => stuckM
def stepT (T : Txt) (c : CC) (p : Cm) : Expr → M Bool
  | .Compare a [op] [b] _ => if behindInMarks op b then stuckM else (match cmpG T op with
    | some g => asB (bin2 g (p.E a) (p.E b))
    | none => stuckM)
  | .UnaryOp .Not a _ => notM (p.T a)
  | .BoolOp .And es _ => cAndT p.T es
  | .BoolOp .Or es _ => cOrT p.T es
  | e => if plE e then asTG (gTru T.bm) (p.E e) else stuckM
def stepV (T : Txt) (c : CC) (p : Cm) : Expr → M Rv
  | .Call (.Name x _) as ks _ => cCall T c p x as ks
  | .List es _ => lstO (cEs p.E es)
  | e => shM (p.E e)
def comp (T : Txt) : Nat → CC → Cm
  | 0, _ => ⟨fun _ => stuckM, fun _ => stuckM, fun _ => stuckM⟩
  | n + 1, c => ⟨stepE T c (comp T n c) (comp T n), stepT T c (comp T n c), stepV T c (comp T n c)⟩
section
variable {T : Txt} {k : Nat} {c : CC} {X : Cx} {W : WX} {p : Cm}
theorem stepE_ok (R : Rdy T k c X W) (S : Sound X W p) {pb : CC → Cm} (SB : ∀ c' X W, Rdy T k c' X W → Sound X W (pb c')) (e : Expr) : SE X W e (stepE T c p pb e) := by
  have hu : X.A.units + 110 < cLine := by
    have := R.room.un
    omega
  unfold stepE
  split
  · exact se_int
  · exact se_bl
  · exact se_non
  · exact se_str
  · exact cName_ok R _ _
  · exact se_bin (S.E _) (S.E _)
  · split
    · exact se_stuck
    · rename_i hm
      split
      · rename_i g hg
        exact se_cmp (cmpG_ok R hg) (S.E _) (S.E _) (by simpa using hm)
      · exact se_stuck
  · exact se_not (S.E _)
  · rename_i es pos
    cases es with
    | nil => exact se_stuck
    | cons a r => exact cAndV_ok S pos (a :: r) (by simp)
  · rename_i es pos
    cases es with
    | nil => exact se_stuck
    | cons a r => exact cOrV_ok S pos (a :: r) (by simp)
  · exact se_if (S.T _) (S.E _) (S.E _)
  · exact se_lst (cEs_ok S _)
  · exact se_tup (cEs_ok S _)
  · exact se_sl (S.E _) (cO_ok S _) (cO_ok S _)
  · split
    · rename_i hb
      split
      · rename_i i hi
        obtain ⟨h1, h2, h3, h4⟩ := slotB_ok R hi
        exact SE.or (se_ix (S.E _) (S.E _) (plainIx_ok hb)) (se_ownIx h1 h2 h3 h4 (S.E _) (plainIx_ok hb))
      · exact se_ix (S.E _) (S.E _) (plainIx_ok hb)
    · exact se_stuck
  · split
    · rename_i hb
      exact se_ix (S.E _) (S.E _) (plainIx_ok hb)
    · exact se_stuck
  · split
    · rename_i hb
      obtain ⟨h1, h2⟩ := Bool.and_eq_true_iff.mp hb
      rw [Bool.not_eq_true'] at h2
      split
      · rename_i hf
        subst hf
        exact se_cls R.fc.tab (S.E _) (attrBase_ok h1 h2)
      · split
        · rename_i hf
          subst hf
          exact se_nm R.fc.nm (S.E _) (attrBase_ok h1 h2)
        · exact se_at R.fc.tab (S.E _) (attrBase_ok h1 h2)
    · exact se_stuck
  · exact se_sv (cCall_ok R S _ _ _ _ _)
  · exact cLc_ok R S (SB _)
  · exact se_dis1 (spr_cons (S.E _) (S.E _) spr_nil)
  · exact se_fmt R.fc.sy R.gu hu (S.E _)
  · exact se_fstr (cJ_ok S _)
  · exact se_fstr1 (S.E _)
  · exact se_stuck
theorem stepT_ok (R : Rdy T k c X W) (S : Sound X W p) (e : Expr) : ST X W e (stepT T c p e) := by
  unfold stepT
  split
  · split
    · exact st_stuck
    · rename_i hm
      split
      · rename_i g hg
        exact st_cmp (cmpG_ok R hg) (S.E _) (S.E _) (by simpa using hm)
      · exact st_stuck
  · exact st_not (S.T _)
  · rename_i es pos
    cases es with
    | nil => exact st_stuck
    | cons a r => exact (cAndT_ok S pos (a :: r) (by simp)).st
  · rename_i es pos
    cases es with
    | nil => exact st_stuck
    | cons a r => exact (cOrT_ok S pos (a :: r) (by simp)).st
  · split
    · rename_i h
      exact st_truG (tru_all R.fc.bm R.gu (R.room.mono (by omega))) (S.E _) fun whole => isTrue_ok h _ whole
    · exact st_stuck
theorem stepV_ok (R : Rdy T k c X W) (S : Sound X W p) (e : Expr) : SV X W e (stepV T c p e) := by
  unfold stepV
  split
  · exact cCall_ok R S _ _ _ _ _
  · exact sv_lst (cEs_ok S _)
  · exact sv_sh (S.E _)
end
theorem comp_ok (T : Txt) (k : Nat) : ∀ (n : Nat) (c : CC) (X : Cx) (W : WX), Rdy T k c X W → Sound X W (comp T n c)
  | 0, c, X, W, R => ⟨fun e => se_stuck, fun e => st_stuck, fun e => sv_stuck⟩
  | n + 1, c, X, W, R => ⟨stepE_ok R (comp_ok T k n c X W R) (fun c' X' W' R' => comp_ok T k n c' X' W' R'), stepT_ok R (comp_ok T k n c X W R), stepV_ok R (comp_ok T k n c X W R)⟩
end Mini
set_option maxHeartbeats 2000000
/-! Mini, part 31: comp of statements. -/
namespace Mini
open PySem PySem.Spec PyProof.Rows L2
section
variable {X : Cx} {W : WX} {np : Option Nat}
/-- y = [..] on one line -/
theorem ss_setLc {i : Nat} {y : Str} {py : Pos} {elt tg iter : Expr} {ifs : List Expr} {scope : Scope} {own : List (Str × Nat)} {pos spos : Pos} {is : List Nat} {mi : M (List D)} {put : D → En → Option En} {mt : M Bool} {me : M D} (hc : X.calm = true) (hN : X.N.Nodup) (hy : X.N[i]? = some y) (hyl : X.env.scope.names.lookup y = some .local)
    (hsw : swapsWith (.ListComp elt [⟨tg, iter, ifs, 0⟩] scope pos) (some (.Name y py)) spos.line X.env = pure true) (ok : BlkOk X.N X.env.scope scope own)
    (hi : SI X W tg iter mi) (hg : ∀ (s : Shared) (H : Hp) (C : Addr) (cl : List (Str × Addr)) (fp : List Addr), SG (X.blk s H scope (compEnvC scope cl C X.env) fp) none tg is put)
    (ht : ∀ (s : Shared) (H : Hp) (C : Addr) (cl : List (Str × Addr)) (fp : List Addr), SP (X.blk s H scope (compEnvC scope cl C X.env) fp) W0 ifs mt)
    (he : ∀ (s : Shared) (H : Hp) (C : Addr) (cl : List (Str × Addr)) (fp : List Addr), SE (X.blk s H scope (compEnvC scope cl C X.env) fp) W0 elt me) (his : ∀ i ∈ is, i ∈ own.map (·.2)) (hs : ∀ x, foldedSetIterable iter X.env x = pure x) :
    SS X W np (.Assign [.Name y py] (.ListComp elt [⟨tg, iter, ifs, 0⟩] scope pos) spos) (setM np i (lcM (own.map (·.2)) mi put mt me)) := by
  obtain ⟨wi, pi, ki⟩ := hi
  refine ⟨_, ps_setLc (g := rdG X.K is put) (tt := rdT X.K W0 mt) (te := rdE X.K W0 me) hc hN hy hyl hsw pi ok (fun s H C cl fp => (hg s H C cl fp).rd) (fun s H C cl fp => (ht s H C cl fp).rd) (fun s H C cl fp => (he s H C cl fp).rd) hs, fun F A env G σ H E hnp c h => ?_⟩
  refine lc_reads his ki c.rel (Post.mono (Post.stmt c h) fun d e1 G1 H1 ad rl z v rv => ?_)
  obtain ⟨z1, z2⟩ := z
  subst hnp
  cases q : free F.np i e1 with
  | true =>
    rw [q, if_pos rfl] at z2
    exact z2 _ G1 _ H1 (Same.refl G1) (z1.setVal q rv)
  | false =>
    rw [q, if_neg Bool.false_ne_true] at z2
    exact z2.elim
theorem ss_stuck {s : Stmt} : SS X W np s (fun _ => .stuck) := ⟨fun _ _ _ => False, ⟨fun _ _ _ _ _ _ z => z.elim⟩, fun F A env G σ H E hnp c h => h⟩
theorem sss_stuck {s : List Stmt} : SSs X W np s (fun _ => .stuck) := ⟨fun _ _ _ => False, ⟨fun _ _ _ _ _ _ z => z.elim⟩, fun F A env G σ H E hnp c h => h⟩
end
/-- no comprehension -/
def nocE : Expr → Bool
  | .ListComp _ _ _ _ => false
  | .SetComp _ _ _ _ => false
  | .DictComp _ _ _ _ _ => false
  | _ => true
theorem noc_ok {e : Expr} (h : nocE e = true) (t : Option Expr) (l : Nat) (env : Env) : swapsWith e t l env = pure false := by
  cases e <;> first | rfl | cases h
/-- how a def's body is taken: its own names, does it give new objects -/
structure SC where
  c : CC
  np : Option Nat
  own : List Str
  rown : Bool
def swB (c : CC) (y : Str) (py : Pos) (scope : Scope) (pos : Pos) : Bool := decide (c.sc.kind = .function) && decide (c.sc.names.lookup y = some .local) && (py.line == pos.line) && !(scope.names.any fun (n, kd) => n == y && (kd == .local || kd == .cell))
def parB (c : CC) (x y : Str) (px py : Pos) (a b : Expr) : Bool := decide (c.sc.kind = .function) && decide (c.sc.names.lookup x = some .local) && decide (c.sc.names.lookup y = some .local) && (py.line == px.line) && !decide (x = y) && nsE a && nsE b && !(foldedForSure 8 a) && !(constantsAlone 8 a)
def stepS (T : Txt) (sc : SC) (p : Cm) (pb : CC → Cm) (body : List Stmt → MS) : Stmt → MS
  | .Pass _ => fun e => .ok .nx e
  | .Break _ => fun e => .ok .bk e
  | .Continue _ => fun e => .ok .ct e
  | .Return none _ => fun e => .ok (.rt .non) e
  | .Return (some e) _ => if sc.rown then retO (p.V e) else retM (p.E e)
  | .Expr e _ => if nocE e then dropM (p.E e) else fun _ => .stuck
  | .If t a b _ => ifM (p.T t) (body a) (body b)
  | .For tg iter b [] _ => match cTg sc.c sc.np tg with
    | some (is, put) => if nsetE iter then forM (cIt T sc.c p iter) put (body b) else fun _ => .stuck
    | none => fun _ => .stuck
  | .Assign [.Name y py] (.ListComp elt [⟨tg, iter, ifs, 0⟩] scope pos) _ => match ixOf sc.c.N y with
    | some i => if swB sc.c y py scope pos then (match cTg (sc.c.blk scope) none tg with
      | some (is, put) => if blkC sc.c.N sc.c.sc scope (ownOf sc.c.N scope) && is.all (fun i => decide (i ∈ (ownOf sc.c.N scope).map (·.2))) && nsetE iter then setM sc.np i (lcM ((ownOf sc.c.N scope).map (·.2)) (cIt T sc.c p iter) put (cIfs (pb (sc.c.blk scope)).T ifs) ((pb (sc.c.blk scope)).E elt)) else fun _ => .stuck
      | none => fun _ => .stuck) else fun _ => .stuck
    | none => fun _ => .stuck
  | .Assign [.Name y _] e _ => match ixOf sc.c.N y with
    | some i => if locB sc.c y && nocE e then (if sc.own.contains y then setO sc.np i (p.V e) else setM sc.np i (p.E e)) else fun _ => .stuck
    | none => fun _ => .stuck
  | .Assign [.Tuple [.Name x px, .Name y py] _ _] (.Tuple [a, b] _ _) _ => match ixOf sc.c.N x, ixOf sc.c.N y with
    | some i, some j => if parB sc.c x y px py a b then parM sc.np i j (p.E a) (p.E b) else fun _ => .stuck
    | _, _ => fun _ => .stuck
  | .Assign [.Subscript (.Name x _) ie _] e _ => match slotB sc.c x with
    | some i => if nocE e && plE ie then sub2M i (p.E e) (p.E ie) else fun _ => .stuck
    | none => fun _ => .stuck
  | .Assign [.Attribute (.Name x _) f _] e _ => match slotB sc.c x with
    | some i => if nocE e then fldM T.tab f i (p.E e) else fun _ => .stuck
    | none => fun _ => .stuck
  | _ => fun _ => .stuck
def compSs (f : Stmt → MS) : List Stmt → MS
  | [] => fun e => .ok .nx e
  | s :: r => seqM (f s) (compSs f r)
def compS (T : Txt) (sc : SC) : Nat → Stmt → MS
  | 0, _ => fun _ => .stuck
  | n + 1, s => stepS T sc (comp T n sc.c) (comp T n) (compSs (compS T sc n)) s
/-- a context of statements -/
structure RdyS (T : Txt) (k : Nat) (sc : SC) (X : Cx) (W : WX) : Prop where
  e : Rdy T k sc.c X W
  own : PassesOwn (model X.prog X.w) X.A X.env X.xe
section
variable {T : Txt} {k : Nat} {sc : SC} {X : Cx} {W : WX} {p : Cm}
theorem compSs_ok {f : Stmt → MS} (h : ∀ s, SS X W sc.np s (f s)) : ∀ ss, SSs X W sc.np ss (compSs f ss)
  | [] => sss_nil
  | s :: r => sss_cons (h s) (compSs_ok h r)
theorem par_sw {c : CC} (hsc : X.env.scope = c.sc) {x y : Str} {px py pt pt2 : Pos} {kt k2 : Nat} {a b : Expr} (h : parB c x y px py a b = true) : X.env.scope.names.lookup x = some .local ∧ X.env.scope.names.lookup y = some .local ∧ x ≠ y ∧ nsE a = true ∧ nsE b = true ∧
    swappedStores [.Tuple [.Name x px, .Name y py] kt pt] (.Tuple [a, b] k2 pt2) X.env = pure (some [x, y]) := by
  unfold parB at h
  simp only [Bool.and_eq_true, decide_eq_true_eq, Bool.not_eq_true', decide_eq_false_iff_not] at h
  obtain ⟨⟨⟨⟨⟨⟨⟨⟨h1, h2⟩, h3⟩, h4⟩, h5⟩, h6⟩, h7⟩, h8⟩, h9⟩ := h
  rw [← hsc] at h1 h2 h3
  refine ⟨h2, h3, h5, h6, h7, ?_⟩
  have hb : X.env.blockKind = .function := by
    unfold Env.blockKind
    rw [h1]
    rfl
  have kx : X.env.kindOf x = some .local := h2
  have ky : X.env.kindOf y = some .local := h3
  have st : ([a, b].any fun | .Starred .. => true | _ => false) = false := by
    cases a <;> cases b <;> first | rfl | exact absurd h6 Bool.false_ne_true | exact absurd h7 Bool.false_ne_true
  have ed : [x, y].eraseDups = [x, y] := by
    have e1 : (y == x) = false := by simpa using Ne.symm h5
    simp [List.eraseDups, List.eraseDupsBy, List.eraseDupsBy.loop, e1]
  have nms : ([Expr.Name x px, Expr.Name y py].filterMap fun | .Name id pos => if X.env.kindOf id == some .local && pos.line == (([Expr.Name x px, Expr.Name y py].head?.map (·.pos.line)).getD 0) then some id else none | _ => none) = [x, y] := by
    have l0 : (([Expr.Name x px, Expr.Name y py].head?.map (·.pos.line)).getD 0) = px.line := rfl
    rw [l0, List.filterMap_cons, List.filterMap_cons]
    simp [kx, ky, h4, beq_iff_eq.mp h4]
  unfold swappedStores
  dsimp only
  rw [hb, if_neg (by simp)]
  refine (if_neg (fun z => by have := st.symm.trans z; cases this)).trans ?_
  generalize hF : List.filterMap _ [Expr.Name x px, Expr.Name y py] = names
  have hn : names = [x, y] := hF.symm.trans nms
  subst hn
  rw [ed]
  rw [if_neg (by simp)]
  rw [if_neg (by simp [h8]), if_neg (by simp [h9])]
theorem sole_noc {e : Expr} (h : nocE e = true) (t : Expr) (l : Nat) (env : Env) : swapsWithSole [t] e l env = pure false := noc_ok h (some t) l env
theorem sub_asg {o i : Expr} {pos : Pos} {env : Env} (h : plE i = true) : ∀ v, assign (.Subscript o i pos) env v = (do
      let ov ← holding [v] (eval o env)
      let iv ← holding [v, ov] (eval i env)
      standAt pos
      holding [v, ov, iv] (setItem ov iv v)
      release [v, ov, iv] []) := by
  intro v
  cases i <;> first | rfl | cases h
theorem stepS_ok (R : RdyS T k sc X W) (S : Sound X W p) {pb : CC → Cm} (SB : ∀ c' X W, Rdy T k c' X W → Sound X W (pb c')) {body : List Stmt → MS} (hb : ∀ ss, SSs X W sc.np ss (body ss)) (s : Stmt) : SS X W sc.np s (stepS T sc p pb body s) := by
  have nd : X.N.Nodup := by
    rw [R.e.N]
    exact R.e.nd
  unfold stepS
  split
  · exact ss_pass
  · exact ss_break
  · exact ss_continue
  · exact ss_retN
  · split
    · exact ss_retO (S.V _)
    · exact ss_ret (S.E _)
  · split
    · rename_i h
      exact ss_expr (S.E _) (noc_ok h _ _ _)
    · exact ss_stuck
  · exact ss_if (S.T _) (hb _) (hb _)
  · split
    · rename_i is put ht
      split
      · rename_i hn
        exact ss_for R.own R.e.calm (cIt_ok R.e S _ _) (cTg_ok R.e ht) (hb _) fun x => nset_ok hn _ x
      · exact ss_stuck
    · exact ss_stuck
  · split
    · rename_i i hi
      split
      · rename_i hsw
        split
        · rename_i is put ht
          split
          · rename_i hc
            obtain ⟨h1, h2⟩ := Bool.and_eq_true_iff.mp hc
            obtain ⟨h3, h4⟩ := Bool.and_eq_true_iff.mp h1
            unfold swB at hsw
            simp only [Bool.and_eq_true, decide_eq_true_eq, Bool.not_eq_true'] at hsw
            obtain ⟨⟨⟨w1, w2⟩, w3⟩, w4⟩ := hsw
            rw [← R.e.sc] at w1 w2
            exact ss_setLc R.e.calm nd (by rw [R.e.N]; exact ixOf_get hi) w2 (sw_true w1 w2 w3 w4) (by rw [R.e.N, R.e.sc]; exact blkOk_by h3) (cIt_ok R.e S _ _) (fun s H C cl fp => cTg_ok (R.e.blk s H _ C cl fp) ht) (fun s H C cl fp => cIfs_ok (SB _ _ _ (R.e.blk s H _ C cl fp)) _) (fun s H C cl fp => (SB _ _ _ (R.e.blk s H _ C cl fp)).E _)
              (fun i hi => of_decide_eq_true (List.all_eq_true.mp h4 i hi)) (fun x => nset_ok h2 _ x)
          · exact ss_stuck
        · exact ss_stuck
      · exact ss_stuck
    · exact ss_stuck
  · split
    · rename_i i hi
      split
      · rename_i h
        obtain ⟨h1, h2⟩ := Bool.and_eq_true_iff.mp h
        obtain ⟨l1, l2⟩ := locB_ok R.e h1
        split
        · exact ss_setO nd (by rw [R.e.N]; exact ixOf_get hi) l1 l2 (noc_ok h2 _ _ _) (S.V _)
        · exact ss_set nd (by rw [R.e.N]; exact ixOf_get hi) l1 l2 (noc_ok h2 _ _ _) (S.E _)
      · exact ss_stuck
    · exact ss_stuck
  · split
    · rename_i i j hi hj
      split
      · rename_i h
        obtain ⟨a1, a2, a3, a4, a5, a6⟩ := par_sw R.e.sc h
        have e1 := ixOf_get hi
        have e2 := ixOf_get hj
        exact ss_par R.e.calm nd (by rw [R.e.N]; exact e1) (by rw [R.e.N]; exact e2) (fun z => by rw [z, e2] at e1; exact a3 (Option.some.inj e1).symm) a1 a2 (S.E _) (S.E _) (nsE_ok a4 _ _) (nsE_ok a5 _ _) a6
          fun t pt => ps_par R.e.calm nd (by rw [R.e.N]; exact e1) (by rw [R.e.N]; exact e2) (fun z => by rw [z, e2] at e1; exact a3 (Option.some.inj e1).symm) a1 a2 pt a6
      · exact ss_stuck
    · exact ss_stuck
  · split
    · rename_i i hi
      split
      · rename_i h
        obtain ⟨h1, h2⟩ := Bool.and_eq_true_iff.mp h
        obtain ⟨g1, g2, g3, g4⟩ := slotB_ok R.e hi
        refine ss_sub2 g1 g2 g3 g4 (S.E _) (S.E _) fun te ti p1 p2 => ?_
        exact ps_asg p1 (pg_sub (pe_var g1 g2 g3 g4) p2 set_list (sub_asg h2)) (sole_noc h1 _ _ _)
      · exact ss_stuck
    · exact ss_stuck
  · split
    · rename_i i hi
      split
      · rename_i h
        obtain ⟨g1, g2, g3, g4⟩ := slotB_ok R.e hi
        exact ss_fld R.e.fc.tab g1 g2 g3 g4 (S.E _) (noc_ok h _ _ _)
      · exact ss_stuck
    · exact ss_stuck
  · exact ss_stuck
end
theorem compS_ok (T : Txt) (k : Nat) (sc : SC) (X : Cx) (W : WX) (R : RdyS T k sc X W) : ∀ (n : Nat) (s : Stmt), SS X W sc.np s (compS T sc n s)
  | 0, s => ss_stuck
  | n + 1, s => stepS_ok R (comp_ok T k n sc.c X W R.e) (fun c' X' W' R' => comp_ok T k n c' X' W' R') (fun ss => compSs_ok (compS_ok T k sc X W R n) ss) s
end Mini
set_option maxHeartbeats 2000000
/-! Mini, part 32: all defs of a text, by levels. -/
namespace Mini
open PySem PySem.Spec PyProof.Rows L2
/-- a def of the text -/
structure DefI where
  name : Str
  qual : Str
  params : Arguments
  body : List Stmt
  scope : Scope
  /-- its parameters (but the starred one), the starred one, all slots (parameters first) -/
  ps : List Str
  star : Option Str
  N : List Str
  /-- names whose objects are the def's own; does it give new objects; how deep its tree is -/
  own : List Str
  rown : Bool
  fuel : Nat
def DefI.all (d : DefI) : List Str := match d.star with
  | none => d.ps
  | some v => d.ps ++ [v]
def DefI.sc (d : DefI) : SC := ⟨⟨d.N, d.scope, fun _ => true⟩, some d.all.length, d.own, d.rown⟩
def DefI.m (T : Txt) (d : DefI) : MS := compSs (compS T d.sc d.fuel) d.body
def DefI.run (T : Txt) (d : DefI) : Run := match d.star with
  | none => lenRun d.ps.length (bodyRun d.N.length (d.m T))
  | some _ => starRun d.ps.length (bodyRun d.N.length (d.m T))
/-- a text: its tables, its defs -/
structure Prg where
  base : Txt
  defs : Str → Option DefI
  inits : Str → Option DefI
  eqs : Str → Option DefI
  bools : Str → Option DefI
/-- the tables at level n -/
def lv (P : Prg) : Nat → Txt
  | 0 => { P.base with fnr := fun _ => none, mkr := fun _ => none, eqm := fun _ => none, bm := fun _ => none }
  | n + 1 => { P.base with fnr := fun x => (P.defs x).map (·.run (lv P n)), mkr := fun x => (P.inits x).map (·.run (lv P n)), eqm := fun x => (P.eqs x).map (·.run (lv P n)), bm := fun x => (P.bools x).map (·.run (lv P n)) }
/-- how a def lies in the written part -/
structure DefOk (K : PySem.W.Frag) (d : DefI) (f : Addr) : Prop where
  lk : ∃ (oc kV doc pm cdv ct : Value) (an od : Option Addr) (osl : Array (Option Value)), K.lookup f = some ⟨oc, od, .func (PySem.W.fnOf d.name d.qual d.params d.body d.scope .none kV doc pm an cdv ct), osl⟩ ∧ PySem.W.codeIn K cdv d.qual = true
  scope : FnScope d.N d.all d.scope
  bind : ∀ (kV doc pm cdv ct : Value) (an : Option Addr), match d.star with
    | none => ∀ us : List Value, us.length = d.ps.length → bindArgs (PySem.W.fnOf d.name d.qual d.params d.body d.scope .none kV doc pm an cdv ct) ⟨us, []⟩ = pure (d.ps.zip us)
    | some pv => ∀ us rest : List Value, us.length = d.ps.length → bindArgs (PySem.W.fnOf d.name d.qual d.params d.body d.scope .none kV doc pm an cdv ct) ⟨us ++ rest, []⟩ = (newTuple rest >>= fun t => pure (d.ps.zip us ++ [(pv, t)]))
/-- the facts of a text that hang on no level -/
structure PrgOk (P : Prg) (prog : Program) (w : World) (K : PySem.W.Frag) (mg : Str → Option Value) (base : Heap) : Prop where
  tab : TabOk P.base.tab K
  free : ∀ x, P.base.free x = true → mg x = none
  con : ∀ x d, P.base.con x = some d → ∃ u v, mg x = some u ∧ RelV v u ∧ ∀ G, Rep K G d v
  cls : ∀ c, P.base.isCls c = true → mg c = some (.ref (He.ga K c))
  err : ∀ c i, P.base.err c = some i → mg c = some (.ref (He.ga K c)) ∧ ∀ X : Cx, X.prog = prog → X.w = w → X.K = K → X.mg = mg → X.base = base → ErrOk X 4 c i
  ex0 : ∀ c, P.base.ex0 c = true → mg c = some (.ref (He.ga K c)) ∧ PySem.W.keepIn K (.ref (He.ga K c)) = true ∧ PySem.W.excIn K (He.ga K c) HandSPX.veTail "ValueError.__new__" = true
  sub : ∀ c c' b, P.base.tab.sub c c' = some b → PySem.W.subIn K (.ref (He.ga K c)) (.ref (He.ga K c')) = some b
  nm : ∀ c nm, P.base.nmf c = some nm → NmOk K c nm
  sy : ∃ o, K.lookup sysModules = some o
  defs : ∀ x d, P.defs x = some d → ∃ f, mg x = some (.ref f) ∧ PySem.W.keepIn K (.ref f) = true ∧ DefOk K d f
  inits : ∀ c d, P.inits c = some d → ∃ f, mg c = some (.ref (He.ga K c)) ∧ Mk K (He.ga K c) f ∧ DefOk K d f
  eqs : ∀ c d, P.eqs c = some d → ∃ f, PySem.W.findIn K (.ref (He.ga K c)) "__eq__" = some (some (.ref f)) ∧ PySem.W.isFn K (.ref f) = true ∧ PySem.W.findIn K (.ref (He.ga K c)) "__ne__" = some (some (.builtin "object.__ne__")) ∧ PySem.W.mroIn K (He.ga K c) (.type "object") = some true ∧ DefOk K d f
  bools : ∀ c d, P.bools c = some d → ∃ f, PySem.W.findIn K (.ref (He.ga K c)) "__bool__" = some (some (.ref f)) ∧ PySem.W.isFn K (.ref f) = true ∧ DefOk K d f
section
variable {P : Prg} {prog : Program} {w : World} {K : PySem.W.Frag} {mg : Str → Option Value} {base : Heap}
theorem errOk_mono {X : Cx} {j k : Nat} {c : Str} {i : ErrI} (h : j ≤ k) (e : ErrOk X j c i) : ErrOk X k c i := by
  obtain ⟨fI, fd, ps, j1, j2, j3, j4, j5⟩ := e.ex
  exact ⟨fI, fd, ps, j1, j2, j3, j4.mono h, j5⟩
/-- a def keeps its promise one level up -/
theorem def_ok {T : Txt} {k : Nat} {d : DefI} {f : Addr} (hF : ∀ X : Cx, X.prog = prog → X.w = w → X.K = K → X.mg = mg → X.base = base → Facts T k X) (h : DefOk K d f) : FnP prog w K mg base (k + 3) f (spV K (d.run T)) := by
  obtain ⟨oc, kV, doc, pm, cdv, ct, an, od, osl, lk, hcd⟩ := h.lk
  have hS := h.scope
  have hbind := h.bind kV doc pm cdv ct an
  have hm : ∀ (A : Around) (below : List Env) (s : Shared) (H : Hp) (E : XK), A.guards = some [] → Room (k + 2) (A.deeper (envOfC d.qual d.scope s.heap.objs.size f cdv)) →
      SSs (cxOf (L2.CX prog w) prog w K mg base d.N d.qual d.scope f cdv A below s H E) (fun C d _ H1 => E C d H1) (some d.all.length) d.body (d.m T) := fun A below s H E hg hr => by
    have R : RdyS T k d.sc (cxOf (L2.CX prog w) prog w K mg base d.N d.qual d.scope f cdv A below s H E) (fun C d _ H1 => E C d H1) :=
      ⟨⟨rfl, hS.nd, rfl, rfl, rfl, hg, hr, takes_of rfl rfl rfl rfl, hF _ rfl rfl rfl rfl rfl⟩, passes_of rfl⟩
    exact compSs_ok (compS_ok T k d.sc _ _ R d.fuel) d.body
  unfold DefI.run
  unfold DefI.all at hS hm
  cases hst : d.star with
  | none =>
    rw [hst] at hS hm hbind
    dsimp only at hS hm hbind ⊢
    exact (fnM lk hcd hS hm).toP fun s us hl => .of_eq (hbind us hl)
  | some pv =>
    rw [hst] at hS hm hbind
    dsimp only at hS hm hbind ⊢
    exact fnP_star lk hcd hS hbind hm
theorem facts_ok (O : PrgOk P prog w K mg base) : ∀ (n : Nat) (X : Cx), X.prog = prog → X.w = w → X.K = K → X.mg = mg → X.base = base → Facts (lv P n) (3 * n + 4) X
  | 0, X, e1, e2, e3, e4, e5 => by
    have er := fun c i h => (O.err c i h).2 X e1 e2 e3 e4 e5
    subst e1 e2 e3 e4 e5
    exact ⟨O.tab, O.free, O.con, O.cls, (fun x r h => nomatch h), (fun x r h => nomatch h), (fun c i h => ⟨(O.err c i h).1, er c i h⟩), O.ex0, ⟨(fun c r h => nomatch h), O.sub⟩, (fun c r h => nomatch h), (fun c r h => nomatch h), O.nm, O.sy⟩
  | n + 1, X, e1, e2, e3, e4, e5 => by
    have er := fun c i h => (O.err c i h).2 X e1 e2 e3 e4 e5
    have ih := facts_ok O n
    subst e1 e2 e3 e4 e5
    have go : ∀ {d : DefI} {f : Addr}, DefOk X.K d f → FnP X.prog X.w X.K X.mg X.base (3 * (n + 1) + 4) f (spV X.K (d.run (lv P n))) := fun {d f} h => def_ok ih h
    refine ⟨O.tab, O.free, O.con, O.cls, fun x r h => ?_, fun x r h => ?_, fun c i h => ⟨(O.err c i h).1, errOk_mono (by omega) (er c i h)⟩, O.ex0, ⟨fun c r h => ?_, O.sub⟩, fun c r h => ?_, fun c r h => ?_, O.nm, O.sy⟩
    · obtain ⟨d, h1, rfl⟩ := map_some (show (P.defs x).map _ = some r from h)
      obtain ⟨f, k1, k2, k3⟩ := O.defs x d h1
      exact ⟨f, k1, k2, go k3⟩
    · obtain ⟨d, h1, rfl⟩ := map_some (show (P.inits x).map _ = some r from h)
      obtain ⟨f, k1, k2, k3⟩ := O.inits x d h1
      exact ⟨f, k1, k2, go k3⟩
    · obtain ⟨d, h1, rfl⟩ := map_some (show (P.eqs c).map _ = some r from h)
      obtain ⟨f, k1, k2, k3, k4, k5⟩ := O.eqs c d h1
      exact ⟨f, k1, k2, go k5, k3⟩
    · obtain ⟨d, h1, rfl⟩ := map_some (show (P.eqs c).map _ = some r from h)
      obtain ⟨f, k1, k2, k3, k4, k5⟩ := O.eqs c d h1
      exact k4
    · obtain ⟨d, h1, rfl⟩ := map_some (show (P.bools c).map _ = some r from h)
      obtain ⟨f, k1, k2, k3⟩ := O.bools c d h1
      exact ⟨f, k1, k2, go k3⟩
end
end Mini
set_option maxHeartbeats 1000000
/-! Mini, part 33: the law's call at the heap behind the top. -/
namespace Mini
open PySem PySem.Spec PyProof.Rows L2
theorem caller_guards : callerA.guards = some [] := rfl
/-- the script alone is tracked, if at all -/
theorem script_map {P : Program} {w : World} {K : PySem.W.Frag} {h : Heap} {a : Addr} {vs : List Value} {ns : List Int} (KX : K.In h) (ha : h.get? a = some { cls := .type "list", data := .seq vs.toArray }) (hi : IntsAre vs ns) (hl : ns.length ≤ sizeLine) :
    ∃ H : Hp, SqL K H a (ns.map V.int) ∧ HOk P w H h ∧ ∀ b u, H b = some u → b = a ∧ u = .frz { cls := .type "list", data := .seq vs.toArray } (.lst (ns.map V.int)) ∧ K.lookup a = none := by
  have rv := vals_ints hi
  have lv := hi.length
  cases hk : K.lookup a with
  | some o =>
    have e := KX a o hk
    rw [ha] at e
    cases e
    exact ⟨fun _ => none, .inr ⟨_, vs.toArray, _, hk, rfl, rfl, rfl, by rw [List.size_toArray, lv]; exact hl, by simpa using rv⟩, (fun b u z => nomatch (show (none : Option HO) = some u from z)), (fun b u z => nomatch (show (none : Option HO) = some u from z))⟩
  | none =>
    refine ⟨upd (fun _ => none) a (.frz { cls := .type "list", data := .seq vs.toArray } (.lst (ns.map V.int))), .inl (.inr ⟨_, upd_same⟩), fun b u z => ?_, fun b u z => ?_⟩
    · by_cases hb : b = a
      · subst hb
        rw [upd_same] at z
        cases z
        exact ⟨ha, by rw [List.length_map]; exact hl, vs, _, rv, ha⟩
      · rw [upd_ne hb] at z
        cases z
    · by_cases hb : b = a
      · subst hb
        rw [upd_same] at z
        exact ⟨rfl, (Option.some.inj z).symm, rfl⟩
      · rw [upd_ne hb] at z
        cases z
theorem law_callG {P : Program} {w : World} {K : PySem.W.Frag} {mg mb : Str → Option Value} {k : Nat} {fa a : Addr} {run : Run} {s₁ : Shared} {vs : List Value} {ns : List Int}
    (KX : K.In s₁.heap) (hns : s₁.heap.Ns mainGlobals mg) (hb : s₁.heap.Ns builtinsNs mb) (hbb : ∀ x : Str, x ≠ "__name__" → mb x = bootBuiltins x) (hlim : s₁.heap.NoLimit) (hg : s₁.gens = #[])
    (ha : s₁.heap.get? a = some { cls := .type "list", data := .seq vs.toArray }) (hi : IntsAre vs ns) (hl : ns.length ≤ sizeLine) (hr : Room k callerA)
    (F : ∀ base : Heap, K.In base → base.Ns mainGlobals mg → FnP P w K mg base k fa (spV K run)) (ok : ∃ e, run [.val (.scr ns)] = .ok (.sh (.bl true)) e) :
    codeAny (model P w) callerA (.call (.ref fa) ⟨[.ref a], []⟩) (fun r s' => r = .ok (.ret (.bool true)) ∧ OldK s₁.heap s'.heap ∧ s'.os = s₁.os ∧ AllBare s'.gens) s₁ := by
  obtain ⟨H, hS, hok, only⟩ := script_map (P := P) (w := w) KX ha hi hl
  have dictFree : ∀ {b : Addr} {o : Obj} {es : Array DictEntry} {ep : Nat}, s₁.heap.get? b = some o → o.data = .dict es ep → H b = none := fun {b o es ep} e d => by
    cases q : H b with
    | none => rfl
    | some u =>
      obtain ⟨rfl, _, _⟩ := only b u q
      rw [ha] at e
      cases e
      cases d
  have nsB : ∀ {b : Addr} {m : Str → Option Value}, s₁.heap.Ns b m → (hidT s₁.heap H).Ns b m := fun {b m} ⟨o, es, ep, e, d, r⟩ => ⟨o, es, ep, hidT_get e (dictFree e d), d, r⟩
  have inB : K.In (hidT s₁.heap H) := fun b o e => hidT_get (KX b o e) (by
    cases q : H b with
    | none => rfl
    | some u =>
      obtain ⟨rfl, _, z⟩ := only b u q
      rw [z] at e
      cases e)
  obtain ⟨mc, c1, c2⟩ := hlim
  have e0 : Env0 P w K mg (hidT s₁.heap H) callerA [] s₁ H :=
    ⟨rfl, ⟨inB, nsB hns, ⟨mb, nsB hb, hbb⟩, ⟨mc, nsB c1, c2⟩⟩, fun b o e => of_hidT e, Nat.le_of_eq (hidT_size _ _), trivial, (fun b hb => absurd (show b ∈ ([] : List Addr) from hb) (by simp)), hok, .of_eq hg⟩
  obtain ⟨e, hrun⟩ := ok
  have hsp : spV K run [.ref a] H (fun v _ => v = .bl true) (fun _ _ _ => False) := by
    refine ⟨[none], [.val (.scr ns)], H, rel_vals (ds := [.scr ns]) (vs := [.ref a]) (Same.refl H) ⟨.ref a, [], rfl, ⟨a, rfl, hS⟩, rfl⟩, ?_⟩
    rw [hrun]
    exact fun G' H' v _ _ _ ro => ro
  refine codeAny_mono (F _ inB (nsB hns) callerA [] s₁ H [.ref a] [.ref a] _ _ caller_guards hr e0 (show Vals [V.ref a] [Value.ref a] from .cons rfl .nil) hsp) fun r s' q => ?_
  cases r with
  | error er =>
    obtain ⟨_, _, _, _, _, _, _, _, _, _, _, _, z⟩ := q
    exact z.elim
  | ok fl => cases fl with
    | next => exact q.elim
    | brk => exact q.elim
    | cont => exact q.elim
    | ret u =>
      obtain ⟨v, H', os, bare, un, hok', r', rfl⟩ := q
      obtain rfl : u = Value.bool true := r'
      refine ⟨rfl, OldK.of_keep fun b o e => ?_, os, bare⟩
      cases q : H b with
      | none => exact un.keep b o e q (fun z => absurd (show b ∈ ([] : List Addr) from z) (by simp)) (by simp)
      | some u =>
        obtain ⟨rfl, rfl, _⟩ := only b u q
        obtain ⟨k1, _⟩ := hok b _ q
        obtain ⟨k2, _⟩ := hok' b _ (un.frzs b _ _ q)
        rw [e] at k1
        cases k1
        exact k2
/-- the goal that the head leaves, from the law's own text -/
theorem walk_ofG {l : PySem.W.OpenLaw} {n k : Nat} {q : Program} {loose : List Str} {XP : (Str → Option Value) → Heap → Prop} {YP : World → Heap → Prop} {d : DefRec} {K : Params → PySem.W.Frag} {run : Run}
    (hn : l.most = some n) (hn2 : n ≤ sizeLine) (hdf : d.params.defaults = []) (hr : Room k callerA) (hY : ∀ (w : World) (h : Heap), YP w h → (K w.params).In h)
    (F : ∀ (w : World) (mg : Str → Option Value) (fa : Addr) (h : Heap), YP w h → (K w.params).In h → h.Ns mainGlobals mg → mg d.name = some (.ref fa) → ∀ base : Heap, (K w.params).In base → base.Ns mainGlobals mg → FnP l.prog w (K w.params) mg base k fa (spV (K w.params) run))
    (ok : ∀ ns : List Int, ns.length ≤ n → ∃ e, run [.val (.scr ns)] = .ok (.sh (.bl true)) e) : PySem.W.WalkO q loose XP YP l.row.toRowW d [] (fun f vs => PySem.call f vs) := by
  refine Att.attach_call hn hdf fun w s₀ s₁ mg mb fa o pm cd doc a vs ns G Y ho hd hcd hmg hobj hints hlen hg => ?_
  have KX := hY w _ Y
  exact law_callG KX G.T.g G.T.b G.T.builtins G.T.nolimit hg hobj hints (Nat.le_trans hlen hn2) hr (F w mg fa _ Y KX G.T.g hmg) (ok ns hlen)
end Mini
set_option maxHeartbeats 1000000
/-! Mini, part 34: the errors of a text. -/
namespace Mini
open PySem PySem.Spec PyProof.Rows L2 PySem.W
theorem FnG.imp {P : Program} {w : World} {K : Frag} {mg : Str → Option Value} {base : Heap} {k : Nat} {f : Addr} {fd : FuncData} {ps : List Str} {sp sp' : Sp} (F : FnG P w K mg base k f fd ps sp) (h : ∀ vs H Q E, sp' vs H Q E → sp vs H Q E) : FnG P w K mg base k f fd ps sp' :=
  ⟨fun vs H Q E q => F.len vs H Q E (h _ _ _ _ q), fun A below s H ar us vs Q E hg hr e0 hb rv q => F.run A below s H ar us vs Q E hg hr e0 hb rv (h _ _ _ _ q)⟩
/-- nothing is known of the text -/
def nilTab : Tab := ⟨fun _ _ => false, fun _ _ => false, fun _ => false, fun _ => false, fun _ _ => none, fun _ _ => none, fun _ _ => none⟩
def nilT : Txt := ⟨nilTab, fun _ => false, fun _ => none, fun _ => false, fun _ => none, fun _ => none, fun _ => none, fun _ => false, fun _ => none, fun _ => none, fun _ => none⟩
theorem nil_facts {k : Nat} {X : Cx} (cn : specialIn X.K (.builtin "object.__class__") "__get__" = some (some (.builtin "getset_descriptor.__get__"))) (ct : takesIn X.K (.builtin "object.__class__") = some true) (sy : ∃ o, X.K.lookup sysModules = some o) : Facts nilT k X where
  tab := ⟨(fun _ _ h => nomatch h), (fun _ _ h => nomatch h), (fun _ h => nomatch h), (fun _ h => nomatch h), (fun _ _ _ h => nomatch h), (fun _ _ _ h => nomatch h), (fun _ _ _ h => nomatch h), cn, ct⟩
  free := fun _ h => nomatch h
  con := fun _ _ h => nomatch h
  cls := fun _ h => nomatch h
  fnr := fun _ _ h => nomatch h
  mkr := fun _ _ h => nomatch h
  err := fun _ _ h => nomatch h
  ex0 := fun _ h => nomatch h
  cmp := ⟨(fun _ _ h => nomatch h), (fun _ _ _ h => nomatch h)⟩
  mro := fun _ _ h => nomatch h
  bm := fun _ _ h => nomatch h
  nm := fun _ _ h => nomatch h
  sy := sy
/-- the fields that such an __init__ stores, with the slots -/
def setsOf (N : List Str) (sc : Scope) : List Stmt → Option (List (Str × Nat))
  | [] => some []
  | .Assign [.Attribute (.Name y _) f _] (.Name x _) _ :: r => match setsOf N sc r, ixOf N x with
    | some fs, some i => if decide (N[0]? = some y) && visB sc y && visB sc x && okName y && okName x then some ((f, i) :: fs) else none
    | _, _ => none
  | _ => none
theorem setsOf_ok {N : List Str} {sc : Scope} {X : Cx} (hN : X.N = N) (hsc : X.env.scope = sc) : ∀ {ss : List Stmt} {fs : List (Str × Nat)}, setsOf N sc ss = some fs → SetsOf X ss fs
  | [], fs, h => by
    cases h
    exact .nil
  | s :: r, fs, h => by
    unfold setsOf at h
    split at h
    · rename_i h0
      cases h0
    · rename_i y p1 f p2 x p3 p4 r' heq
      cases heq
      split at h
      · rename_i gs i hg hi
        split at h
        · rename_i hc
          cases h
          simp only [Bool.and_eq_true, decide_eq_true_eq] at hc
          obtain ⟨⟨⟨⟨c1, c2⟩, c3⟩, c4⟩, c5⟩ := hc
          obtain ⟨d1, d2⟩ := okName_1 c4
          obtain ⟨d3, d4⟩ := okName_1 c5
          exact .cons (by rw [hN]; exact c1) (by rw [hN]; exact ixOf_get hi) (by rw [hsc]; exact visB_ok c2) (by rw [hsc]; exact visB_ok c3) d1 d3 d2 d4 rfl (setsOf_ok hN hsc hg)
        · cases h
      · cases h
    · cases h
/-- an error's __init__ in the text -/
structure ErrD where
  qual : Str
  params : Arguments
  scope : Scope
  N : List Str
  arg : Expr
  rest : List Stmt
  fuel : Nat
  kw : List (List Str × List Nat)
def ErrD.m (d : ErrD) : M D := (comp nilT d.fuel ⟨d.N, d.scope, fun _ => false⟩).E d.arg
def ErrD.fs (d : ErrD) : List (Str × Nat) := (setsOf d.N d.scope d.rest).getD []
def ErrD.i (d : ErrD) : ErrI := ⟨d.N.length, fun ds => if ds.length + 1 = d.N.length then errR d.m d.fs ds else none, d.kw⟩
/-- the check of the scope -/
def errScB (N : List Str) (sc : Scope) : Bool := decide (sc.kind = .function) && !sc.isCoroutine && !sc.isGenerator && decide N.Nodup && N.all (fun x => decide (sc.names.lookup x = some .local)) && sc.names.all (fun y => !decide (y.2 = .cell)) && sc.names.all (fun y => !decide (y.2 = .free) || decide (y.1 = "__class__")) &&
  decide (sc.names.lookup ("super" : Str) = some .globalImplicit) && decide (sc.names.lookup ("__class__" : Str) = some .free)
theorem errScB_ok {N : List Str} {sc : Scope} (h : errScB N sc = true) : ErrScope N sc := by
  unfold errScB at h
  simp only [Bool.and_eq_true, Bool.not_eq_true', decide_eq_true_eq, List.all_eq_true, Bool.or_eq_true, decide_eq_false_iff_not] at h
  obtain ⟨⟨⟨⟨⟨⟨⟨⟨h1, h2⟩, h3⟩, h4⟩, h5⟩, h6⟩, h7⟩, h8⟩, h9⟩ := h
  refine ⟨h1, h2, h3, h4, h5, h6, fun y hy => ?_, h8, h9⟩
  rcases h7 _ (PySem.mem_of_lookup hy) with z | z
  · exact absurd rfl z
  · exact z
theorem errOk_of {X : Cx} {c : Str} {d : ErrD} {fI : Addr} {body : List Stmt} {p0 p1 p2 p4 p5 : Pos} {ar : Arg}
    (hb0 : body = .Expr (.Call (.Attribute (.Call (.Name "super" p0) [] [] p1) "__init__" p2) [d.arg] [] p4) p5 :: d.rest) (E : ErrK X.prog X.K (He.ga X.K c) d.N d.params body d.scope d.qual fI) (hkC : (clsIn X.K (He.ga X.K c)).isSome = true)
    (hsc : errScB d.N d.scope = true) (hfs : (setsOf d.N d.scope d.rest).isSome = true) (hp : (d.params.posonlyargs ++ d.params.args).head? = some ar) (hN0 : d.N[0]? = some ar.arg) (hms : X.mg "super" = none) (no : ∀ f ∈ d.fs.map (·.1), findIn X.K (.ref (He.ga X.K c)) f = some none) (hfl : d.fs.length ≤ 800)
    (cn : specialIn X.K (.builtin "object.__class__") "__get__" = some (some (.builtin "getset_descriptor.__get__"))) (ct : takesIn X.K (.builtin "object.__class__") = some true) (sy : ∃ o, X.K.lookup sysModules = some o)
    (hns : nsE d.arg = true)
    (hca : ∀ env, ∃ pl, eval (.Call (.Attribute (.Call (.Name "super" p0) [] [] p1) "__init__" p2) [d.arg] [] p4) env = (do
      let ov ← attributeBase (.Call (.Name "super" p0) [] [] p1) "__init__" env (eval (.Call (.Name "super" p0) [] [] p1) env)
      standAt p2.atName
      let (f, first) ← holding [ov] (getMethod ov "__init__" pl)
      callWith p4 f first (backTo p4 (starEach [d.arg] env)) []))
    (hbp : ∀ (kV doc pm ct : Value) (an : Option Addr) (cda cc : Addr) (us : List Value), us.length = d.N.length → bindArgs (ksFn "__init__" d.qual d.params body d.scope .none kV doc pm an (.ref cda) ct cc) ⟨us, []⟩ = pure (d.N.zip us))
    (hbk : ∀ (kV doc pm ct : Value) (an : Option Addr) (cda cc : Addr), ∀ ks ix, (ks, ix) ∈ d.kw → ix.length + 1 = d.N.length ∧ ∀ (e : Value) (ws : List Value), ws.length = ix.length → bindArgs (ksFn "__init__" d.qual d.params body d.scope .none kV doc pm an (.ref cda) ct cc) ⟨[e], ks.zip ws⟩ = pure (d.N.zip (e :: sel ix ws))) :
    ErrOk X 4 c d.i := by
  obtain ⟨oc, kV, doc, pm, ctv, od, an, osl, cda, cc, lk, hcd, ⟨o1, o2, o3, cvs, file, tf, lc, hv, hfile⟩, ⟨q1, q2, q3, lcc⟩⟩ := E.ex
  have S := errScB_ok hsc
  obtain ⟨fs, hfs⟩ := Option.isSome_iff_exists.mp hfs
  have efs : d.fs = fs := by
    unfold ErrD.fs
    rw [hfs]
    rfl
  have F := err_init (w := X.w) (mg := X.mg) (base := X.base) (k := 3) (m := d.m) (fs := d.fs) hb0 lk hcd lc hv hfile lcc S E.oex hkC E.slf E.sup E.isB E.opq E.top hp hN0 hms no hfl
    (fun A below s H xe hg hr => (comp_ok nilT 0 d.fuel ⟨d.N, d.scope, fun _ => false⟩ (errCx X.prog X.w X.K X.mg X.base d.N d.qual d.scope fI cda cc A below s H xe) (fun _ _ _ _ => False)
      ⟨rfl, S.nd, rfl, rfl, rfl, hg, (Room.deeper hr _).mono (by omega), (fun u s' ⟨_, _, _, _, _, _, _, _, _, _, _, _, _, _, _, _, z⟩ => z.elim), nil_facts cn ct sy⟩).E d.arg)
    (fun env => nsE_ok hns [] env) hca (fun A below s H xe => by rw [efs]; exact setsOf_ok rfl rfl hfs)
  refine ⟨fI, _, d.N, E.oex, E.init, E.tyI, F.imp fun vs H Q E' h => ?_, fun s us hl => .of_eq (hbp _ _ _ _ _ _ _ us hl), fun ks ix hm => ?_, fun ds fs' h => ?_⟩
  · obtain ⟨h1, a, ws, ds, G, fs', e1, e2, e3, e4, e5, e6, e7⟩ := h
    refine ⟨h1, a, ws, ds, G, fs', e1, e2, e3, e4, e5, ?_, e7⟩
    change (if ds.length + 1 = d.N.length then errR d.m d.fs ds else none) = some fs' at e6
    split at e6
    · exact e6
    · cases e6
  · obtain ⟨k1, k2⟩ := hbk kV doc pm ctv an cda cc ks ix hm
    exact ⟨k1, fun s e ws hl => .of_eq (k2 e ws hl)⟩
  · change (if ds.length + 1 = d.N.length then errR d.m d.fs ds else none) = some fs' at h
    split at h
    · assumption
    · cases h
end Mini
set_option maxHeartbeats 2000000
/-! Mini, part 35: the head: what the written part of the heap says of a text, by one Bool check. -/
namespace Mini
open PySem PySem.Spec PyProof.Rows L2 PySem.W
/-! ### functions as they lie -/
abbrev FnB : Type := Option (Str × Str × Arguments × FuncBody × Scope × Addr × Addr)
def fnB (K : Frag) (p : Str × Option Str) : FnB := match K.lookup (He.fAd K p) with
  | some ⟨_, _, .func fd, _⟩ => some (fd.name, fd.qualname, fd.params, fd.body, fd.scope, fd.globals, fd.builtins)
  | _ => none
structure FnH where
  at_ : Str × Option Str
  name : Str
  qual : Str
  params : Arguments
  body : List Stmt
  scope : Scope
def FnH.val (d : FnH) : FnB := some (d.name, d.qual, d.params, .stmts d.body, d.scope, mainGlobals, builtinsNs)
def DefI.h (d : DefI) (p : Str × Option Str) : FnH := ⟨p, d.name, d.qual, d.params, d.body, d.scope⟩
theorem fnB_ok {K : Frag} {d : FnH} (e : fnB K d.at_ = d.val) : ∃ (oc : Value) (od : Option Addr) (osl : Array (Option Value)) (cl : List (Str × Addr)) (dV kV doc pm cdv ct : Value) (an : Option Addr), K.lookup (He.fAd K d.at_) = some ⟨oc, od, .func { name := d.name, qualname := d.qual, params := d.params, body := .stmts d.body, scope := d.scope, globals := mainGlobals, closure := cl, defaults := dV, kwdefaults := kV, doc := doc, pyModule := pm, annotations := an, code := cdv, closureTuple := ct, builtins := builtinsNs }, osl⟩ := by
  unfold fnB at e
  cases q : K.lookup (He.fAd K d.at_) with
  | none =>
    rw [q] at e
    cases e
  | some o =>
    obtain ⟨oc, od, dt, osl⟩ := o
    rw [q] at e
    cases dt with
    | func fd =>
      obtain ⟨n1, n2, n3, n4, n5, n6, n7, n8, n9, n10, n11, n12, n13, n14, n15⟩ := fd
      have e2 : (some (n1, n2, n3, n4, n5, n6, n15) : FnB) = some (d.name, d.qual, d.params, .stmts d.body, d.scope, mainGlobals, builtinsNs) := e
      simp only [Option.some.injEq, Prod.mk.injEq] at e2
      obtain ⟨h1, h2, h3, h4, h5, h6, h8⟩ := e2
      subst h1 h2 h3 h4 h5 h6 h8
      exact ⟨oc, od, osl, n7, n8, n9, n10, n11, n13, n14, n12, rfl⟩
    | _ => cases e
/-- no default, no closure, its code's record -/
def plainFnB (K : Frag) (q : Str) (p : Str × Option Str) : Bool := match K.lookup (He.fAd K p) with
  | some ⟨_, _, .func fd, _⟩ => codeIn K fd.code q && decide (fd.closure = []) && decide (fd.defaults = Value.none)
  | _ => false
/-- how a def's scope and parameters stand -/
structure DefSt (d : DefI) : Prop where
  scope : FnScope d.N d.all d.scope
  bind : ∀ (kV doc pm cdv ct : Value) (an : Option Addr), match d.star with
    | none => ∀ us : List Value, us.length = d.ps.length → bindArgs (PySem.W.fnOf d.name d.qual d.params d.body d.scope .none kV doc pm an cdv ct) ⟨us, []⟩ = pure (d.ps.zip us)
    | some pv => ∀ us rest : List Value, us.length = d.ps.length → bindArgs (PySem.W.fnOf d.name d.qual d.params d.body d.scope .none kV doc pm an cdv ct) ⟨us ++ rest, []⟩ = (newTuple rest >>= fun t => pure (d.ps.zip us ++ [(pv, t)]))
def fnScB (N P : List Str) (sc : Scope) : Bool := decide (sc.kind = .function) && !sc.isCoroutine && !sc.isGenerator && decide N.Nodup && decide (N.take P.length = P) && P.all (fun x => decide (sc.names.lookup x = some .local) || decide (sc.names.lookup x = some .cell)) && sc.names.all (fun y => !decide (y.2 = .free))
theorem fnScB_ok {N P : List Str} {sc : Scope} (h : fnScB N P sc = true) : FnScope N P sc := by
  unfold fnScB at h
  simp only [Bool.and_eq_true, Bool.not_eq_true', decide_eq_true_eq, List.all_eq_true, Bool.or_eq_true, decide_eq_false_iff_not] at h
  obtain ⟨⟨⟨⟨⟨⟨h1, h2⟩, h3⟩, h4⟩, h5⟩, h6⟩, h7⟩ := h
  exact ⟨h1, h2, h3, h4, h5, h6, h7⟩
theorem defOk_of {K : Frag} {d : DefI} {p : Str × Option Str} (e : fnB K p = (d.h p).val) (c : plainFnB K d.qual p = true) (S : DefSt d) : DefOk K d (He.fAd K p) := by
  obtain ⟨oc, od, osl, cl, dV, kV, doc, pm, cdv, ct, an, lk⟩ := fnB_ok (d := d.h p) e
  have lk2 : K.lookup (He.fAd K p) = _ := lk
  unfold plainFnB at c
  rw [lk2] at c
  obtain ⟨c1, c3⟩ := He.ba c
  obtain ⟨c1, c2⟩ := He.ba c1
  have c1 : codeIn K cdv d.qual = true := c1
  obtain rfl : cl = [] := of_decide_eq_true c2
  obtain rfl : dV = Value.none := of_decide_eq_true c3
  exact ⟨⟨oc, kV, doc, pm, cdv, ct, an, od, osl, lk2, c1⟩, S.scope, S.bind⟩
/-! ### classes -/
abbrev eqO (a b : Option (Option Value)) : Bool := decide (a = b)
def gloB (K : Frag) (x : Str) : Bool := eqO (nsIn K mainGlobals x) (some (some (.ref (He.ga K x))))
def clsB (K : Frag) (C : Addr) : Bool := plainGet K C Str.empty && hasDictIn K C && plainOver K C && eqO (findIn K (.ref C) "__setattr__") (some (some (.builtin "object.__setattr__")))
def kitPB (K : Frag) (C : Addr) : Bool := clsB K C && eqO (findIn K (.ref C) "__class__") (some (some (.builtin "object.__class__"))) && decide (mroIn K C (.type "object") = some true)
def kitEB (K : Frag) (C : Addr) : Bool := (clsIn K C).isSome && xfB K C && eqO (findIn K (.ref C) "__class__") (some (some (.builtin "object.__class__"))) && decide (mroIn K C (.type "object") = some true)
theorem clsB_ok {K : Frag} {C : Addr} (h : clsB K C = true) : Cls K C := by
  unfold clsB at h
  simp only [Bool.and_eq_true, decide_eq_true_eq] at h
  obtain ⟨⟨⟨h1, h2⟩, h3⟩, h4⟩ := h
  exact ⟨h1, h2, h3, h4⟩
theorem kitPB_ok {K : Frag} {C : Addr} (h : kitPB K C = true) : KitP K C := by
  unfold kitPB at h
  simp only [Bool.and_eq_true, decide_eq_true_eq] at h
  obtain ⟨⟨h1, h2⟩, h3⟩ := h
  exact ⟨clsB_ok h1, h2, h3⟩
theorem kitEB_ok {K : Frag} {C : Addr} (h : kitEB K C = true) : KitE K C ∧ XfC K C := by
  unfold kitEB at h
  simp only [Bool.and_eq_true, decide_eq_true_eq] at h
  obtain ⟨⟨⟨h1, h2⟩, h3⟩, h4⟩ := h
  have x := xfB_ok h2
  exact ⟨⟨h1, x.ga, ⟨_, x.gg⟩, x.exC, h3, h4⟩, x⟩
def nmB (K : Frag) (c : Str) : Bool := (match K.lookup (He.ga K c) with
  | some o => decide (o.cls = .type "type") && (match (o.slots[2]? : Option (Option Value)) with
    | some (some (.str x _)) => decide (x = c)
    | _ => false)
  | _ => false) && (match findCls K (.ref (He.ga K c)) (.type "type") "__name__" with
  | some (.get g a o m) => decide (g = .builtin "getset_descriptor.__get__") && decide (a = .builtin "type.__name__") && decide (o = .ref (He.ga K c)) && decide (m = .type "type")
  | _ => false)
theorem nmB_ok {K : Frag} {c : Str} (h : nmB K c = true) (o : nsIn K cStatics "thirdparty.any" = some none) : NmOk K c c := by
  obtain ⟨h1, h2⟩ := He.ba h
  refine ⟨?_, ?_, o⟩
  · split at h1
    · rename_i oC ho
      obtain ⟨k1, k2⟩ := He.ba h1
      split at k2
      · rename_i x tk hx
        obtain rfl : x = c := of_decide_eq_true k2
        exact ⟨oC, tk, ho, of_decide_eq_true k1, hx⟩
      · cases k2
    · cases h1
  · split at h2
    · rename_i g a ob m hg
      simp only [Bool.and_eq_true, decide_eq_true_eq] at h2
      obtain ⟨⟨⟨rfl, rfl⟩, rfl⟩, rfl⟩ := h2
      exact hg
    · cases h2
/-! ### errors -/
def oexB (K : Frag) (C : Addr) : Bool := (match K.lookup C with
  | some ⟨.type t, _, .cls cd, sl⟩ => decide (t = "type") && cd.hasDict && !cd.hasDel && (match cd.mro, sl.toList with
    | .ref C' :: bm, [_, _, _, _, some (.builtin n), _] => decide (C' = C) && decide (n = "ValueError.__new__") && PySem.HandSPX.refsVE bm
    | _, _ => false)
  | _ => false) && eqO (findIn K (.ref C) "__setattr__") (some (some (.builtin "object.__setattr__"))) && decide (subIn K (.ref C) (.type "BaseException") = some true) && decide (typeIn K (.ref C) = some (.type "type")) && keepIn K (.ref C)
theorem oexB_ok {K : Frag} {C : Addr} (h : oexB K C = true) : OexC K C := by
  unfold oexB at h
  simp only [Bool.and_eq_true, decide_eq_true_eq] at h
  obtain ⟨⟨⟨⟨h1, h2⟩, h3⟩, h4⟩, h5⟩ := h
  refine ⟨?_, h2, h3, h4, h5⟩
  split at h1
  · rename_i t dd cd sl ho
    obtain ⟨k1, k2⟩ := He.ba h1
    obtain ⟨k1, k3⟩ := He.ba k1
    obtain ⟨k0, k1⟩ := He.ba k1
    obtain rfl : t = "type" := of_decide_eq_true k0
    split at k2
    · rename_i C' bm a0 a1 a2 a3 n a5 e1 e2
      obtain ⟨m1, m3⟩ := He.ba k2
      obtain ⟨m1, m2⟩ := He.ba m1
      obtain rfl : C' = C := of_decide_eq_true m1
      obtain rfl : n = "ValueError.__new__" := of_decide_eq_true m2
      obtain ⟨nm, bs, mro, ns, q, hdct, sn, sub, ab, col, hdl⟩ := cd
      obtain rfl : mro = .ref C' :: bm := e1
      obtain rfl : hdct = true := k1
      obtain rfl : hdl = false := by cases hdl with
        | false => rfl
        | true => cases k3
      obtain ⟨sl⟩ := sl
      obtain rfl : sl = [a0, a1, a2, a3, some (.builtin "ValueError.__new__"), a5] := e2
      exact ⟨nm, q, ns, bs, bm, sn, sub, ab, col, dd, a0, a1, a2, a3, a5, ho, m3⟩
    · cases k2
  · cases h1
/-- the __init__ with its closure -/
def initB (prog : Program) (K : Frag) (q c : Str) : Bool := match K.lookup (He.fAd K (c, some "__init__")) with
  | some ⟨_, _, .func fd, _⟩ => (match fd.code, fd.closure with
    | .ref cda, [(x, cc)] => decide (x = "__class__") && codeIn K fd.code q && decide (fd.defaults = Value.none) && (match K.lookup cda with
      | some ⟨_, _, .fields vs, _⟩ => (match (vs[2]? : Option Value) with
        | some (.str file _) => (prog.main.file : Str) == file
        | _ => false)
      | _ => false) && (match K.lookup cc with
      | some ⟨_, _, .cell (some (.ref C)), _⟩ => decide (C = He.ga K c)
      | _ => false)
    | _, _ => false)
  | _ => false
def errKB (prog : Program) (K : Frag) (d : ErrD) (c : Str) : Bool := oexB K (He.ga K c) && initB prog K d.qual c && eqO (findIn K (.ref (He.ga K c)) "__init__") (some (some (.ref (He.fAd K (c, some "__init__"))))) && decide (typeIn K (.ref (He.fAd K (c, some "__init__"))) = some (.type "function")) &&
  eqO (ks_superIn K (He.ga K c) (He.ga K c) "__init__") (some (some (.builtin "ValueError.__init__"))) && decide (subIn K (.ref (He.ga K c)) (.type "ValueError") = some true) && decide (mroIn K (He.ga K c) (.ref (He.ga K c)) = some true) && (clsIn K (He.ga K c)).isSome && d.fs.all (fun f => eqO (findIn K (.ref (He.ga K c)) f.1) (some none))
theorem errKB_ok {prog : Program} {K : Frag} {d : ErrD} {c : Str} {body : List Stmt} (e : fnB K (c, some "__init__") = (FnH.mk (c, some "__init__") "__init__" d.qual d.params body d.scope).val) (h : errKB prog K d c = true)
    (opq : nsIn K cStatics "thirdparty.any" = some none) (top : (prog.main.scope.names.lookup ("super" : Str)).isSome = false) :
    ErrK prog K (He.ga K c) d.N d.params body d.scope d.qual (He.fAd K (c, some "__init__")) ∧ (clsIn K (He.ga K c)).isSome = true ∧ ∀ f ∈ d.fs.map (·.1), findIn K (.ref (He.ga K c)) f = some none := by
  unfold errKB at h
  simp only [Bool.and_eq_true, decide_eq_true_eq] at h
  obtain ⟨⟨⟨⟨⟨⟨⟨⟨h1, h2⟩, h3⟩, h4⟩, h5⟩, h6⟩, h7⟩, h8⟩, h9⟩ := h
  refine ⟨⟨oexB_ok h1, h3, h4, ?_, h5, h6, h7, opq, top⟩, h8, fun f hf => ?_⟩
  · obtain ⟨oc, od, osl, cl, dV, kV, doc, pm, cdv, ct, an, lk⟩ := fnB_ok (d := ⟨(c, some "__init__"), "__init__", d.qual, d.params, body, d.scope⟩) e
    have lk2 : K.lookup (He.fAd K (c, some "__init__")) = _ := lk
    unfold initB at h2
    rw [lk2] at h2
    dsimp only at h2
    split at h2
    · rename_i cda x cc
      obtain ⟨k1, k5⟩ := He.ba h2
      obtain ⟨k1, k4⟩ := He.ba k1
      obtain ⟨k1, k3⟩ := He.ba k1
      obtain ⟨k1, k2⟩ := He.ba k1
      obtain rfl : x = "__class__" := of_decide_eq_true k1
      obtain rfl : dV = Value.none := of_decide_eq_true k3
      refine ⟨oc, kV, doc, pm, ct, od, an, osl, cda, cc, lk2, k2, ?_, ?_⟩
      · split at k4
        · rename_i o1 o2 vs o3 hl
          split at k4
          · rename_i file tf hv
            exact ⟨o1, o2, o3, vs, file, tf, hl, hv, k4⟩
          · cases k4
        · cases k4
      · split at k5
        · rename_i o1 o2 C o3 hl
          obtain rfl : C = He.ga K c := of_decide_eq_true k5
          exact ⟨o1, o2, o3, hl⟩
        · cases k5
    · cases h2
  · obtain ⟨g, hg, rfl⟩ := List.mem_map.mp hf
    exact of_decide_eq_true (List.all_eq_true.mp h9 g hg)
end Mini
set_option maxHeartbeats 2000000
/-! Mini, part 36: the head of a text: its tables, the check, what follows. -/
namespace Mini
open PySem PySem.Spec PyProof.Rows L2 PySem.W
/-- the tables of a text, as lists -/
structure HT where
  prog : Program
  defsL : List (Str × DefI)
  initsL : List (Str × DefI)
  eqsL : List (Str × DefI)
  boolsL : List (Str × DefI)
  errsL : List (Str × ErrD × List Stmt)
  fldL : List (Str × List Str)
  exfL : List (Str × List Str)
  aboveL : List (Str × List Str)
  ex0L : List Str
  freeL : List Str
  kinds : List String
def HT.isC (t : HT) (c : Str) : Bool := (t.aboveL.lookup c).isSome
def HT.tab (t : HT) : Tab where
  fld c f := ((t.fldL.lookup c).getD []).contains f
  exf c f := ((t.exfL.lookup c).getD []).contains f
  pl c := (t.fldL.lookup c).isSome
  er c := (t.exfL.lookup c).isSome
  sub c c' := if t.isC c' then (t.aboveL.lookup c).map (·.contains c') else none
  subT c n := if (t.exfL.lookup c).isSome && (n == "ValueError") then some true else none
  subB n c := if t.kinds.contains n && t.isC c then some false else none
def HT.base (t : HT) : Txt where
  tab := t.tab
  free x := t.freeL.contains x
  con _ := none
  isCls c := t.isC c
  fnr _ := none
  mkr _ := none
  err c := (t.errsL.lookup c).map (·.1.i)
  ex0 c := t.ex0L.contains c
  eqm _ := none
  bm _ := none
  nmf c := if (t.fldL.lookup c).isSome then some c else none
def HT.P (t : HT) : Prg := ⟨t.base, fun x => t.defsL.lookup x, fun x => t.initsL.lookup x, fun x => t.eqsL.lookup x, fun x => t.boolsL.lookup x⟩
def HT.fns (t : HT) : List FnH := t.defsL.map (fun p => p.2.h (p.1, none)) ++ (t.initsL.map (fun p => p.2.h (p.1, some "__init__")) ++ (t.eqsL.map (fun p => p.2.h (p.1, some "__eq__")) ++ (t.boolsL.map (fun p => p.2.h (p.1, some "__bool__")) ++
  t.errsL.map (fun p => ⟨(p.1, some "__init__"), "__init__", p.2.1.qual, p.2.1.params, p.2.2, p.2.1.scope⟩))))
/-! ### the check -/
def methB (K : Frag) (c : Str) (m : Str) (d : DefI) : Bool := eqO (findIn K (.ref (He.ga K c)) m) (some (some (.ref (He.fAd K (c, some m))))) && isFn K (.ref (He.fAd K (c, some m))) && plainFnB K d.qual (c, some m)
def HT.chk1 (t : HT) (K : Frag) : Bool :=
  t.freeL.all (fun x => eqO (nsIn K mainGlobals x) (some none)) && t.aboveL.all (fun p => gloB K p.1) && t.ex0L.all (fun c => gloB K c && keepIn K (.ref (He.ga K c)) && excIn K (He.ga K c) HandSPX.veTail "ValueError.__new__") &&
  t.fldL.all (fun p => kitPB K (He.ga K p.1) && nmB K p.1 && p.2.all fun f => eqO (findIn K (.ref (He.ga K p.1)) f) (some none)) &&
  t.exfL.all (fun p => kitEB K (He.ga K p.1) && decide (kitOne K (.ref (He.ga K p.1)) (.type "ValueError") = some true) && p.2.all fun f => eqO (findIn K (.ref (He.ga K p.1)) f) (some none)) &&
  eqO (specialIn K (.builtin "object.__class__") "__get__") (some (some (.builtin "getset_descriptor.__get__"))) && decide (takesIn K (.builtin "object.__class__") = some true) && eqO (nsIn K cStatics "thirdparty.any") (some none) && (K.lookup sysModules).isSome
def HT.chk2 (t : HT) (K : Frag) : Bool :=
  t.aboveL.all (fun p => t.aboveL.all fun q => decide (kitOne K (.ref (He.ga K p.1)) (.ref (He.ga K q.1)) = some (p.2.contains q.1)) && decide (subIn K (.ref (He.ga K p.1)) (.ref (He.ga K q.1)) = some (p.2.contains q.1))) &&
  t.kinds.all (fun n => t.aboveL.all fun q => decide (kitOne K (.type n) (.ref (He.ga K q.1)) = some false))
def HT.chk3 (t : HT) (K : Frag) : Bool :=
  t.errsL.all (fun p => gloB K p.1 && errKB t.prog K p.2.1 p.1) &&
  t.defsL.all (fun p => gloB K p.1 && keepIn K (.ref (He.ga K p.1)) && plainFnB K p.2.qual (p.1, none)) &&
  t.initsL.all (fun p => gloB K p.1 && makesIn K (He.ga K p.1) && keepIn K (.ref (He.ga K p.1)) && methB K p.1 "__init__" p.2) &&
  t.eqsL.all (fun p => methB K p.1 "__eq__" p.2 && eqO (findIn K (.ref (He.ga K p.1)) "__ne__") (some (some (.builtin "object.__ne__"))) && decide (mroIn K (He.ga K p.1) (.type "object") = some true)) &&
  t.boolsL.all (fun p => methB K p.1 "__bool__" p.2)
def HT.chk (t : HT) (K : Frag) : Bool := t.chk1 K && t.chk2 K && t.chk3 K
/-- how an error's __init__ stands -/
structure ErrSt (d : ErrD) (body : List Stmt) : Prop where
  b : (errScB d.N d.scope && (setsOf d.N d.scope d.rest).isSome && decide (d.fs.length ≤ 800) && nsE d.arg) = true
  ar : ∃ ar, (d.params.posonlyargs ++ d.params.args).head? = some ar ∧ d.N[0]? = some ar.arg
  ex : ∃ p0 p1 p2 p4 p5, body = .Expr (.Call (.Attribute (.Call (.Name "super" p0) [] [] p1) "__init__" p2) [d.arg] [] p4) p5 :: d.rest ∧ ∀ env, ∃ pl, eval (.Call (.Attribute (.Call (.Name "super" p0) [] [] p1) "__init__" p2) [d.arg] [] p4) env = (do
      let ov ← attributeBase (.Call (.Name "super" p0) [] [] p1) "__init__" env (eval (.Call (.Name "super" p0) [] [] p1) env)
      standAt p2.atName
      let (f, first) ← holding [ov] (getMethod ov "__init__" pl)
      callWith p4 f first (backTo p4 (starEach [d.arg] env)) [])
  bp : ∀ (kV doc pm ct : Value) (an : Option Addr) (cda cc : Addr) (us : List Value), us.length = d.N.length → bindArgs (ksFn "__init__" d.qual d.params body d.scope .none kV doc pm an (.ref cda) ct cc) ⟨us, []⟩ = pure (d.N.zip us)
  bk : ∀ (kV doc pm ct : Value) (an : Option Addr) (cda cc : Addr), ∀ ks ix, (ks, ix) ∈ d.kw → ix.length + 1 = d.N.length ∧ ∀ (e : Value) (ws : List Value), ws.length = ix.length → bindArgs (ksFn "__init__" d.qual d.params body d.scope .none kV doc pm an (.ref cda) ct cc) ⟨[e], ks.zip ws⟩ = pure (d.N.zip (e :: sel ix ws))
/-- what hangs on no heap -/
structure HT.St (t : HT) : Prop where
  defs : ∀ p ∈ t.defsL, DefSt p.2
  inits : ∀ p ∈ t.initsL, DefSt p.2
  eqs : ∀ p ∈ t.eqsL, DefSt p.2
  bools : ∀ p ∈ t.boolsL, DefSt p.2
  errs : ∀ p ∈ t.errsL, ErrSt p.2.1 p.2.2
  sup : t.freeL.contains "super" = true ∧ (t.prog.main.scope.names.lookup ("super" : Str)).isSome = false
section
variable {t : HT} {K : Frag} {mg : Str → Option Value} {w : World} {h base : Heap}
theorem getD_mem {l : List (Str × List Str)} {c f : Str} (e : ((l.lookup c).getD []).contains f = true) : ∃ fs, (c, fs) ∈ l ∧ f ∈ fs := by
  cases q : l.lookup c with
  | none =>
    rw [q] at e
    cases e
  | some fs =>
    rw [q] at e
    exact ⟨fs, mem_of_lookup q, by simpa using e⟩
theorem isSome_mem {l : List (Str × List Str)} {c : Str} (e : (l.lookup c).isSome = true) : ∃ fs, (c, fs) ∈ l := by
  obtain ⟨fs, q⟩ := Option.isSome_iff_exists.mp e
  exact ⟨fs, mem_of_lookup q⟩
theorem HT.prgOk (X : K.In h) (G : h.Ns mainGlobals mg) (c : t.chk K = true) (F : ∀ d ∈ t.fns, fnB K d.at_ = d.val) (S : t.St) : PrgOk t.P t.prog w K mg base := by
  unfold HT.chk HT.chk1 HT.chk2 HT.chk3 at c
  simp only [Bool.and_eq_true, decide_eq_true_eq, List.all_eq_true] at c
  obtain ⟨⟨⟨⟨⟨⟨⟨⟨⟨⟨a1, a2⟩, a3⟩, a4⟩, a5⟩, a6⟩, a7⟩, a8⟩, a9⟩, b1, b2⟩, ⟨⟨⟨c1, c2⟩, c3⟩, c4⟩, c5⟩ := c
  have glo : ∀ {x : Str}, gloB K x = true → mg x = some (.ref (He.ga K x)) := fun {x} e => mg_of X G (of_decide_eq_true e)
  have isc : ∀ {x : Str}, t.isC x = true → ∃ l, (x, l) ∈ t.aboveL := fun {x} e => isSome_mem e
  have sy : ∃ o, K.lookup sysModules = some o := Option.isSome_iff_exists.mp a9
  have fr : ∀ x, t.freeL.contains x = true → mg x = none := fun x e => mg_none_of X G (a1 x (by simpa using e))
  have F1 : ∀ {x : Str} {d : DefI}, (x, d) ∈ t.defsL → fnB K (x, none) = (d.h (x, none)).val := fun {x d} e => F (d.h (x, none)) (List.mem_append.mpr (.inl (List.mem_map.mpr ⟨_, e, rfl⟩)))
  have F2 : ∀ {x : Str} {d : DefI}, (x, d) ∈ t.initsL → fnB K (x, some "__init__") = (d.h (x, some "__init__")).val := fun {x d} e => F (d.h (x, some "__init__")) (List.mem_append.mpr (.inr (List.mem_append.mpr (.inl (List.mem_map.mpr ⟨_, e, rfl⟩)))))
  have F3 : ∀ {x : Str} {d : DefI}, (x, d) ∈ t.eqsL → fnB K (x, some "__eq__") = (d.h (x, some "__eq__")).val := fun {x d} e => F (d.h (x, some "__eq__")) (List.mem_append.mpr (.inr (List.mem_append.mpr (.inr (List.mem_append.mpr (.inl (List.mem_map.mpr ⟨_, e, rfl⟩)))))))
  have F4 : ∀ {x : Str} {d : DefI}, (x, d) ∈ t.boolsL → fnB K (x, some "__bool__") = (d.h (x, some "__bool__")).val := fun {x d} e => F (d.h (x, some "__bool__")) (List.mem_append.mpr (.inr (List.mem_append.mpr (.inr (List.mem_append.mpr (.inr (List.mem_append.mpr (.inl (List.mem_map.mpr ⟨_, e, rfl⟩)))))))))
  have F5 : ∀ {x : Str} {d : ErrD} {b : List Stmt}, (x, d, b) ∈ t.errsL → fnB K (x, some "__init__") = (FnH.mk (x, some "__init__") "__init__" d.qual d.params b d.scope).val := fun {x d b} e => F (FnH.mk (x, some "__init__") "__init__" d.qual d.params b d.scope) (List.mem_append.mpr (.inr (List.mem_append.mpr (.inr (List.mem_append.mpr (.inr (List.mem_append.mpr (.inr (List.mem_map.mpr ⟨_, e, rfl⟩)))))))))
  have me : ∀ {x : Str} {m : Str} {d : DefI}, methB K x m d = true → findIn K (.ref (He.ga K x)) m = some (some (.ref (He.fAd K (x, some m)))) ∧ isFn K (.ref (He.fAd K (x, some m))) = true ∧ plainFnB K d.qual (x, some m) = true := fun {x m d} e => by
    unfold methB at e
    simp only [Bool.and_eq_true, decide_eq_true_eq] at e
    exact ⟨e.1.1, e.1.2, e.2⟩
  constructor
  · refine ⟨fun x f e => ?_, fun x f e => ?_, fun x e => ?_, fun x e => ?_, fun x y b e => ?_, fun x n b e => ?_, fun n y b e => ?_, a6, a7⟩
    · obtain ⟨fs, k1, k2⟩ := getD_mem e
      obtain ⟨⟨z1, z2⟩, z3⟩ := a4 _ k1
      exact ⟨(kitPB_ok z1).cl, z3 _ k2⟩
    · obtain ⟨fs, k1, k2⟩ := getD_mem e
      obtain ⟨⟨z1, z2⟩, z3⟩ := a5 _ k1
      exact ⟨(kitEB_ok z1).2, z3 _ k2⟩
    · obtain ⟨fs, k1⟩ := isSome_mem e
      exact kitPB_ok (a4 _ k1).1.1
    · obtain ⟨fs, k1⟩ := isSome_mem e
      exact (kitEB_ok (a5 _ k1).1.1).1
    · change (if t.isC y = true then (t.aboveL.lookup x).map (·.contains y) else none) = some b at e
      split at e
      · rename_i hy
        obtain ⟨l', k2⟩ := isc hy
        obtain ⟨l, q, rfl⟩ := Option.map_eq_some_iff.mp e
        exact (b1 _ (mem_of_lookup q) _ k2).1
      · cases e
    · change (if ((t.exfL.lookup x).isSome && (n == "ValueError")) = true then some true else none) = some b at e
      split at e
      · rename_i hy
        cases e
        obtain ⟨z1, z2⟩ := He.ba hy
        obtain ⟨fs, k1⟩ := isSome_mem z1
        rw [eq_of_beq z2]
        exact (a5 _ k1).1.2
      · cases e
    · change (if (t.kinds.contains n && t.isC y) = true then some false else none) = some b at e
      split at e
      · rename_i hy
        cases e
        obtain ⟨z1, z2⟩ := He.ba hy
        obtain ⟨l, k1⟩ := isc z2
        exact b2 n (by simpa using z1) _ k1
      · cases e
  · exact fr
  · exact fun x d e => nomatch e
  · intro x e
    obtain ⟨l, k⟩ := isc e
    exact glo (a2 _ k)
  · intro x i e
    obtain ⟨⟨d, b⟩, q, rfl⟩ := Option.map_eq_some_iff.mp (show (t.errsL.lookup x).map (·.1.i) = some i from e)
    have k := mem_of_lookup q
    obtain ⟨z1, z2⟩ := c1 _ k
    refine ⟨glo z1, fun Y e1 e2 e3 e4 e5 => ?_⟩
    have sup2 := S.sup.2
    rw [← e1] at z2 sup2
    subst e2 e3 e4 e5
    have T := S.errs _ k
    obtain ⟨y1, y2, y3⟩ := errKB_ok (F5 k) z2 a8 sup2
    obtain ⟨y4, y5⟩ := He.ba T.b
    obtain ⟨y4, y6⟩ := He.ba y4
    obtain ⟨y4, y7⟩ := He.ba y4
    obtain ⟨ar, y8, y9⟩ := T.ar
    obtain ⟨p0, p1, p2, p4, p5, x1, x2⟩ := T.ex
    exact errOk_of x1 y1 y2 y4 y7 y8 y9 (fr _ S.sup.1) y3 (of_decide_eq_true y6) a6 a7 sy y5 x2 T.bp T.bk
  · intro x e
    obtain ⟨⟨z1, z2⟩, z3⟩ := a3 x (by simpa using (show t.ex0L.contains x = true from e))
    exact ⟨glo z1, z2, z3⟩
  · intro x y b e
    change (if t.isC y = true then (t.aboveL.lookup x).map (·.contains y) else none) = some b at e
    split at e
    · rename_i hy
      obtain ⟨l', k2⟩ := isc hy
      obtain ⟨l, q, rfl⟩ := Option.map_eq_some_iff.mp e
      exact (b1 _ (mem_of_lookup q) _ k2).2
    · cases e
  · intro x n e
    change (if (t.fldL.lookup x).isSome = true then some x else none) = some n at e
    split at e
    · rename_i hy
      cases e
      obtain ⟨fs, k1⟩ := isSome_mem hy
      exact nmB_ok (a4 _ k1).1.2 a8
    · cases e
  · exact sy
  · intro x d e
    have k := mem_of_lookup (show t.defsL.lookup x = some d from e)
    obtain ⟨⟨z1, z2⟩, z3⟩ := c2 _ k
    exact ⟨He.ga K x, glo z1, z2, defOk_of (F1 k) z3 (S.defs _ k)⟩
  · intro x d e
    have k := mem_of_lookup (show t.initsL.lookup x = some d from e)
    obtain ⟨⟨⟨z1, z2⟩, z3⟩, z4⟩ := c3 _ k
    obtain ⟨m1, m2, m3⟩ := me z4
    exact ⟨_, glo z1, ⟨z2, m1, m2, z3⟩, defOk_of (F2 k) m3 (S.inits _ k)⟩
  · intro x d e
    have k := mem_of_lookup (show t.eqsL.lookup x = some d from e)
    obtain ⟨⟨z1, z2⟩, z3⟩ := c4 _ k
    obtain ⟨m1, m2, m3⟩ := me z1
    exact ⟨_, m1, m2, z2, z3, defOk_of (F3 k) m3 (S.eqs _ k)⟩
  · intro x d e
    have k := mem_of_lookup (show t.boolsL.lookup x = some d from e)
    obtain ⟨m1, m2, m3⟩ := me (c5 _ k)
    exact ⟨_, m1, m2, defOk_of (F4 k) m3 (S.bools _ k)⟩
end
/-! ### the hook -/
def asM (g : Addr → Option Obj) : Nat → List Addr
  | 0 => [mainGlobals, cStatics, sysModules]
  | n + 1 => He.growD g (asM g n)
abbrev AlM : Type := Bool × List FnB
def HT.obs (t : HT) (K : Frag) : AlM := (t.chk K, t.fns.map fun d => fnB K d.at_)
def HT.val (t : HT) : AlM := (true, t.fns.map FnH.val)
def HT.obsG (t : HT) (n : Nat) (g : Addr → Option Obj) : AlM := t.obs (He.frG g (asM g n))
def HT.hook (t : HT) (n : Nat) : Hook where
  α := AlM
  obs := fun s => t.obsG n s.heap.get?
  val := fun _ => t.val
  says := fun _ h => ∃ K : Frag, K.In h ∧ t.obs K = t.val
  of := fun _ _ e => ⟨_, He.frG_in, e⟩
  keeps := fun _ _ _ ⟨K, hK, c⟩ k => ⟨K, Frag.In.keeps hK k, c⟩
theorem HT.obsG_eq {t : HT} {n : Nat} {g : Addr → Option Obj} {s : Shared} (h : ∀ a, g a = s.heap.get? a) : t.obsG n g = (t.hook n).obs s := by
  have e : g = s.heap.get? := funext h
  rw [e] <;> rfl
theorem HT.of_says {t : HT} {K : Frag} (e : t.obs K = t.val) : t.chk K = true ∧ ∀ d ∈ t.fns, fnB K d.at_ = d.val := by
  refine ⟨congrArg (fun z : AlM => z.1) e, fun d hd => ?_⟩
  have e2 : t.fns.map (fun d => fnB K d.at_) = t.fns.map FnH.val := congrArg (fun z : AlM => z.2) e
  exact (List.map_inj_left.mp e2) d hd
end Mini
set_option maxHeartbeats 1000000
/-! Mini, part 38: the head's goal where the hook gives the written part. -/
namespace Mini
open PySem PySem.Spec PyProof.Rows L2
theorem walk_ofK {l : PySem.W.OpenLaw} {n k : Nat} {q : Program} {loose : List Str} {XP : (Str → Option Value) → Heap → Prop} {YP : World → Heap → Prop} {d : DefRec} {run : Run}
    (hn : l.most = some n) (hn2 : n ≤ sizeLine) (hdf : d.params.defaults = []) (hr : Room k callerA)
    (F : ∀ (w : World) (mg : Str → Option Value) (fa : Addr) (h : Heap), YP w h → h.Ns mainGlobals mg → mg d.name = some (.ref fa) → ∃ K : PySem.W.Frag, K.In h ∧ ∀ base : Heap, K.In base → base.Ns mainGlobals mg → FnP l.prog w K mg base k fa (spV K run))
    (ok : ∀ ns : List Int, ns.length ≤ n → ∃ e, run [.val (.scr ns)] = .ok (.sh (.bl true)) e) : PySem.W.WalkO q loose XP YP l.row.toRowW d [] (fun f vs => PySem.call f vs) := by
  refine Att.attach_call hn hdf fun w s₀ s₁ mg mb fa o pm cd doc a vs ns G Y ho hd hcd hmg hobj hints hlen hg => ?_
  obtain ⟨K, KX, F⟩ := F w mg fa _ Y G.T.g hmg
  exact law_callG KX G.T.g G.T.b G.T.builtins G.T.nolimit hg hobj hints (Nat.le_trans hlen hn2) hr F (ok ns hlen)
/-- a def of the text at the law's place -/
theorem HT.law_fn {t : HT} {K : PySem.W.Frag} {mg : Str → Option Value} {w : World} {h : Heap} {x : Str} {d : DefI} {fa : Addr} (n : Nat) (X : K.In h) (G : h.Ns mainGlobals mg) (e : t.obs K = t.val) (S : t.St) (hd : t.P.defs x = some d) (hfa : mg x = some (.ref fa)) :
    ∀ base : Heap, K.In base → base.Ns mainGlobals mg → FnP t.prog w K mg base (3 * n + 7) fa (spV K (d.run (lv t.P n))) := by
  intro base _ _
  obtain ⟨c, F⟩ := HT.of_says e
  have O : PrgOk t.P t.prog w K mg base := HT.prgOk X G c F S
  obtain ⟨f, k1, k2, k3⟩ := O.defs x d hd
  rw [hfa] at k1
  cases k1
  exact def_ok (fun Y e1 e2 e3 e4 e5 => facts_ok O n Y e1 e2 e3 e4 e5) k3
end Mini
set_option maxHeartbeats 0
/-! Mini, part 37: how the defs of a text stand: tactics. -/
namespace Mini
open PySem PySem.Spec PyProof.Rows L2 PySem.W
def AllL {α : Type} (p : α → Prop) : List α → Prop
  | [] => True
  | x :: r => p x ∧ AllL p r
theorem AllL.mem {α : Type} {p : α → Prop} : ∀ {l : List α}, AllL p l → ∀ x ∈ l, p x
  | _ :: _, h, x, hx => by
    rcases List.mem_cons.mp hx with rfl | hr
    · exact h.1
    · exact AllL.mem h.2 x hr
theorem len1 {α : Type} {us : List α} (h : us.length = 1) : ∃ a, us = [a] := match us, h with | [a], _ => ⟨a, rfl⟩
theorem len2 {α : Type} {us : List α} (h : us.length = 2) : ∃ a b, us = [a, b] := match us, h with | [a, b], _ => ⟨a, b, rfl⟩
theorem len3 {α : Type} {us : List α} (h : us.length = 3) : ∃ a b c, us = [a, b, c] := match us, h with | [a, b, c], _ => ⟨a, b, c, rfl⟩
theorem len4 {α : Type} {us : List α} (h : us.length = 4) : ∃ a b c d, us = [a, b, c, d] := match us, h with | [a, b, c, d], _ => ⟨a, b, c, d, rfl⟩
theorem defSt_n {d : DefI} (hs : d.star = none) (h : fnScB d.N d.all d.scope = true) (hb : ∀ (kV doc pm cdv ct : Value) (an : Option Addr) (us : List Value), us.length = d.ps.length → bindArgs (PySem.W.fnOf d.name d.qual d.params d.body d.scope .none kV doc pm an cdv ct) ⟨us, []⟩ = pure (d.ps.zip us)) : DefSt d :=
  ⟨fnScB_ok h, fun kV doc pm cdv ct an => by rw [hs]; exact hb kV doc pm cdv ct an⟩
theorem defSt_s {d : DefI} {pv : Str} (hs : d.star = some pv) (h : fnScB d.N d.all d.scope = true) (hb : ∀ (kV doc pm cdv ct : Value) (an : Option Addr) (us rest : List Value), us.length = d.ps.length → bindArgs (PySem.W.fnOf d.name d.qual d.params d.body d.scope .none kV doc pm an cdv ct) ⟨us ++ rest, []⟩ = (newTuple rest >>= fun t => pure (d.ps.zip us ++ [(pv, t)]))) : DefSt d :=
  ⟨fnScB_ok h, fun kV doc pm cdv ct an => by rw [hs]; exact hb kV doc pm cdv ct an⟩
def headArg (p : Arguments) : Arg := match p.posonlyargs ++ p.args with
  | a :: _ => a
  | [] => ⟨"", none, ⟨0, 0, 0, 0⟩⟩
structure SupPos where
  p0 : Pos
  p1 : Pos
  p2 : Pos
  p4 : Pos
  p5 : Pos
def supPos : List Stmt → SupPos
  | .Expr (.Call (.Attribute (.Call (.Name _ p0) _ _ p1) _ p2) _ _ p4) p5 :: _ => ⟨p0, p1, p2, p4, p5⟩
  | _ => ⟨⟨0, 0, 0, 0⟩, ⟨0, 0, 0, 0⟩, ⟨0, 0, 0, 0⟩, ⟨0, 0, 0, 0⟩, ⟨0, 0, 0, 0⟩⟩
theorem errSt_of {d : ErrD} {body : List Stmt} (b : (errScB d.N d.scope && (setsOf d.N d.scope d.rest).isSome && decide (d.fs.length ≤ 800) && nsE d.arg) = true)
    (a1 : (d.params.posonlyargs ++ d.params.args).head? = some (headArg d.params)) (a2 : d.N[0]? = some (headArg d.params).arg)
    (e1 : body = .Expr (.Call (.Attribute (.Call (.Name "super" (supPos body).p0) [] [] (supPos body).p1) "__init__" (supPos body).p2) [d.arg] [] (supPos body).p4) (supPos body).p5 :: d.rest)
    (e2 : ∀ env, eval (.Call (.Attribute (.Call (.Name "super" (supPos body).p0) [] [] (supPos body).p1) "__init__" (supPos body).p2) [d.arg] [] (supPos body).p4) env = (do
      let ov ← attributeBase (.Call (.Name "super" (supPos body).p0) [] [] (supPos body).p1) "__init__" env (eval (.Call (.Name "super" (supPos body).p0) [] [] (supPos body).p1) env)
      standAt (supPos body).p2.atName
      let (f, first) ← holding [ov] (getMethod ov "__init__" (do return (← importBound (.Call (.Name "super" (supPos body).p0) [] [] (supPos body).p1) env).getD true))
      callWith (supPos body).p4 f first (backTo (supPos body).p4 (starEach [d.arg] env)) []))
    (bp : ∀ (kV doc pm ct : Value) (an : Option Addr) (cda cc : Addr) (us : List Value), us.length = d.N.length → bindArgs (ksFn "__init__" d.qual d.params body d.scope .none kV doc pm an (.ref cda) ct cc) ⟨us, []⟩ = pure (d.N.zip us))
    (bk : AllL (fun p : List Str × List Nat => p.2.length + 1 = d.N.length ∧ ∀ (kV doc pm ct : Value) (an : Option Addr) (cda cc : Addr) (e : Value) (ws : List Value), ws.length = p.2.length → bindArgs (ksFn "__init__" d.qual d.params body d.scope .none kV doc pm an (.ref cda) ct cc) ⟨[e], p.1.zip ws⟩ = pure (d.N.zip (e :: sel p.2 ws))) d.kw) : ErrSt d body :=
  ⟨b, ⟨_, a1, a2⟩, ⟨_, _, _, _, _, e1, fun env => ⟨_, e2 env⟩⟩, bp, fun kV doc pm ct an cda cc ks ix hm => ⟨(AllL.mem bk _ hm).1, fun e ws hl => (AllL.mem bk _ hm).2 kV doc pm ct an cda cc e ws hl⟩⟩
end Mini
set_option maxHeartbeats 0
namespace K75
open PySem PySem.Spec PyProof.Rows L2 Mini
def top (i : Nat) : Stmt := PySem.Challenge.pw_lookingdays_k75_errors_and_papers.main.body.getD i (.Pass ⟨0, 0, 0, 0⟩)
/-- the argument of super().__init__ -/
def errArg : List Stmt → Expr
  | .Expr (.Call _ [a] _ _) _ :: _ => a
  | _ => .Constant .none 0 ⟨0, 0, 0, 0⟩
def defsL : List (PySem.Str × DefI) := [
  ("plain", ⟨"plain", "plain", defArgs (top 29), defBody (top 29), defScope (top 29), ["value"], none, ["value", "part"], [], false, 10⟩),
  ("_law_pen", ⟨"_law_pen", "_law_pen", defArgs (top 34), defBody (top 34), defScope (top 34), ["script"], none, ["script"], [], true, 9⟩),
  ("_law_draw", ⟨"_law_draw", "_law_draw", defArgs (top 35), defBody (top 35), defScope (top 35), ["pen", "many"], none, ["pen", "many", "spot", "cell", "mixed", "digit", "great"], [], false, 14⟩),
  ("_law_pick", ⟨"_law_pick", "_law_pick", defArgs (top 36), defBody (top 36), defScope (top 36), ["pen", "some"], none, ["pen", "some"], [], false, 9⟩),
  ("_law_value", ⟨"_law_value", "_law_value", defArgs (top 37), defBody (top 37), defScope (top 37), ["pen", "deep"], none, ["pen", "deep", "way", "parts", "turn"], [], false, 12⟩),
  ("_law_plain", ⟨"_law_plain", "_law_plain", defArgs (top 38), defBody (top 38), defScope (top 38), ["value"], none, ["value", "part"], [], false, 10⟩),
  ("_law_errors", ⟨"_law_errors", "_law_errors", defArgs (top 39), defBody (top 39), defScope (top 39), ["value", "more"], none, ["value", "more", "found"], [], false, 11⟩),
  ("_law_kept", ⟨"_law_kept", "_law_kept", defArgs (top 40), defBody (top 40), defScope (top 40), ["error", "word"], none, ["error", "word"], [], false, 8⟩),
  ("_law_all", ⟨"_law_all", "_law_all", defArgs (top 41), defBody (top 41), defScope (top 41), ["error"], none, ["error", "found", "is_so"], [], false, 9⟩),
  ("law", ⟨"law", "law", defArgs (top 42), defBody (top 42), defScope (top 42), ["script"], none, ["script", "pen", "turn", "value", "more", "error", "word", "paper", "denial"], ["pen"], false, 12⟩)]
def initsL : List (PySem.Str × DefI) := [
  ("Paper", ⟨"__init__", "Paper.__init__", defArgs (inClass (top 31) 0), defBody (inClass (top 31) 0), defScope (inClass (top 31) 0), ["self", "word"], some "parts", ["self", "word", "parts"], [], false, 7⟩),
  ("Denial", ⟨"__init__", "Paper.__init__", defArgs (inClass (top 31) 0), defBody (inClass (top 31) 0), defScope (inClass (top 31) 0), ["self", "word"], some "parts", ["self", "word", "parts"], [], false, 7⟩)]
def eqsL : List (PySem.Str × DefI) := [
  ("Paper", ⟨"__eq__", "Paper.__eq__", defArgs (inClass (top 31) 2), defBody (inClass (top 31) 2), defScope (inClass (top 31) 2), ["self", "other"], none, ["self", "other"], [], false, 10⟩),
  ("Denial", ⟨"__eq__", "Paper.__eq__", defArgs (inClass (top 31) 2), defBody (inClass (top 31) 2), defScope (inClass (top 31) 2), ["self", "other"], none, ["self", "other"], [], false, 10⟩)]
def boolsL : List (PySem.Str × DefI) := [
  ("Paper", ⟨"__bool__", "Paper.__bool__", defArgs (inClass (top 31) 1), defBody (inClass (top 31) 1), defScope (inClass (top 31) 1), ["self"], none, ["self"], [], false, 5⟩),
  ("Denial", ⟨"__bool__", "Denial.__bool__", defArgs (inClass (top 32) 0), defBody (inClass (top 32) 0), defScope (inClass (top 32) 0), ["self"], none, ["self"], [], false, 5⟩)]
def errsL : List (PySem.Str × ErrD × List Stmt) := [
  ("BadValue", ⟨"BadValue.__init__", defArgs (inClass (top 2) 0), defScope (inClass (top 2) 0), ["self", "part"], errArg (defBody (inClass (top 2) 0)), (defBody (inClass (top 2) 0)).tail, 12, [(["part"], [0])]⟩, defBody (inClass (top 2) 0)),
  ("BadNumber", ⟨"BadNumber.__init__", defArgs (inClass (top 3) 0), defScope (inClass (top 3) 0), ["self", "part"], errArg (defBody (inClass (top 3) 0)), (defBody (inClass (top 3) 0)).tail, 12, [(["part"], [0])]⟩, defBody (inClass (top 3) 0)),
  ("BadName", ⟨"BadName.__init__", defArgs (inClass (top 4) 0), defScope (inClass (top 4) 0), ["self", "part"], errArg (defBody (inClass (top 4) 0)), (defBody (inClass (top 4) 0)).tail, 12, [(["part"], [0])]⟩, defBody (inClass (top 4) 0)),
  ("BadNeed", ⟨"BadNeed.__init__", defArgs (inClass (top 5) 0), defScope (inClass (top 5) 0), ["self", "part"], errArg (defBody (inClass (top 5) 0)), (defBody (inClass (top 5) 0)).tail, 12, [(["part"], [0])]⟩, defBody (inClass (top 5) 0)),
  ("BadDeed", ⟨"BadDeed.__init__", defArgs (inClass (top 6) 0), defScope (inClass (top 6) 0), ["self", "part"], errArg (defBody (inClass (top 6) 0)), (defBody (inClass (top 6) 0)).tail, 12, [(["part"], [0])]⟩, defBody (inClass (top 6) 0)),
  ("BadHouse", ⟨"BadHouse.__init__", defArgs (inClass (top 7) 0), defScope (inClass (top 7) 0), ["self", "part"], errArg (defBody (inClass (top 7) 0)), (defBody (inClass (top 7) 0)).tail, 12, [(["part"], [0])]⟩, defBody (inClass (top 7) 0)),
  ("BadState", ⟨"BadState.__init__", defArgs (inClass (top 8) 0), defScope (inClass (top 8) 0), ["self", "part"], errArg (defBody (inClass (top 8) 0)), (defBody (inClass (top 8) 0)).tail, 12, [(["part"], [0])]⟩, defBody (inClass (top 8) 0)),
  ("BadWish", ⟨"BadWish.__init__", defArgs (inClass (top 9) 0), defScope (inClass (top 9) 0), ["self", "part"], errArg (defBody (inClass (top 9) 0)), (defBody (inClass (top 9) 0)).tail, 12, [(["part"], [0])]⟩, defBody (inClass (top 9) 0)),
  ("BadStand", ⟨"BadStand.__init__", defArgs (inClass (top 10) 0), defScope (inClass (top 10) 0), ["self", "part"], errArg (defBody (inClass (top 10) 0)), (defBody (inClass (top 10) 0)).tail, 12, [(["part"], [0])]⟩, defBody (inClass (top 10) 0)),
  ("BadCalendar", ⟨"BadCalendar.__init__", defArgs (inClass (top 11) 0), defScope (inClass (top 11) 0), ["self", "part"], errArg (defBody (inClass (top 11) 0)), (defBody (inClass (top 11) 0)).tail, 12, [(["part"], [0])]⟩, defBody (inClass (top 11) 0)),
  ("BadMachine", ⟨"BadMachine.__init__", defArgs (inClass (top 12) 0), defScope (inClass (top 12) 0), ["self", "part"], errArg (defBody (inClass (top 12) 0)), (defBody (inClass (top 12) 0)).tail, 12, [(["part"], [0])]⟩, defBody (inClass (top 12) 0)),
  ("BadNumbers", ⟨"BadNumbers.__init__", defArgs (inClass (top 13) 0), defScope (inClass (top 13) 0), ["self", "part"], errArg (defBody (inClass (top 13) 0)), (defBody (inClass (top 13) 0)).tail, 12, [(["part"], [0])]⟩, defBody (inClass (top 13) 0)),
  ("BadAct", ⟨"BadAct.__init__", defArgs (inClass (top 14) 0), defScope (inClass (top 14) 0), ["self", "part"], errArg (defBody (inClass (top 14) 0)), (defBody (inClass (top 14) 0)).tail, 12, [(["part"], [0])]⟩, defBody (inClass (top 14) 0)),
  ("BadText", ⟨"BadText.__init__", defArgs (inClass (top 15) 0), defScope (inClass (top 15) 0), ["self", "item"], errArg (defBody (inClass (top 15) 0)), (defBody (inClass (top 15) 0)).tail, 12, [(["item"], [0])]⟩, defBody (inClass (top 15) 0)),
  ("BadCommand", ⟨"BadCommand.__init__", defArgs (inClass (top 16) 0), defScope (inClass (top 16) 0), ["self", "word"], errArg (defBody (inClass (top 16) 0)), (defBody (inClass (top 16) 0)).tail, 12, [(["word"], [0])]⟩, defBody (inClass (top 16) 0)),
  ("NoThing", ⟨"NoThing.__init__", defArgs (inClass (top 17) 0), defScope (inClass (top 17) 0), ["self", "name"], errArg (defBody (inClass (top 17) 0)), (defBody (inClass (top 17) 0)).tail, 12, [(["name"], [0])]⟩, defBody (inClass (top 17) 0)),
  ("NoKind", ⟨"NoKind.__init__", defArgs (inClass (top 18) 0), defScope (inClass (top 18) 0), ["self", "name"], errArg (defBody (inClass (top 18) 0)), (defBody (inClass (top 18) 0)).tail, 12, [(["name"], [0])]⟩, defBody (inClass (top 18) 0)),
  ("NoDeed", ⟨"NoDeed.__init__", defArgs (inClass (top 19) 0), defScope (inClass (top 19) 0), ["self", "number"], errArg (defBody (inClass (top 19) 0)), (defBody (inClass (top 19) 0)).tail, 12, [(["number"], [0])]⟩, defBody (inClass (top 19) 0)),
  ("NotYours", ⟨"NotYours.__init__", defArgs (inClass (top 20) 0), defScope (inClass (top 20) 0), ["self", "deed"], errArg (defBody (inClass (top 20) 0)), (defBody (inClass (top 20) 0)).tail, 12, [(["deed"], [0])]⟩, defBody (inClass (top 20) 0)),
  ("NotNow", ⟨"NotNow.__init__", defArgs (inClass (top 21) 0), defScope (inClass (top 21) 0), ["self", "deed"], errArg (defBody (inClass (top 21) 0)), (defBody (inClass (top 21) 0)).tail, 12, [(["deed"], [0])]⟩, defBody (inClass (top 21) 0)),
  ("NotCarried", ⟨"NotCarried.__init__", defArgs (inClass (top 22) 0), defScope (inClass (top 22) 0), ["self", "deed"], errArg (defBody (inClass (top 22) 0)), (defBody (inClass (top 22) 0)).tail, 12, [(["deed"], [0])]⟩, defBody (inClass (top 22) 0)),
  ("NotWaiting", ⟨"NotWaiting.__init__", defArgs (inClass (top 23) 0), defScope (inClass (top 23) 0), ["self", "deed"], errArg (defBody (inClass (top 23) 0)), (defBody (inClass (top 23) 0)).tail, 12, [(["deed"], [0])]⟩, defBody (inClass (top 23) 0)),
  ("Misfit", ⟨"Misfit.__init__", defArgs (inClass (top 24) 0), defScope (inClass (top 24) 0), ["self", "part"], errArg (defBody (inClass (top 24) 0)), (defBody (inClass (top 24) 0)).tail, 12, [(["part"], [0])]⟩, defBody (inClass (top 24) 0)),
  ("TooMany", ⟨"TooMany.__init__", defArgs (inClass (top 25) 0), defScope (inClass (top 25) 0), ["self", "what", "most"], errArg (defBody (inClass (top 25) 0)), (defBody (inClass (top 25) 0)).tail, 12, [(["what", "most"], [0, 1]), (["most", "what"], [1, 0])]⟩, defBody (inClass (top 25) 0))]
def fldL : List (PySem.Str × List PySem.Str) := [("Paper", ["word", "parts"]), ("Denial", ["word", "parts"])]
def exfL : List (PySem.Str × List PySem.Str) := [("DaysError", []), ("BadValue", ["part"]), ("BadNumber", ["part"]), ("BadName", ["part"]), ("BadNeed", ["part"]), ("BadDeed", ["part"]), ("BadHouse", ["part"]), ("BadState", ["part"]), ("BadWish", ["part"]), ("BadStand", ["part"]), ("BadCalendar", ["part"]), ("BadMachine", ["part"]), ("BadNumbers", ["part"]), ("BadAct", ["part"]), ("BadText", ["item"]), ("BadCommand", ["word"]), ("NoThing", ["name"]), ("NoKind", ["name"]), ("NoDeed", ["number"]), ("NotYours", ["deed"]), ("NotNow", ["deed"]), ("NotCarried", ["deed"]), ("NotWaiting", ["deed"]), ("Misfit", ["part"]), ("TooMany", ["what", "most"]), ("NoCalendar", []), ("Ended", [])]
def aboveL : List (PySem.Str × List PySem.Str) := [("DaysError", ["DaysError"]), ("BadValue", ["BadValue", "DaysError"]), ("BadNumber", ["BadNumber", "DaysError"]), ("BadName", ["BadName", "DaysError"]), ("BadNeed", ["BadNeed", "DaysError"]), ("BadDeed", ["BadDeed", "DaysError"]), ("BadHouse", ["BadHouse", "DaysError"]), ("BadState", ["BadState", "DaysError"]), ("BadWish", ["BadWish", "DaysError"]), ("BadStand", ["BadStand", "DaysError"]), ("BadCalendar", ["BadCalendar", "DaysError"]), ("BadMachine", ["BadMachine", "DaysError"]), ("BadNumbers", ["BadNumbers", "DaysError"]), ("BadAct", ["BadAct", "DaysError"]), ("BadText", ["BadText", "DaysError"]), ("BadCommand", ["BadCommand", "DaysError"]), ("NoThing", ["NoThing", "DaysError"]), ("NoKind", ["NoKind", "DaysError"]), ("NoDeed", ["NoDeed", "DaysError"]), ("NotYours", ["NotYours", "DaysError"]), ("NotNow", ["NotNow", "DaysError"]), ("NotCarried", ["NotCarried", "DaysError"]), ("NotWaiting", ["NotWaiting", "DaysError"]), ("Misfit", ["Misfit", "DaysError"]), ("TooMany", ["TooMany", "DaysError"]), ("NoCalendar", ["NoCalendar", "DaysError"]), ("Ended", ["Ended", "DaysError"]), ("Paper", ["Paper"]), ("Denial", ["Denial", "Paper"])]
def ex0L : List PySem.Str := ["DaysError", "NoCalendar", "Ended"]
def freeL : List PySem.Str := ["ValueError", "abs", "bool", "int", "isinstance", "len", "list", "range", "repr", "str", "super", "tuple"]
def names0 : List PySem.Str := ["DaysError", "BadValue", "BadNumber", "BadName", "BadNeed", "BadDeed", "BadHouse", "BadState", "BadWish", "BadStand", "BadCalendar", "BadMachine", "BadNumbers", "BadAct", "BadText", "BadCommand", "NoThing", "NoKind", "NoDeed", "NotYours", "NotNow", "NotCarried", "NotWaiting", "Misfit"]
def names1 : List PySem.Str := ["TooMany", "NoCalendar", "Ended", "plain", "Paper", "Denial", "_law_pen", "_law_draw", "_law_pick", "_law_value", "_law_plain", "_law_errors", "_law_kept", "_law_all"]
def names : List PySem.Str := names0 ++ names1
def lawAt : Nat := 42
abbrev LW : PySem.W.OpenLaw := PySem.Challenge.rw_lookingdays_k75_errors_and_papers
def t : HT := ⟨LW.prog, defsL, initsL, eqsL, boolsL, errsL, fldL, exfL, aboveL, ex0L, freeL, ["NoneType", "bool", "int", "str", "list", "tuple", "dict"]⟩
def P : Prg := t.P
end K75
set_option maxHeartbeats 0
namespace K75
open PySem PySem.Spec PyProof.Rows L2 Mini
theorem stDefs : AllL (fun p => DefSt p.2) defsL := ⟨by
  exact defSt_n rfl (by kernel_rfl) fun kV doc pm cdv ct an us hl => by obtain ⟨a, h⟩ := len1 hl; subst h; kernel_rfl, by
  exact defSt_n rfl (by kernel_rfl) fun kV doc pm cdv ct an us hl => by obtain ⟨a, h⟩ := len1 hl; subst h; kernel_rfl, by
  exact defSt_n rfl (by kernel_rfl) fun kV doc pm cdv ct an us hl => by obtain ⟨a, b, h⟩ := len2 hl; subst h; kernel_rfl, by
  exact defSt_n rfl (by kernel_rfl) fun kV doc pm cdv ct an us hl => by obtain ⟨a, b, h⟩ := len2 hl; subst h; kernel_rfl, by
  exact defSt_n rfl (by kernel_rfl) fun kV doc pm cdv ct an us hl => by obtain ⟨a, b, h⟩ := len2 hl; subst h; kernel_rfl, by
  exact defSt_n rfl (by kernel_rfl) fun kV doc pm cdv ct an us hl => by obtain ⟨a, h⟩ := len1 hl; subst h; kernel_rfl, by
  exact defSt_n rfl (by kernel_rfl) fun kV doc pm cdv ct an us hl => by obtain ⟨a, b, h⟩ := len2 hl; subst h; kernel_rfl, by
  exact defSt_n rfl (by kernel_rfl) fun kV doc pm cdv ct an us hl => by obtain ⟨a, b, h⟩ := len2 hl; subst h; kernel_rfl, by
  exact defSt_n rfl (by kernel_rfl) fun kV doc pm cdv ct an us hl => by obtain ⟨a, h⟩ := len1 hl; subst h; kernel_rfl, by
  exact defSt_n rfl (by kernel_rfl) fun kV doc pm cdv ct an us hl => by obtain ⟨a, h⟩ := len1 hl; subst h; kernel_rfl, trivial⟩
theorem stInits : AllL (fun p => DefSt p.2) initsL := ⟨by
  exact defSt_s rfl (by kernel_rfl) fun kV doc pm cdv ct an us rest hl => by (obtain ⟨a, b, h⟩ := len2 hl; subst h; cases rest with | nil => kernel_rfl | cons c r => kernel_rfl), by
  exact defSt_s rfl (by kernel_rfl) fun kV doc pm cdv ct an us rest hl => by (obtain ⟨a, b, h⟩ := len2 hl; subst h; cases rest with | nil => kernel_rfl | cons c r => kernel_rfl), trivial⟩
theorem stEqs : AllL (fun p => DefSt p.2) eqsL := ⟨by
  exact defSt_n rfl (by kernel_rfl) fun kV doc pm cdv ct an us hl => by obtain ⟨a, b, h⟩ := len2 hl; subst h; kernel_rfl, by
  exact defSt_n rfl (by kernel_rfl) fun kV doc pm cdv ct an us hl => by obtain ⟨a, b, h⟩ := len2 hl; subst h; kernel_rfl, trivial⟩
theorem stBools : AllL (fun p => DefSt p.2) boolsL := ⟨by
  exact defSt_n rfl (by kernel_rfl) fun kV doc pm cdv ct an us hl => by obtain ⟨a, h⟩ := len1 hl; subst h; kernel_rfl, by
  exact defSt_n rfl (by kernel_rfl) fun kV doc pm cdv ct an us hl => by obtain ⟨a, h⟩ := len1 hl; subst h; kernel_rfl, trivial⟩
theorem stErrs : AllL (fun p => ErrSt p.2.1 p.2.2) errsL := ⟨by
  exact errSt_of (by kernel_rfl) (by kernel_rfl) (by kernel_rfl) (by kernel_rfl) (fun env => by kernel_rfl) (fun kV doc pm ct an cda cc us hl => by obtain ⟨a, b, h⟩ := len2 hl; subst h; kernel_rfl)
      ⟨⟨rfl, fun kV doc pm ct an cda cc e ws hl => by obtain ⟨a, h⟩ := len1 hl; subst h; kernel_rfl⟩, trivial⟩, by
  exact errSt_of (by kernel_rfl) (by kernel_rfl) (by kernel_rfl) (by kernel_rfl) (fun env => by kernel_rfl) (fun kV doc pm ct an cda cc us hl => by obtain ⟨a, b, h⟩ := len2 hl; subst h; kernel_rfl)
      ⟨⟨rfl, fun kV doc pm ct an cda cc e ws hl => by obtain ⟨a, h⟩ := len1 hl; subst h; kernel_rfl⟩, trivial⟩, by
  exact errSt_of (by kernel_rfl) (by kernel_rfl) (by kernel_rfl) (by kernel_rfl) (fun env => by kernel_rfl) (fun kV doc pm ct an cda cc us hl => by obtain ⟨a, b, h⟩ := len2 hl; subst h; kernel_rfl)
      ⟨⟨rfl, fun kV doc pm ct an cda cc e ws hl => by obtain ⟨a, h⟩ := len1 hl; subst h; kernel_rfl⟩, trivial⟩, by
  exact errSt_of (by kernel_rfl) (by kernel_rfl) (by kernel_rfl) (by kernel_rfl) (fun env => by kernel_rfl) (fun kV doc pm ct an cda cc us hl => by obtain ⟨a, b, h⟩ := len2 hl; subst h; kernel_rfl)
      ⟨⟨rfl, fun kV doc pm ct an cda cc e ws hl => by obtain ⟨a, h⟩ := len1 hl; subst h; kernel_rfl⟩, trivial⟩, by
  exact errSt_of (by kernel_rfl) (by kernel_rfl) (by kernel_rfl) (by kernel_rfl) (fun env => by kernel_rfl) (fun kV doc pm ct an cda cc us hl => by obtain ⟨a, b, h⟩ := len2 hl; subst h; kernel_rfl)
      ⟨⟨rfl, fun kV doc pm ct an cda cc e ws hl => by obtain ⟨a, h⟩ := len1 hl; subst h; kernel_rfl⟩, trivial⟩, by
  exact errSt_of (by kernel_rfl) (by kernel_rfl) (by kernel_rfl) (by kernel_rfl) (fun env => by kernel_rfl) (fun kV doc pm ct an cda cc us hl => by obtain ⟨a, b, h⟩ := len2 hl; subst h; kernel_rfl)
      ⟨⟨rfl, fun kV doc pm ct an cda cc e ws hl => by obtain ⟨a, h⟩ := len1 hl; subst h; kernel_rfl⟩, trivial⟩, by
  exact errSt_of (by kernel_rfl) (by kernel_rfl) (by kernel_rfl) (by kernel_rfl) (fun env => by kernel_rfl) (fun kV doc pm ct an cda cc us hl => by obtain ⟨a, b, h⟩ := len2 hl; subst h; kernel_rfl)
      ⟨⟨rfl, fun kV doc pm ct an cda cc e ws hl => by obtain ⟨a, h⟩ := len1 hl; subst h; kernel_rfl⟩, trivial⟩, by
  exact errSt_of (by kernel_rfl) (by kernel_rfl) (by kernel_rfl) (by kernel_rfl) (fun env => by kernel_rfl) (fun kV doc pm ct an cda cc us hl => by obtain ⟨a, b, h⟩ := len2 hl; subst h; kernel_rfl)
      ⟨⟨rfl, fun kV doc pm ct an cda cc e ws hl => by obtain ⟨a, h⟩ := len1 hl; subst h; kernel_rfl⟩, trivial⟩, by
  exact errSt_of (by kernel_rfl) (by kernel_rfl) (by kernel_rfl) (by kernel_rfl) (fun env => by kernel_rfl) (fun kV doc pm ct an cda cc us hl => by obtain ⟨a, b, h⟩ := len2 hl; subst h; kernel_rfl)
      ⟨⟨rfl, fun kV doc pm ct an cda cc e ws hl => by obtain ⟨a, h⟩ := len1 hl; subst h; kernel_rfl⟩, trivial⟩, by
  exact errSt_of (by kernel_rfl) (by kernel_rfl) (by kernel_rfl) (by kernel_rfl) (fun env => by kernel_rfl) (fun kV doc pm ct an cda cc us hl => by obtain ⟨a, b, h⟩ := len2 hl; subst h; kernel_rfl)
      ⟨⟨rfl, fun kV doc pm ct an cda cc e ws hl => by obtain ⟨a, h⟩ := len1 hl; subst h; kernel_rfl⟩, trivial⟩, by
  exact errSt_of (by kernel_rfl) (by kernel_rfl) (by kernel_rfl) (by kernel_rfl) (fun env => by kernel_rfl) (fun kV doc pm ct an cda cc us hl => by obtain ⟨a, b, h⟩ := len2 hl; subst h; kernel_rfl)
      ⟨⟨rfl, fun kV doc pm ct an cda cc e ws hl => by obtain ⟨a, h⟩ := len1 hl; subst h; kernel_rfl⟩, trivial⟩, by
  exact errSt_of (by kernel_rfl) (by kernel_rfl) (by kernel_rfl) (by kernel_rfl) (fun env => by kernel_rfl) (fun kV doc pm ct an cda cc us hl => by obtain ⟨a, b, h⟩ := len2 hl; subst h; kernel_rfl)
      ⟨⟨rfl, fun kV doc pm ct an cda cc e ws hl => by obtain ⟨a, h⟩ := len1 hl; subst h; kernel_rfl⟩, trivial⟩, by
  exact errSt_of (by kernel_rfl) (by kernel_rfl) (by kernel_rfl) (by kernel_rfl) (fun env => by kernel_rfl) (fun kV doc pm ct an cda cc us hl => by obtain ⟨a, b, h⟩ := len2 hl; subst h; kernel_rfl)
      ⟨⟨rfl, fun kV doc pm ct an cda cc e ws hl => by obtain ⟨a, h⟩ := len1 hl; subst h; kernel_rfl⟩, trivial⟩, by
  exact errSt_of (by kernel_rfl) (by kernel_rfl) (by kernel_rfl) (by kernel_rfl) (fun env => by kernel_rfl) (fun kV doc pm ct an cda cc us hl => by obtain ⟨a, b, h⟩ := len2 hl; subst h; kernel_rfl)
      ⟨⟨rfl, fun kV doc pm ct an cda cc e ws hl => by obtain ⟨a, h⟩ := len1 hl; subst h; kernel_rfl⟩, trivial⟩, by
  exact errSt_of (by kernel_rfl) (by kernel_rfl) (by kernel_rfl) (by kernel_rfl) (fun env => by kernel_rfl) (fun kV doc pm ct an cda cc us hl => by obtain ⟨a, b, h⟩ := len2 hl; subst h; kernel_rfl)
      ⟨⟨rfl, fun kV doc pm ct an cda cc e ws hl => by obtain ⟨a, h⟩ := len1 hl; subst h; kernel_rfl⟩, trivial⟩, by
  exact errSt_of (by kernel_rfl) (by kernel_rfl) (by kernel_rfl) (by kernel_rfl) (fun env => by kernel_rfl) (fun kV doc pm ct an cda cc us hl => by obtain ⟨a, b, h⟩ := len2 hl; subst h; kernel_rfl)
      ⟨⟨rfl, fun kV doc pm ct an cda cc e ws hl => by obtain ⟨a, h⟩ := len1 hl; subst h; kernel_rfl⟩, trivial⟩, by
  exact errSt_of (by kernel_rfl) (by kernel_rfl) (by kernel_rfl) (by kernel_rfl) (fun env => by kernel_rfl) (fun kV doc pm ct an cda cc us hl => by obtain ⟨a, b, h⟩ := len2 hl; subst h; kernel_rfl)
      ⟨⟨rfl, fun kV doc pm ct an cda cc e ws hl => by obtain ⟨a, h⟩ := len1 hl; subst h; kernel_rfl⟩, trivial⟩, by
  exact errSt_of (by kernel_rfl) (by kernel_rfl) (by kernel_rfl) (by kernel_rfl) (fun env => by kernel_rfl) (fun kV doc pm ct an cda cc us hl => by obtain ⟨a, b, h⟩ := len2 hl; subst h; kernel_rfl)
      ⟨⟨rfl, fun kV doc pm ct an cda cc e ws hl => by obtain ⟨a, h⟩ := len1 hl; subst h; kernel_rfl⟩, trivial⟩, by
  exact errSt_of (by kernel_rfl) (by kernel_rfl) (by kernel_rfl) (by kernel_rfl) (fun env => by kernel_rfl) (fun kV doc pm ct an cda cc us hl => by obtain ⟨a, b, h⟩ := len2 hl; subst h; kernel_rfl)
      ⟨⟨rfl, fun kV doc pm ct an cda cc e ws hl => by obtain ⟨a, h⟩ := len1 hl; subst h; kernel_rfl⟩, trivial⟩, by
  exact errSt_of (by kernel_rfl) (by kernel_rfl) (by kernel_rfl) (by kernel_rfl) (fun env => by kernel_rfl) (fun kV doc pm ct an cda cc us hl => by obtain ⟨a, b, h⟩ := len2 hl; subst h; kernel_rfl)
      ⟨⟨rfl, fun kV doc pm ct an cda cc e ws hl => by obtain ⟨a, h⟩ := len1 hl; subst h; kernel_rfl⟩, trivial⟩, by
  exact errSt_of (by kernel_rfl) (by kernel_rfl) (by kernel_rfl) (by kernel_rfl) (fun env => by kernel_rfl) (fun kV doc pm ct an cda cc us hl => by obtain ⟨a, b, h⟩ := len2 hl; subst h; kernel_rfl)
      ⟨⟨rfl, fun kV doc pm ct an cda cc e ws hl => by obtain ⟨a, h⟩ := len1 hl; subst h; kernel_rfl⟩, trivial⟩, by
  exact errSt_of (by kernel_rfl) (by kernel_rfl) (by kernel_rfl) (by kernel_rfl) (fun env => by kernel_rfl) (fun kV doc pm ct an cda cc us hl => by obtain ⟨a, b, h⟩ := len2 hl; subst h; kernel_rfl)
      ⟨⟨rfl, fun kV doc pm ct an cda cc e ws hl => by obtain ⟨a, h⟩ := len1 hl; subst h; kernel_rfl⟩, trivial⟩, by
  exact errSt_of (by kernel_rfl) (by kernel_rfl) (by kernel_rfl) (by kernel_rfl) (fun env => by kernel_rfl) (fun kV doc pm ct an cda cc us hl => by obtain ⟨a, b, h⟩ := len2 hl; subst h; kernel_rfl)
      ⟨⟨rfl, fun kV doc pm ct an cda cc e ws hl => by obtain ⟨a, h⟩ := len1 hl; subst h; kernel_rfl⟩, trivial⟩, by
  exact errSt_of (by kernel_rfl) (by kernel_rfl) (by kernel_rfl) (by kernel_rfl) (fun env => by kernel_rfl) (fun kV doc pm ct an cda cc us hl => by obtain ⟨a, b, c, h⟩ := len3 hl; subst h; kernel_rfl)
      ⟨⟨rfl, fun kV doc pm ct an cda cc e ws hl => by obtain ⟨a, b, h⟩ := len2 hl; subst h; kernel_rfl⟩, ⟨rfl, fun kV doc pm ct an cda cc e ws hl => by obtain ⟨a, b, h⟩ := len2 hl; subst h; kernel_rfl⟩, trivial⟩, trivial⟩
theorem st : t.St := ⟨stDefs.mem, stInits.mem, stEqs.mem, stBools.mem, stErrs.mem, rfl, by kernel_rfl⟩
end K75
set_option maxHeartbeats 1000000
/-! Mini, part 40: the rule of each combinator at a frame (printed by gen_ap.py). -/
namespace Mini
open PySem PySem.Spec PyProof.Rows L2
theorem bind_cg {α β : Type} {r r' : R α} {f : α → En → R β} (h : r = r') : r.bind f = r'.bind f := by rw [h]
@[simp] theorem ret_ap {α : Type} (a : α) (e : En) : ret a e = (.ok a e) := rfl
@[simp] theorem mbind_ap {α β : Type} (m : M α) (f : α → M β) (e : En) : mbind m f e = ((m e).bind f) := rfl
@[simp] theorem getv_ap (i : Nat) (e : En) : getv i e = (match e[i]? with
  | some (.val d) => .ok d e
  | _ => .stuck) := rfl
@[simp] theorem bin2_ap (g : D → D → M D) (ma mb : M D) (e : En) : bin2 g ma mb e = ((ma e).bind fun a e1 => (mb e1).bind fun b e2 => g a b e2) := rfl
@[simp] theorem asB_ap (m : M D) (e : En) : asB m e = ((m e).bind fun d e1 => match d with
  | .bl b => .ok b e1
  | _ => .stuck) := rfl
@[simp] theorem asT_ap (m : M D) (e : En) : asT m e = ((m e).bind fun d e1 => match truD d with
  | some b => .ok b e1
  | none => .stuck) := rfl
@[simp] theorem notM_ap (m : M Bool) (e : En) : notM m e = ((m e).bind fun b e1 => .ok (!b) e1) := rfl
@[simp] theorem andM_ap (m n : M Bool) (e : En) : andM m n e = ((m e).bind fun b e1 => if b then n e1 else .ok false e1) := rfl
@[simp] theorem orB_ap (m n : M Bool) (e : En) : orB m n e = ((m e).bind fun b e1 => if b then .ok true e1 else n e1) := rfl
@[simp] theorem andV_ap (m n : M D) (e : En) : andV m n e = ((m e).bind fun d e1 => match d with
  | .bl true => n e1
  | .bl false => .ok (.bl false) e1
  | _ => .stuck) := rfl
@[simp] theorem orV_ap (m n : M D) (e : En) : orV m n e = ((m e).bind fun d e1 => match d with
  | .bl true => .ok (.bl true) e1
  | .bl false => n e1
  | _ => .stuck) := rfl
@[simp] theorem notV_ap (m : M D) (e : En) : notV m e = ((m e).bind fun d e1 => match d with
  | .bl b => .ok (.bl (!b)) e1
  | _ => .stuck) := rfl
@[simp] theorem ifM_ap {α : Type} (t : M Bool) (m n : M α) (e : En) : ifM t m n e = ((t e).bind fun b e1 => if b then m e1 else n e1) := rfl
@[simp] theorem consM_ap (m : M D) (ms : M (List D)) (e : En) : consM m ms e = ((m e).bind fun d e1 => (ms e1).bind fun ds e2 => .ok (d :: ds) e2) := rfl
@[simp] theorem lstM_ap (ms : M (List D)) (e : En) : lstM ms e = ((ms e).bind fun ds e1 => if ds.length ≤ LIM then .ok (.lst ds) e1 else .stuck) := rfl
@[simp] theorem tupM_ap (ms : M (List D)) (e : En) : tupM ms e = ((ms e).bind fun ds e1 => if ds.length ≤ LIM then .ok (.tup ds) e1 else .stuck) := rfl
@[simp] theorem atM_ap (T : Tab) (f : Str) (m : M D) (e : En) : atM T f m e = ((m e).bind fun d e1 => match atD T f d with
  | some v => .ok v e1
  | none => .stuck) := rfl
@[simp] theorem partM_ap (m : M D) (e : En) : partM m e = ((m e).bind fun d e1 => match d with
  | .int i => .ok (some i) e1
  | _ => .stuck) := rfl
@[simp] theorem slM_ap (m : M D) (ml mh : M (Option Int)) (e : En) : slM m ml mh e = ((m e).bind fun d e1 => (ml e1).bind fun lo e2 => (mh e2).bind fun hi e3 => match slD d lo hi with
  | some c => .ok c e3
  | none => .stuck) := rfl
@[simp] theorem ownIx_ap (i : Nat) (mb : M D) (e : En) : ownIx i mb e = ((mb e).bind fun b e1 => match e1[i]? with
  | some (.own (.lst ds)) => (match b with
    | .int j => (match atI ds j with
      | some d => .ok d e1
      | none => .stuck)
    | _ => .stuck)
  | _ => .stuck) := rfl
@[simp] theorem ixOwnM_ap (i : Nat) (mb : M D) (e : En) : ixOwnM i mb e = (match e[i]? with
  | some (.own _) => ownIx i mb e
  | _ => .stuck) := rfl
@[simp] theorem seqM_ap (m n : MS) (e : En) : seqM m n e = ((m e).bind fun f e1 => match f with
  | .nx => n e1
  | f => .ok f e1) := rfl
@[simp] theorem retM_ap (m : M D) (e : En) : retM m e = ((m e).bind fun d e1 => .ok (.rt d) e1) := rfl
@[simp] theorem dropM_ap (m : M D) (e : En) : dropM m e = ((m e).bind fun _ e1 => .ok .nx e1) := rfl
@[simp] theorem setM_ap (np : Option Nat) (i : Nat) (m : M D) (e : En) : setM np i m e = ((m e).bind fun d e1 => if free np i e1 then .ok .nx (e1.set i (.val d)) else .stuck) := rfl
@[simp] theorem sub2M_ap (i : Nat) (me mi : M D) (e : En) : sub2M i me mi e = ((me e).bind fun d e1 => match e1[i]? with
  | some (.own _) => (mi e1).bind fun b e2 => (match e2[i]?, b with
    | some (.own (.lst ds)), .int j => (match ixN ds.length j with
      | some n => .ok .nx (e2.set i (.own (.lst (ds.set n d))))
      | none => .stuck)
    | _, _ => .stuck)
  | _ => .stuck) := rfl
@[simp] theorem parM_ap (np : Option Nat) (i j : Nat) (ma mb : M D) (e : En) : parM np i j ma mb e = ((ma e).bind fun a e1 => (mb e1).bind fun b e2 => if free np i e2 && free np j (e2.set i (.val a)) then .ok .nx ((e2.set i (.val a)).set j (.val b)) else .stuck) := rfl
@[simp] theorem itemsM_ap (m : M D) (e : En) : itemsM m e = ((m e).bind fun d e1 => match itemsD d with
  | some ds => .ok ds e1
  | none => .stuck) := rfl
@[simp] theorem range1M_ap (ms : M (List D)) (e : En) : range1M ms e = ((ms e).bind fun ds e1 => match ds with
  | [.int j] => if tiny j then .ok (ups 0 j.toNat) e1 else .stuck
  | _ => .stuck) := rfl
@[simp] theorem range2M_ap (ms : M (List D)) (e : En) : range2M ms e = ((ms e).bind fun ds e1 => match ds with
  | [.int i, .int j] => if tiny i && tiny j then .ok (ups i (j - i).toNat) e1 else .stuck
  | _ => .stuck) := rfl
@[simp] theorem forM_ap (mi : M (List D)) (put : D → En → Option En) (body : MS) (e : En) : forM mi put body e = ((mi e).bind fun ds e1 => loopM put body ds e1) := rfl
@[simp] theorem lcM_ap (vs : List Nat) (mi : M (List D)) (put : D → En → Option En) (mt : M Bool) (me : M D) (e : En) : lcM vs mi put mt me e = ((mi e).bind fun ds e1 => if noOwn vs e1 then lcEnd e1 vs (lcLoop vs put mt me ds [] e1) else .stuck) := rfl
@[simp] theorem callM_ap (run : Run) (ma : M (List Ag)) (e : En) : callM run ma e = ((ma e).bind fun ags e1 => match enter e1 ags with
  | some args => if (lents ags).Nodup then (match run args with
    | .ok r e' => .ok r (leave e1 e' ags 0)
    | .err x e' => .err x (leave e1 e' ags 0)
    | .stuck => .stuck) else .stuck
  | none => .stuck) := rfl
@[simp] theorem vlM_ap (m : M D) (e : En) : vlM m e = ((m e).bind fun d e1 => .ok (.vl d) e1) := rfl
@[simp] theorem lnM_ap (i : Nat) (e : En) : lnM i e = (match e[i]? with
  | some (.val d) => .ok (.vl d) e
  | some (.own _) => .ok (.ln i) e
  | _ => .stuck) := rfl
@[simp] theorem consA_ap (m : M Ag) (ms : M (List Ag)) (e : En) : consA m ms e = ((m e).bind fun d e1 => (ms e1).bind fun ds e2 => .ok (d :: ds) e2) := rfl
@[simp] theorem shM_ap (m : M D) (e : En) : shM m e = ((m e).bind fun d e1 => .ok (.sh d) e1) := rfl
@[simp] theorem unM_ap (m : M Rv) (e : En) : unM m e = ((m e).bind fun r e1 => match r with
  | .sh d => .ok d e1
  | .ow d => .ok d e1) := rfl
@[simp] theorem lstO_ap (ms : M (List D)) (e : En) : lstO ms e = ((ms e).bind fun ds e1 => if ds.length ≤ LIM then .ok (.ow (.lst ds)) e1 else .stuck) := rfl
@[simp] theorem setO_ap (np : Option Nat) (i : Nat) (m : M Rv) (e : En) : setO np i m e = ((m e).bind fun r e1 => if free np i e1 then (match r with
  | .sh d => .ok .nx (e1.set i (.val d))
  | .ow d => .ok .nx (e1.set i (.own d))) else .stuck) := rfl
@[simp] theorem retO_ap (m : M Rv) (e : En) : retO m e = ((m e).bind fun r e1 => match r with
  | .sh d => .ok (.rt d) e1
  | .ow d => .ok (.ro d) e1) := rfl
@[simp] theorem bltM_ap (g : List D → M D) (ms : M (List D)) (e : En) : bltM g ms e = ((ms e).bind g) := rfl
@[simp] theorem fmtM_ap (m : M D) (e : En) : fmtM m e = ((m e).bind fun d e1 => match fmtD d with
  | some t => .ok (.str t) e1
  | none => .stuck) := rfl
@[simp] theorem fstrM_ap (n : Str → M Str) (e : En) : fstrM n e = ((n Str.empty e).bind fun y e1 => .ok (.str y) e1) := rfl
@[simp] theorem errM_ap (c : Str) (eR : List D → Option (List (Str × D))) (g : List D → List D) (ms : M (List D)) (e : En) : errM c eR g ms e = ((ms e).bind fun ds e1 => if ds.length ≤ 1000 then (match eR (g ds) with
  | some fs => .ok (.exc c fs) e1
  | none => .stuck) else .stuck) := rfl
@[simp] theorem mkM_ap (c : Str) (run : Run) (ma : M (List Ag)) (e : En) : mkM c run ma e = ((ma e).bind fun ags e1 => match enter e1 ags with
  | some args => if (lents ags).Nodup then (match run (.own (.ins c []) :: args) with
    | .ok (.sh .non) e' => (match (e'[0]? : Option Sl) with
      | some (Sl.own d) => .ok (.ow d) (leave e1 e'.tail ags 0)
      | _ => .stuck)
    | .ok _ _ => .stuck
    | .err x e' => .err x (leave e1 e'.tail ags 0)
    | .stuck => .stuck) else .stuck
  | none => .stuck) := rfl
@[simp] theorem fldM_ap (T : Tab) (f : Str) (i : Nat) (m : M D) (e : En) : fldM T f i m e = ((m e).bind fun d e1 => match e1[i]? with
  | some (.own (.ins c fs)) => if T.fld c f = true ∧ fs.length < 1000 then .ok .nx (e1.set i (.own (.ins c (putD f d fs)))) else .stuck
  | _ => .stuck) := rfl
@[simp] theorem onB_ap (run : Run) (neg : Bool) (ds : List D) (e : En) : onB run neg ds e = (match run (ds.map .val) with
  | .ok (.sh (.bl b)) _ => .ok (.bl (if neg then !b else b)) e
  | _ => .stuck) := rfl
@[simp] theorem onD_ap (run : Run) (ds : List D) (e : En) : onD run ds e = (match run (ds.map .val) with
  | .ok (.sh d) _ => .ok d e
  | _ => .stuck) := rfl
@[simp] theorem clsM_ap (T : Tab) (m : M D) (e : En) : clsM T m e = ((m e).bind fun d e1 => match d with
  | .ins c _ => if T.pl c = true then .ok (.cls c) e1 else .stuck
  | _ => .stuck) := rfl
@[simp] theorem nmM_ap (nmf : Str → Option Str) (m : M D) (e : En) : nmM nmf m e = ((m e).bind fun d e1 => match d with
  | .cls c => (match nmf c with
    | some nm => .ok (.str nm) e1
    | none => .stuck)
  | _ => .stuck) := rfl
@[simp] theorem consP_ap (mk mv : M D) (r : M (List (D × D))) (e : En) : consP mk mv r e = ((mk e).bind fun k e1 => (mv e1).bind fun v e2 => (r e2).bind fun ps e3 => .ok ((k, v) :: ps) e3) := rfl
@[simp] theorem disM_ap (ms : M (List (D × D))) (e : En) : disM ms e = (match ms e with
  | .ok ds e1 => (match keysD ds with
    | some [(k, d)] => .ok (.dct [(k, d)]) e1
    | _ => .stuck)
  | _ => .stuck) := rfl
@[simp] theorem orX_ap (m1 m2 : M D) (e : En) : orX m1 m2 e = (match m1 e with
  | .stuck => m2 e
  | r => r) := rfl
@[simp] theorem asTG_ap (g : D → M Bool) (m : M D) (e : En) : asTG g m e = ((m e).bind g) := rfl
@[simp] theorem p2_ap (f : D → D → Option D) (a : D) (b : D) (e : En) : p2 f a b e = (match f a b with
  | some d => .ok d e
  | none => .stuck) := rfl
@[simp] theorem orM_ap (g1 g2 : D → D → M D) (a : D) (b : D) (e : En) : orM g1 g2 a b e = (match g1 a b e with
  | .stuck => g2 a b e
  | r => r) := rfl
@[simp] theorem pB_ap (f : List D → Option D) (ds : List D) (e : En) : pB f ds e = (match f ds with
  | some d => .ok d e
  | none => .stuck) := rfl
@[simp] theorem lenRun_ap (n : Nat) (run : Run) (args : List Sl) : lenRun n run args = (if args.length = n then run args else .stuck) := rfl
@[simp] theorem starRun_ap (n : Nat) (run : Run) (args : List Sl) : starRun n run args = (if n ≤ args.length ∧ args.length ≤ LIM then (match vals (args.drop n) with
  | some ds => run (args.take n ++ [.val (.tup ds)])
  | none => .stuck) else .stuck) := rfl
@[simp] theorem bodyRun_ap (n : Nat) (m : MS) (args : List Sl) : bodyRun n m args = (match m (pad n args) with
  | .ok .nx e => .ok (.sh .non) e
  | .ok (.rt d) e => .ok (.sh d) e
  | .ok (.ro d) e => .ok (.ow d) e
  | .ok .bk _ => .stuck
  | .ok .ct _ => .stuck
  | .err x e => .err x e
  | .stuck => .stuck) := rfl
@[simp] theorem joinM_ap (m : M D) (n : Str → M Str) (acc : PySem.Str) (e : En) : joinM m n acc e = ((m e).bind fun d e1 => match d with
  | .str y => if acc.length + y.length ≤ LIM then n (acc ++ y) e1 else .stuck
  | _ => .stuck) := rfl
@[simp] theorem gTru_ap (bm : PySem.Str → Option Run) (d : D) (e : En) : gTru bm d e = (match d with
  | .ins c _ => (match bm c with
    | some r => (match r [.val d] with
      | .ok (.sh (.bl b)) _ => .ok b e
      | _ => .stuck)
    | none => .stuck)
  | d => (match truD d with
    | some b => .ok b e
    | none => .stuck)) := by
  cases d with
  | ins c f => unfold gTru; dsimp only; cases bm c <;> rfl
  | _ => rfl
@[simp] theorem gOwnEq_ap (T : Tab) (eqm : PySem.Str → Option Run) (d e : D) (env : En) : gOwnEq T eqm d e env = (match lefR T eqm d e with
  | some r => onB r false [d, e] env
  | none => (match rigR T eqm d e with
    | some r => onB r false [e, d] env
    | none => .stuck)) := by
  unfold gOwnEq
  cases lefR T eqm d e with
  | some r => rfl
  | none => dsimp only; cases rigR T eqm d e <;> rfl
@[simp] theorem gOwnNe_ap (T : Tab) (eqm : PySem.Str → Option Run) (d e : D) (env : En) : gOwnNe T eqm d e env = (match lefR T eqm d e with
  | some r => onB r true [d, e] env
  | none => .stuck) := by
  unfold gOwnNe
  cases lefR T eqm d e <;> rfl
@[simp] theorem i2_ap (c : Int → Int → Bool) (g : Int → Int → D) (i j : Int) : i2 c g (.int i) (.int j) = (if c i j then some (g i j) else none) := rfl
@[simp] theorem gBin_ap_add : gBin .Add = gAdd := rfl
@[simp] theorem gBin_ap_sub : gBin .Sub = oSub := rfl
@[simp] theorem gBin_ap_mul : gBin .Mult = gMul := rfl
@[simp] theorem gBin_ap_fd : gBin .FloorDiv = gFdiv := rfl
@[simp] theorem gBin_ap_mod : gBin .Mod = gMod := rfl
@[simp] theorem gBin_ap_pow : gBin .Pow = gPow := rfl
end Mini
set_option maxHeartbeats 1000000
/-! Mini, part 41: the draws of a law, for all its constants. -/
namespace Mini
open PySem PySem.Spec PyProof.Rows L2
def mDraw (T : Tab) (q : PySem.Str → Option Run) (c1 c2 c3 c4 : Int) : MS :=
  seqM
    (ifM (asB (bin2 gGt (orX (bin2 (p2 ixD) (getv 0) (ret (D.int 2))) (ixOwnM 0 (ret (D.int 2)))) (ret (D.int 0))))
      (seqM
        (setM (some 2) 5
          (bin2 (gBin Operator.Mod)
            (unM
              (shM
                (bltM (pB intF)
                  (consM (orX (bin2 (p2 ixD) (getv 0) (ret (D.int 2))) (ixOwnM 0 (ret (D.int 2)))) (ret [])))))
            (getv 1)))
        (seqM
          (sub2M 0
            (bin2 (gBin Operator.FloorDiv)
              (unM
                (shM
                  (bltM (pB intF)
                    (consM (orX (bin2 (p2 ixD) (getv 0) (ret (D.int 2))) (ixOwnM 0 (ret (D.int 2)))) (ret [])))))
              (getv 1))
            (ret (D.int 2)))
          (seqM (retM (getv 5)) fun e => R.ok Fl.nx e)))
      fun e => R.ok Fl.nx e)
    (seqM (setM (some 2) 2 (orX (bin2 (p2 ixD) (getv 0) (ret (D.int 1))) (ixOwnM 0 (ret (D.int 1)))))
      (seqM (sub2M 0 (bin2 (gBin Operator.Add) (getv 2) (ret (D.int 1))) (ret (D.int 1)))
        (seqM
          (setM (some 2) 3
            (bin2 (gBin Operator.Add) (bin2 (gBin Operator.Mult) (ret (D.int c1)) (getv 2))
              (ret (D.int c2))))
          (seqM
            (ifM
              (asB
                (bin2 (Mini.orM gNe (gOwnNe T q))
                  (orX (bin2 (p2 ixD) (getv 0) (ret (D.int 0))) (ixOwnM 0 (ret (D.int 0)))) (lstM (ret []))))
              (seqM
                (setM (some 2) 3
                  (bin2 (p2 ixD) (orX (bin2 (p2 ixD) (getv 0) (ret (D.int 0))) (ixOwnM 0 (ret (D.int 0))))
                    (bin2 (gBin Operator.Mod) (unM (shM (bltM (pB intF) (consM (getv 2) (ret [])))))
                      (unM
                        (shM
                          (bltM (pB lenF)
                            (consM (orX (bin2 (p2 ixD) (getv 0) (ret (D.int 0))) (ixOwnM 0 (ret (D.int 0))))
                              (ret []))))))))
                fun e => R.ok Fl.nx e)
              fun e => R.ok Fl.nx e)
            (seqM
              (ifM
                (Mini.andM
                  (asB
                    (bin2 gLt (getv 2)
                      (unM
                        (shM
                          (bltM (pB lenF)
                            (consM (orX (bin2 (p2 ixD) (getv 0) (ret (D.int 0))) (ixOwnM 0 (ret (D.int 0))))
                              (ret [])))))))
                  (asB
                    (bin2 gGe (unM (shM (bltM (pB absF) (consM (getv 3) (ret [])))))
                      (bin2 (gBin Operator.Pow) (ret (D.int 10)) (ret (D.int 18))))))
                (seqM
                  (setM (some 2) 6
                    (bin2 (gBin Operator.Add)
                      (bin2 (gBin Operator.Mult) (ret (D.int 2))
                        (bin2 (gBin Operator.Sub) (unM (shM (bltM (pB absF) (consM (getv 3) (ret [])))))
                          (bin2 (gBin Operator.Pow) (ret (D.int 10)) (ret (D.int 18)))))
                      (unM (shM (bltM (pB intF) (consM (bin2 gLt (getv 3) (ret (D.int 0))) (ret [])))))))
                  (seqM
                    (sub2M 0
                      (bin2 (gBin Operator.FloorDiv) (unM (shM (bltM (pB intF) (consM (getv 6) (ret [])))))
                        (getv 1))
                      (ret (D.int 2)))
                    (seqM
                      (retM
                        (bin2 (gBin Operator.Mod) (unM (shM (bltM (pB intF) (consM (getv 6) (ret [])))))
                          (getv 1)))
                      fun e => R.ok Fl.nx e)))
                fun e => R.ok Fl.nx e)
              (seqM
                (setM (some 2) 4
                  (bin2 (gBin Operator.Mod)
                    (unM
                      (shM
                        (bltM (pB intF)
                          (consM
                            (bin2 (gBin Operator.Pow)
                              (bin2 (gBin Operator.Add)
                                (bin2 (gBin Operator.Add)
                                  (bin2 (gBin Operator.Mod) (unM (shM (bltM (pB intF) (consM (getv 3) (ret [])))))
                                    (ret (D.int 2147483549)))
                                  (bin2 (gBin Operator.Mult) (ret (D.int c1)) (getv 2)))
                                (ret (D.int c2)))
                              (ret (D.int 5)))
                            (ret [])))))
                    (ret (D.int 2147483629))))
                (seqM
                  (setM (some 2) 4
                    (bin2 (gBin Operator.Mod)
                      (unM
                        (shM
                          (bltM (pB intF)
                            (consM
                              (bin2 (gBin Operator.Pow)
                                (bin2 (gBin Operator.Add)
                                  (bin2 (gBin Operator.Add)
                                    (bin2 (gBin Operator.Mult) (getv 4)
                                      (bin2 (gBin Operator.Add)
                                        (bin2 (gBin Operator.Mult) (ret (D.int 2)) (getv 2)) (ret (D.int c3))))
                                    (bin2 (gBin Operator.Mult)
                                      (bin2 (gBin Operator.Mult) (ret (D.int c4)) (getv 2)) (getv 2)))
                                  (ret (D.int 71)))
                                (ret (D.int 3)))
                              (ret [])))))
                      (ret (D.int 2147483587))))
                  (seqM
                    (retM
                      (bin2 (gBin Operator.Mod)
                        (unM
                          (shM
                            (bltM (pB intF)
                              (consM (bin2 (gBin Operator.FloorDiv) (getv 4) (ret (D.int 32))) (ret [])))))
                        (getv 1)))
                    fun e => R.ok Fl.nx e))))))))
def mPick (dr : Run) : MS :=
  seqM
    (retM
      (orX
        (bin2 (p2 ixD) (getv 1)
          (unM
            (callM (dr)
              (consA (lnM 0) (consA (vlM (unM (shM (bltM (pB lenF) (consM (getv 1) (ret [])))))) (ret []))))))
        (ixOwnM 1
          (unM
            (callM (dr)
              (consA (lnM 0) (consA (vlM (unM (shM (bltM (pB lenF) (consM (getv 1) (ret [])))))) (ret []))))))))
    fun e => R.ok Fl.nx e
/-- the pen: the cells, the next one's index, the rest of a great one -/
abbrev penD (ns : List Int) (a b : Int) : D := .lst [.lst (ns.map .int), .int a, .int b]
theorem small_of {i : Int} (h1 : -(2 ^ 64) < i) (h2 : i < 2 ^ 64) : small i = true := by
  unfold small
  rw [decide_eq_true h1, decide_eq_true h2]
  rfl
theorem at3_0 (x y z : D) : atI [x, y, z] 0 = some x := rfl
theorem at3_1 (x y z : D) : atI [x, y, z] 1 = some y := rfl
theorem at3_2 (x y z : D) : atI [x, y, z] 2 = some z := rfl
theorem ix3_1 : ixN 3 1 = some 1 := rfl
theorem ix3_2 : ixN 3 2 = some 2 := rfl
theorem plainDs_ints : ∀ ns : List Int, plainDs (ns.map .int) = true
  | [] => rfl
  | n :: ns => by simp [plainDs, plainD, plainDs_ints ns]
theorem noDcts_ints : ∀ ns : List Int, noDcts (ns.map .int) = true
  | [] => rfl
  | n :: ns => by simp [noDcts, noDct, noDcts_ints ns]
theorem depDs_ints : ∀ ns : List Int, depDs (ns.map .int) = 0
  | [] => rfl
  | n :: ns => by simp [depDs, depD, depDs_ints ns]
theorem ne_nil (ns : List Int) : neF (.lst (ns.map .int)) (.lst []) = some (.bl (!ns.isEmpty)) := by
  unfold neF
  have h1 : plainD (.lst (ns.map .int)) = true := by simp [plainD, plainDs_ints]
  have h2 : noDct (.lst (ns.map .int)) = true := by simp [noDct, noDcts_ints]
  have h3 : depD (.lst (ns.map .int)) = 1 := by simp [depD, depDs_ints]
  rw [if_pos ⟨h1, by decide, h2, by decide, by omega, by decide⟩]
  cases ns <;> rfl
theorem atI_nat {α : Type} (xs : List α) (i : Int) (h1 : 0 ≤ i) (h2 : i < xs.length) : ∃ x, atI xs i = some x ∧ x ∈ xs := by
  unfold atI ixN
  rw [if_pos h1, if_pos h2]
  have : i.toNat < xs.length := by omega
  refine ⟨xs[i.toNat], by simp [this], List.getElem_mem ..⟩
/-- what is mixed stays small -/
theorem mix_small {c1 c2 c3 c4 a c : Int} (hc : 0 ≤ c1 ∧ c1 < 2 ^ 17 ∧ 0 ≤ c2 ∧ c2 < 2 ^ 17 ∧ 0 ≤ c3 ∧ c3 < 2 ^ 17 ∧ 0 ≤ c4 ∧ c4 < 2 ^ 17) (ha : 0 ≤ a) (ha2 : a < 2 ^ 20) :
    small (c % 2147483549 + c1 * a + c2) = true ∧ ∀ x : Int, small ((x % 2147483629)) = true ∧ small ((x % 2147483629) * (2 * a + c3) + c4 * a * a + 71) = true := by
  obtain ⟨k1, k2, k3, k4, k5, k6, k7, k8⟩ := hc
  have e1 : 0 ≤ c1 * a := Int.mul_nonneg k1 ha
  have e2 : c1 * a ≤ 2 ^ 17 * 2 ^ 20 := Int.mul_le_mul (by omega) (by omega) ha (by decide)
  have e3 : 0 ≤ c4 * a := Int.mul_nonneg k7 ha
  have e4 : c4 * a ≤ 2 ^ 17 * 2 ^ 20 := Int.mul_le_mul (by omega) (by omega) ha (by decide)
  have e5 : 0 ≤ c4 * a * a := Int.mul_nonneg e3 ha
  have e6 : c4 * a * a ≤ 2 ^ 17 * 2 ^ 20 * 2 ^ 20 := Int.mul_le_mul e4 (by omega) ha (by decide)
  have e7 : (2 : Int) ^ 17 * 2 ^ 20 = 137438953472 := by decide
  have e8 : (2 : Int) ^ 17 * 2 ^ 20 * 2 ^ 20 = 144115188075855872 := by decide
  have e9 : (2 : Int) ^ 64 = 18446744073709551616 := by decide
  have e10 : (2 : Int) ^ 17 = 131072 := by decide
  have e11 : (2 : Int) ^ 20 = 1048576 := by decide
  rw [e7] at e2 e4
  rw [e8] at e6
  refine ⟨small_of (by rw [e9]; omega) (by rw [e9]; omega), fun x => ?_⟩
  have f1 : 0 ≤ x % 2147483629 := Int.emod_nonneg _ (by decide)
  have f2 : x % 2147483629 < 2147483629 := Int.emod_lt_of_pos _ (by decide)
  have f3 : 0 ≤ (x % 2147483629) * (2 * a + c3) := Int.mul_nonneg f1 (by omega)
  have f4 : (x % 2147483629) * (2 * a + c3) ≤ 2147483629 * 2228224 := Int.mul_le_mul (by omega) (by omega) (by omega) (by decide)
  exact ⟨small_of (by rw [e9]; omega) (by rw [e9]; omega), small_of (by rw [e9]; omega) (by rw [e9]; omega)⟩
theorem draw_run {T : Tab} {q : PySem.Str → Option Run} {c1 c2 c3 c4 : Int} (hc : 0 ≤ c1 ∧ c1 < 2 ^ 17 ∧ 0 ≤ c2 ∧ c2 < 2 ^ 17 ∧ 0 ≤ c3 ∧ c3 < 2 ^ 17 ∧ 0 ≤ c4 ∧ c4 < 2 ^ 17) (ns : List Int) (a b m : Int) (ha : 0 ≤ a) (ha2 : a < 2 ^ 20) (hb : 0 ≤ b) (hm : 0 < m) (hm2 : m < 1073741824) :
    ∃ d a' b' e, bodyRun 7 (mDraw T q c1 c2 c3 c4) [.own (penD ns a b), .val (.int m)] = .ok (.sh (.int d)) (.own (penD ns a' b') :: e) ∧ 0 ≤ d ∧ d < m ∧ a ≤ a' ∧ a' ≤ a + 1 ∧ 0 ≤ b' := by
  by_cases hb0 : 0 < b
  · refine ⟨b % m, a, b / m, [.val (.int m), .no, .no, .no, .val (.int (b % m)), .no], ?_, Int.emod_nonneg _ (by omega), Int.emod_lt_of_pos _ hm, by omega, by omega, Int.ediv_nonneg hb (by omega)⟩
    simp [mDraw, pad, List.replicate, i2, ixD, intF, free, mayDrop, at3_0, at3_1, at3_2, ix3_1, ix3_2, hb0, hm, hm2]
  · have : b = 0 := by omega
    subst this
    have e9 : (2 : Int) ^ 64 = 18446744073709551616 := by decide
    have e10 : (2 : Int) ^ 17 = 131072 := by decide
    have e11 : (2 : Int) ^ 20 = 1048576 := by decide
    have s1 : small c1 = true := small_of (by omega) (by omega)
    have s4 : small c4 = true := small_of (by omega) (by omega)
    have sa : small a = true := small_of (by omega) (by omega)
    have s2 : small 2 = true := by decide
    have s10 : small 10 = true := by decide
    have ha0 : ¬ a < 0 := by omega
    by_cases hn : ns = []
    · subst hn
      obtain ⟨m1, m2⟩ := mix_small (c := c1 * a + c2) hc ha ha2
      obtain ⟨m3, m4⟩ := m2 ((((c1 * a + c2) % 2147483549 + c1 * a + c2)) ^ 5)
      generalize hr : bodyRun 7 (mDraw T q c1 c2 c3 c4) [.own (penD [] a 0), .val (.int m)] = rr
      simp [mDraw, pad, List.replicate, i2, ixD, intF, lenF, absF, free, mayDrop, at3_0, at3_1, at3_2, ix3_1, ix3_2, hm, hm2, neS, neF, plainD, plainDs, noDct, noDcts, depD, depDs, eqD, eqDs, LIM, s1, s2, s4, sa, s10, m1, m3, m4, ha0] at hr
      subst hr
      exact ⟨_, a + 1, 0, _, rfl, Int.emod_nonneg _ (by omega), Int.emod_lt_of_pos _ hm, by omega, by omega, by omega⟩
    · have hl : 0 < (ns.length : Int) := by
        cases ns with
        | nil => exact absurd rfl hn
        | cons _ _ => simp
      have hl2 : 0 < ns.length := by omega
      obtain ⟨x, hx, hx2⟩ := atI_nat (ns.map D.int) (a % ns.length) (Int.emod_nonneg _ (by omega)) (by rw [List.length_map]; exact Int.emod_lt_of_pos _ hl)
      obtain ⟨c, _, rfl⟩ := List.mem_map.mp hx2
      have hne : ns.isEmpty = false := by cases ns <;> first | rfl | exact absurd rfl hn
      obtain ⟨m1, m2⟩ := mix_small (c := c) hc ha ha2
      obtain ⟨m3, m4⟩ := m2 ((c % 2147483549 + c1 * a + c2) ^ 5)
      generalize hr : bodyRun 7 (mDraw T q c1 c2 c3 c4) [.own (penD ns a 0), .val (.int m)] = rr
      by_cases hk : a < ns.length
      · by_cases hg : (1000000000000000000 : Int) ≤ (if c < 0 then -c else c)
        · simp [mDraw, pad, List.replicate, i2, ixD, intF, lenF, absF, free, mayDrop, at3_0, at3_1, at3_2, ix3_1, ix3_2, hm, hm2, neS, ne_nil, LIM, s1, s2, s4, sa, s10, m1, m3, m4, ha0, hx, hl2, hne, hk, hg] at hr
          subst hr
          refine ⟨_, a + 1, _, _, rfl, Int.emod_nonneg _ (by omega), Int.emod_lt_of_pos _ hm, by omega, by omega, Int.ediv_nonneg ?_ (by omega)⟩
          have : (0 : Int) ≤ if c < 0 then 1 else 0 := by split <;> omega
          omega
        · simp [mDraw, pad, List.replicate, i2, ixD, intF, lenF, absF, free, mayDrop, at3_0, at3_1, at3_2, ix3_1, ix3_2, hm, hm2, neS, ne_nil, LIM, s1, s2, s4, sa, s10, m1, m3, m4, ha0, hx, hl2, hne, hk, hg] at hr
          subst hr
          exact ⟨_, a + 1, 0, _, rfl, Int.emod_nonneg _ (by omega), Int.emod_lt_of_pos _ hm, by omega, by omega, by omega⟩
      · simp [mDraw, pad, List.replicate, i2, ixD, intF, lenF, absF, free, mayDrop, at3_0, at3_1, at3_2, ix3_1, ix3_2, hm, hm2, neS, ne_nil, LIM, s1, s2, s4, sa, s10, m1, m3, m4, ha0, hx, hl2, hne, hk] at hr
        subst hr
        exact ⟨_, a + 1, 0, _, rfl, Int.emod_nonneg _ (by omega), Int.emod_lt_of_pos _ hm, by omega, by omega, by omega⟩
end Mini
set_option maxHeartbeats 400000
/-! k75, the drawn values: what they are, how they are shown, compared. -/
namespace K75
open PySem PySem.Spec PyProof.Rows L2 Mini
def kwords : List PySem.Str := ["word0", "word1", "word2", "word3", "word4", "word5", "word6", "word7", "word8", "True", ""]
inductive Vw : Nat → D → Prop
  | non (n : Nat) : Vw n .non
  | int (n : Nat) (i : Int) : -500000 ≤ i → i < 500000 → Vw n (.int i)
  | str (n : Nat) (x : PySem.Str) : x ∈ kwords → Vw n (.str x)
  | lst (n : Nat) (ds : List D) : ds.length ≤ 3 → (∀ d ∈ ds, Vw n d) → Vw (n + 1) (.lst ds)
  | tup (n : Nat) (ds : List D) : ds.length ≤ 3 → (∀ d ∈ ds, Vw n d) → Vw (n + 1) (.tup ds)
  | dct (n : Nat) (d : D) : Vw n d → Vw (n + 1) (.dct [(Sum.inr "key", d)])
theorem Vw.succ {n : Nat} {d : D} (h : Vw n d) : Vw (n + 1) d := by
  induction h with
  | non n => exact .non _
  | int n i a b => exact .int _ i a b
  | str n x a => exact .str _ x a
  | lst n ds a b ih => exact .lst _ ds a ih
  | tup n ds a b ih => exact .tup _ ds a ih
  | dct n d a ih => exact .dct _ d ih
theorem Vw.up {n m : Nat} {d : D} (h : Vw n d) (k : n ≤ m) : Vw m d := by
  induction k with
  | refl => exact h
  | step _ ih => exact ih.succ
/-! shown -/
def B (n : Nat) : Nat := 15 * 3 ^ n - 5
theorem B_succ (n : Nat) : B (n + 1) = 3 * B n + 10 := by
  unfold B
  have : 1 ≤ 3 ^ n := Nat.one_le_pow _ _ (by omega)
  rw [Nat.pow_succ]
  omega
theorem B_ge (n : Nat) : 10 ≤ B n := by
  unfold B
  have : 1 ≤ 3 ^ n := Nat.one_le_pow _ _ (by omega)
  omega
theorem listText_len (ts : List PySem.Str) : (listText ts).length ≤ piled ts + 2 := by
  cases ts with
  | nil => decide +kernel
  | cons t r =>
    have h := textFrom_length_pos r 1 (("[" : PySem.Str) ++ (if (0 : Nat) > 0 then ", " else "" : String) ++ t) (Nat.succ_pos 0)
    have e : ((("[" : PySem.Str) ++ (if (0 : Nat) > 0 then ", " else "" : String) ++ t)).length = 1 + t.length := by
      rw [strLen_append, strLen_append]; rfl
    have hX : (listText (t :: r)).length = (textFrom 0 "[" (t :: r)).length + 1 := by
      show (textFrom 0 "[" (t :: r) ++ "]").length = _
      rw [strLen_append]; rfl
    have hY : (textFrom 0 "[" (t :: r)).length = (textFrom 1 (("[" : PySem.Str) ++ (if (0 : Nat) > 0 then ", " else "" : String) ++ t) r).length := rfl
    rw [hX, hY, h, e, piled_cons]; omega
theorem join_len : ∀ ts : List PySem.Str, (Str.join ", " ts).length ≤ piled ts
  | [] => by decide +kernel
  | [x] => by
    show x.length ≤ _
    rw [piled_cons]
    omega
  | x :: y :: r => by
    have ih := join_len (y :: r)
    show (x ++ (", " : PySem.Str) ++ Str.join ", " (y :: r)).length ≤ _
    rw [strLen_append, strLen_append, piled_cons]
    have : ((", " : PySem.Str)).length = 2 := by decide +kernel
    omega
theorem tupleText_len (ts : List PySem.Str) : (tupleText ts).length ≤ piled ts + 3 := by
  unfold tupleText
  rw [strLen_append, strLen_append]
  have h := join_len ts
  have : ((if ts.length == 1 then ",)" else ")" : String) : PySem.Str).length ≤ 2 := by split <;> decide +kernel
  have : (("(" : PySem.Str)).length = 1 := by decide +kernel
  omega
theorem dictText_len (ts : List PySem.Str) : (dictText ts).length ≤ piled ts + 2 := by
  unfold dictText
  rw [strLen_append, strLen_append]
  have h := join_len ts
  have : (("}" : PySem.Str)).length = 1 := by decide +kernel
  have : (("{" : PySem.Str)).length = 1 := by decide +kernel
  omega
theorem ofString_len (s : String) : (PySem.Str.ofString s).length = s.length := by
  rw [PySem.Str.ofString_eq_toList]
  show (List.toArray _).size = _
  rw [List.size_toArray, List.length_map]
  exact String.length_toList
theorem toString_len {i : Int} (h1 : -500000 ≤ i) (h2 : i < 500000) : ((toString i : String) : PySem.Str).length ≤ 7 := by
  rw [ofString_len]
  cases i with
  | ofNat n =>
    have : (toString (Int.ofNat n) : String) = n.repr := rfl
    rw [this]
    have := (Nat.length_repr_le_iff (n := n) (k := 6) (by omega)).mpr (by
      have : (Int.ofNat n) = (n : Int) := rfl
      rw [this] at h2
      omega)
    omega
  | negSucc n =>
    have : (toString (Int.negSucc n) : String) = "-" ++ (n + 1).repr := rfl
    rw [this, String.length_append]
    have := (Nat.length_repr_le_iff (n := n + 1) (k := 6) (by omega)).mpr (by
      rw [Int.negSucc_eq] at h1
      omega)
    have : ("-" : String).length = 1 := by decide
    omega
theorem piled_le {k b : Nat} : ∀ (ts : List PySem.Str), ts.length ≤ k → (∀ t ∈ ts, t.length ≤ b) → piled ts ≤ k * (b + 2) := by
  intro ts
  induction ts generalizing k with
  | nil => intro _ _; rw [piled_nil]; omega
  | cons t r ih =>
    intro h1 h2
    cases k with
    | zero => simp at h1
    | succ k =>
      have := ih (k := k) (by simpa using h1) fun t ht => h2 t (List.mem_cons_of_mem _ ht)
      have := h2 t (List.mem_cons_self ..)
      rw [piled_cons, Nat.add_mul]
      omega
/-- how a datum is shown -/
structure Shw (n b : Nat) (d : D) (pd : PyData) : Prop where
  py : pyD d = some pd
  dep : pd.depth ≤ n
  sh : pd.showable = true
  len : pd.shown.length ≤ b
theorem shws {n b : Nat} : ∀ (ds : List D), (∀ d ∈ ds, ∃ pd, Shw n b d pd) → ∃ pds, pyDs ds = some pds ∧ pds.length = ds.length ∧ PyData.depthAll pds ≤ n ∧ PyData.showableAll pds = true ∧ ∀ t ∈ PyData.shownAll pds, t.length ≤ b
  | [], _ => ⟨[], rfl, rfl, by simp [PyData.depthAll], by simp [PyData.showableAll], by simp [PyData.shownAll]⟩
  | d :: ds, h => by
    obtain ⟨pd, a1, a2, a3, a4⟩ := h d (List.mem_cons_self ..)
    obtain ⟨pds, b1, b2, b3, b4, b5⟩ := shws ds fun d hd => h d (List.mem_cons_of_mem _ hd)
    refine ⟨pd :: pds, by simp [pyDs, a1, b1], by simp [b2], ?_, ?_, ?_⟩
    · simp only [PyData.depthAll]; omega
    · simp [PyData.showableAll, a3, b4]
    · simp only [PyData.shownAll, List.mem_cons]
      rintro t (rfl | ht)
      · exact a4
      · exact b5 t ht
theorem shownAll_len : ∀ pds : List PyData, (PyData.shownAll pds).length = pds.length
  | [] => rfl
  | x :: xs => by simp [PyData.shownAll, shownAll_len xs]
theorem Vw.shw {n : Nat} {d : D} (h : Vw n d) : ∃ pd, Shw n (B n) d pd := by
  induction h with
  | non n => exact ⟨.none, rfl, Nat.zero_le _, rfl, Nat.le_trans (by decide +kernel) (B_ge n)⟩
  | int n i a b =>
    refine ⟨.int i, rfl, Nat.zero_le _, ?_, Nat.le_trans (toString_len a b) (Nat.le_trans (by omega) (B_ge n))⟩
    show decide (i.natAbs.log2 < 1920) = true
    refine decide_eq_true ?_
    by_cases hz : i.natAbs = 0
    · rw [hz]; decide
    · rw [Nat.log2_lt hz]
      have : i.natAbs < 2 ^ 20 := by omega
      exact Nat.lt_of_lt_of_le this (Nat.pow_le_pow_right (by omega) (by omega))
  | str n x a =>
    refine ⟨.str x, rfl, Nat.zero_le _, rfl, Nat.le_trans ?_ (B_ge n)⟩
    have : ∀ x ∈ kwords, (reprText x).length ≤ 10 := by decide +kernel
    exact this x a
  | lst n ds a b ih =>
    obtain ⟨pds, b1, b2, b3, b4, b5⟩ := shws ds ih
    refine ⟨.list pds, by simp [pyD, b1], by simp only [PyData.depth]; omega, by simp [PyData.showable, b4], ?_⟩
    show (listText (PyData.shownAll pds)).length ≤ _
    have h1 := listText_len (PyData.shownAll pds)
    have h2 := piled_le (k := 3) _ (by rw [shownAll_len]; omega) b5
    rw [B_succ]
    omega
  | tup n ds a b ih =>
    obtain ⟨pds, b1, b2, b3, b4, b5⟩ := shws ds ih
    refine ⟨.tuple pds, by simp [pyD, b1], by simp only [PyData.depth]; omega, by simp [PyData.showable, b4], ?_⟩
    show (tupleText (PyData.shownAll pds)).length ≤ _
    have h1 := tupleText_len (PyData.shownAll pds)
    have h2 := piled_le (k := 3) _ (by rw [shownAll_len]; omega) b5
    rw [B_succ]
    omega
  | dct n d a ih =>
    obtain ⟨pd, a1, a2, a3, a4⟩ := ih
    refine ⟨.dict [(.str "key", pd)], by simp [pyD, pyDk, a1, keyD], by simp [PyData.depth, PyData.depthKv]; exact a2, by simp [PyData.showable, PyData.showableKv, a3], ?_⟩
    show (dictText (PyData.shownKv [(.str "key", pd)])).length ≤ _
    have h1 := dictText_len (PyData.shownKv [(.str "key", pd)])
    have h2 : piled (PyData.shownKv [(.str "key", pd)]) = 9 + pd.shown.length := by
      simp only [PyData.shownKv, PyData.shown, piled_cons, piled_nil]
      rw [strLen_append, strLen_append]
      have : (reprText ("key" : PySem.Str)).length = 5 := by decide +kernel
      have : ((": " : PySem.Str)).length = 2 := by decide +kernel
      omega
    rw [B_succ]
    have := B_ge n
    omega
theorem B7 {n : Nat} (h : n ≤ 8) : B n ≤ LIM := by
  have : n = 0 ∨ n = 1 ∨ n = 2 ∨ n = 3 ∨ n = 4 ∨ n = 5 ∨ n = 6 ∨ n = 7 ∨ n = 8 := by omega
  rcases this with rfl | rfl | rfl | rfl | rfl | rfl | rfl | rfl | rfl <;> decide
theorem Vw.repr {n : Nat} {d : D} (h : Vw n d) (k : n ≤ 8) : ∃ t, reprD d = some t := by
  obtain ⟨pd, a1, a2, a3, a4⟩ := h.shw
  refine ⟨pd.shown, ?_⟩
  unfold reprD
  rw [a1]
  simp only []
  rw [if_pos ⟨by omega, a3, Nat.le_trans a4 (B7 k)⟩]
theorem Vw.fmt {n : Nat} {d : D} (h : Vw n d) (k : n ≤ 8) : ∃ t, fmtD d = some t ∧ t.length ≤ B n := by
  obtain ⟨pd, a1, a2, a3, a4⟩ := h.shw
  cases h with
  | str n x a =>
    have : ∀ x ∈ kwords, x.length ≤ 10 := by decide +kernel
    have h1 := this x a
    have h2 := B_ge n
    exact ⟨x, if_pos (Nat.le_trans h1 (by decide)), by omega⟩
  | _ =>
    refine ⟨pd.shown, ?_, a4⟩
    simp only [fmtD]
    unfold reprD
    rw [a1]
    simp only []
    rw [if_pos ⟨by omega, a3, Nat.le_trans a4 (B7 k)⟩]
/-! compared -/
theorem plainDs_iff : ∀ ds : List D, plainDs ds = true ↔ ∀ d ∈ ds, plainD d = true
  | [] => by simp [plainDs]
  | d :: ds => by simp [plainDs, plainDs_iff ds]
theorem depDs_le {n : Nat} : ∀ ds : List D, (∀ d ∈ ds, depD d ≤ n) → depDs ds ≤ n
  | [], _ => by simp [depDs]
  | d :: ds, h => by
    have := h d (List.mem_cons_self ..)
    have := depDs_le ds fun d hd => h d (List.mem_cons_of_mem _ hd)
    simp only [depDs]; omega
theorem Vw.plain {n : Nat} {d : D} (h : Vw n d) : plainD d = true ∧ depD d ≤ n := by
  induction h with
  | non n => exact ⟨rfl, Nat.zero_le _⟩
  | int n i a b => exact ⟨rfl, Nat.zero_le _⟩
  | str n x a => exact ⟨rfl, Nat.zero_le _⟩
  | lst n ds a b ih => exact ⟨by simpa [plainD] using (plainDs_iff ds).mpr fun d hd => (ih d hd).1, by simp only [depD]; exact Nat.succ_le_succ (depDs_le ds fun d hd => (ih d hd).2)⟩
  | tup n ds a b ih => exact ⟨by simpa [plainD] using (plainDs_iff ds).mpr fun d hd => (ih d hd).1, by simp only [depD]; exact Nat.succ_le_succ (depDs_le ds fun d hd => (ih d hd).2)⟩
  | dct n d a ih => exact ⟨by simp [plainD, plainDk, ih.1], by simp only [depD, depDk]; omega⟩
theorem eqDs_self : ∀ ds : List D, (∀ d ∈ ds, eqD d d = true) → eqDs ds ds = true
  | [], _ => rfl
  | d :: ds, h => by simp [eqDs, h d (List.mem_cons_self ..), eqDs_self ds fun d hd => h d (List.mem_cons_of_mem _ hd)]
theorem Vw.eqSelf {n : Nat} {d : D} (h : Vw n d) : eqD d d = true := by
  induction h with
  | non n => rfl
  | int n i a b => simp [eqD]
  | str n x a => simp [eqD]
  | lst n ds a b ih => simpa [eqD] using eqDs_self ds ih
  | tup n ds a b ih => simpa [eqD] using eqDs_self ds ih
  | dct n d a ih => simp [eqD, eqDk, lookK, ih]
theorem eqDs_eq {ds : List D} : ∀ {es : List D}, (∀ d ∈ ds, ∀ e ∈ es, eqD d e = true → d = e) → eqDs ds es = true → ds = es := by
  induction ds with
  | nil =>
    intro es _ h
    cases es with
    | nil => rfl
    | cons e es => simp [eqDs] at h
  | cons d ds ih =>
    intro es k h
    cases es with
    | nil => simp [eqDs] at h
    | cons e es =>
      simp only [eqDs, Bool.and_eq_true] at h
      rw [k d (List.mem_cons_self ..) e (List.mem_cons_self ..) h.1, ih (fun d hd e he => k d (List.mem_cons_of_mem _ hd) e (List.mem_cons_of_mem _ he)) h.2]
theorem Vw.eqD_eq {n : Nat} {d : D} (h : Vw n d) : ∀ {m : Nat} {e : D}, Vw m e → eqD d e = true → d = e := by
  induction h with
  | non n => intro m e g k; cases g <;> first | rfl | simp [eqD] at k
  | int n i a b => intro m e g k; cases g <;> simp [eqD] at k; rw [k]
  | str n x a => intro m e g k; cases g <;> simp [eqD] at k; rw [k]
  | lst n ds a b ih =>
    intro m e g k
    cases g with
    | lst m es c d => simp only [eqD] at k; rw [eqDs_eq (fun x hx y hy => ih x hx (d y hy)) k]
    | _ => simp [eqD] at k
  | tup n ds a b ih =>
    intro m e g k
    cases g with
    | tup m es c d => simp only [eqD] at k; rw [eqDs_eq (fun x hx y hy => ih x hx (d y hy)) k]
    | _ => simp [eqD] at k
  | dct n d a ih =>
    intro m e g k
    cases g with
    | dct m e c =>
      simp [eqD, eqDk, lookK] at k
      rw [ih c k]
    | _ => simp [eqD] at k
/-! plain -/
mutual
def plF : D → D
  | .lst ds => .tup (plFs ds)
  | .tup ds => .tup (plFs ds)
  | .non => .non
  | .bl b => .bl b
  | .int i => .int i
  | .str x => .str x
  | .dct k => .dct k
  | .ins c f => .ins c f
  | .exc c f => .exc c f
  | .cls c => .cls c
  | .typ c => .typ c
  | .fn f => .fn f
  | .scr n => .scr n
def plFs : List D → List D
  | [] => []
  | d :: ds => plF d :: plFs ds
end
theorem plFs_map : ∀ ds : List D, plFs ds = ds.map plF
  | [] => rfl
  | d :: ds => by simp [plFs, plFs_map ds]
theorem Vw.pl {n : Nat} {d : D} (h : Vw n d) : Vw n (plF d) := by
  induction h with
  | non n => exact .non _
  | int n i a b => exact .int _ i a b
  | str n x a => exact .str _ x a
  | lst n ds a b ih => 
    simp only [plF, plFs_map]
    exact .tup _ _ (by simpa using a) (by simpa using ih)
  | tup n ds a b ih =>
    simp only [plF, plFs_map]
    exact .tup _ _ (by simpa using a) (by simpa using ih)
  | dct n d a ih => exact .dct _ d a
theorem Vw.plpl {n : Nat} {d : D} (h : Vw n d) : plF (plF d) = plF d := by
  induction h with
  | non n => rfl
  | int n i a b => rfl
  | str n x a => rfl
  | lst n ds a b ih => simpa [plF, plFs_map] using ih
  | tup n ds a b ih => simpa [plF, plFs_map] using ih
  | dct n d a ih => rfl
end K75
set_option maxHeartbeats 0
namespace K75
open PySem PySem.Spec PyProof.Rows L2 Mini
/-- the runs that a text's tables hold -/
structure Rs where
  fn : PySem.Str → Mini.Run
  ki : PySem.Str → Mini.Run
  eq : PySem.Str → Mini.Run
  bo : PySem.Str → Mini.Run
def has (l : List (PySem.Str × DefI)) (f : PySem.Str → Mini.Run) (x : PySem.Str) : Option Mini.Run := match l.lookup x with
  | some _ => some (f x)
  | none => none
def runOf (l : List (PySem.Str × DefI)) (n : Nat) (x : PySem.Str) : Mini.Run := match l.lookup x with
  | some d => d.run (lv P n)
  | none => fun _ => Mini.R.stuck
def tx (r : Rs) : Txt := { t.base with fnr := has defsL r.fn, mkr := has initsL r.ki, eqm := has eqsL r.eq, bm := has boolsL r.bo }
def rs (n : Nat) : Rs := ⟨runOf defsL n, runOf initsL n, runOf eqsL n, runOf boolsL n⟩
theorem has_run (l : List (PySem.Str × DefI)) (n : Nat) : has l (runOf l n) = fun x => (l.lookup x).map (·.run (lv P n)) := by
  funext x
  unfold has runOf
  cases l.lookup x <;> rfl
theorem lv_tx (n : Nat) : lv P (n + 1) = tx (rs n) := by
  show ({ t.base with fnr := fun x => (defsL.lookup x).map (·.run (lv P n)), mkr := fun x => (initsL.lookup x).map (·.run (lv P n)), eqm := fun x => (eqsL.lookup x).map (·.run (lv P n)), bm := fun x => (boolsL.lookup x).map (·.run (lv P n)) } : Txt) = _
  unfold tx rs
  simp only [has_run]
/-! the normal forms: what each def says, in the words of Mini (printed by gen_m75.py) -/
def dflt (_ : Unit) : PySem.Str × DefI := ("", ⟨"", "", defArgs (top 29), [], defScope (top 29), [], none, [], [], false, 0⟩)
def d_plain : DefI := (defsL.getD 0 (dflt ())).2
def m_plain (r : Rs) : MS :=
  seqM
    (ifM
      (asTG (gTru (Txt.bm (tx r)))
        (unM
          (shM
            (bltM (pB (isiG (Txt.tab (tx r))))
              (consM (getv 0)
                (consM (tupM (consM (ret (D.typ "list")) (consM (ret (D.typ "tuple")) (ret [])))) (ret [])))))))
      (seqM
        (retM
          (unM
            (shM
              (bltM (pB tupF)
                (consM
                  (lcM [1] (itemsM (getv 0)) (put1 none 1) (ret true)
                    (unM (callM (Rs.fn r (PySem.Str.ofString "plain")) (consA (lnM 1) (ret [])))))
                  (ret []))))))
        fun e => R.ok Fl.nx e)
      fun e => R.ok Fl.nx e)
    (seqM (retM (getv 0)) fun e => R.ok Fl.nx e)
theorem m_plain_eq (r : Rs) : DefI.m (tx r) d_plain = m_plain r := by kernel_rfl
def d_pen : DefI := (defsL.getD 1 (dflt ())).2
def m_pen (r : Rs) : MS :=
  seqM
    (retO
      (lstO
        (consM (unM (shM (bltM (pB listF) (consM (slM (getv 0) (ret none) (partM (ret (D.int 63)))) (ret [])))))
          (consM (ret (D.int 0)) (consM (ret (D.int 0)) (ret []))))))
    fun e => R.ok Fl.nx e
theorem m_pen_eq (r : Rs) : DefI.m (tx r) d_pen = m_pen r := by kernel_rfl
def d_draw : DefI := (defsL.getD 2 (dflt ())).2
def m_draw (r : Rs) : MS :=
  seqM
    (ifM (asB (bin2 gGt (orX (bin2 (p2 ixD) (getv 0) (ret (D.int 2))) (ixOwnM 0 (ret (D.int 2)))) (ret (D.int 0))))
      (seqM
        (setM (some 2) 5
          (bin2 (gBin PySem.Operator.Mod)
            (unM
              (shM
                (bltM (pB intF)
                  (consM (orX (bin2 (p2 ixD) (getv 0) (ret (D.int 2))) (ixOwnM 0 (ret (D.int 2)))) (ret [])))))
            (getv 1)))
        (seqM
          (sub2M 0
            (bin2 (gBin PySem.Operator.FloorDiv)
              (unM
                (shM
                  (bltM (pB intF)
                    (consM (orX (bin2 (p2 ixD) (getv 0) (ret (D.int 2))) (ixOwnM 0 (ret (D.int 2)))) (ret [])))))
              (getv 1))
            (ret (D.int 2)))
          (seqM (retM (getv 5)) fun e => R.ok Fl.nx e)))
      fun e => R.ok Fl.nx e)
    (seqM (setM (some 2) 2 (orX (bin2 (p2 ixD) (getv 0) (ret (D.int 1))) (ixOwnM 0 (ret (D.int 1)))))
      (seqM (sub2M 0 (bin2 (gBin PySem.Operator.Add) (getv 2) (ret (D.int 1))) (ret (D.int 1)))
        (seqM
          (setM (some 2) 3
            (bin2 (gBin PySem.Operator.Add) (bin2 (gBin PySem.Operator.Mult) (ret (D.int 30203)) (getv 2))
              (ret (D.int 5003))))
          (seqM
            (ifM
              (asB
                (bin2 (Mini.orM gNe (gOwnNe (Txt.tab (tx r)) (Txt.eqm (tx r))))
                  (orX (bin2 (p2 ixD) (getv 0) (ret (D.int 0))) (ixOwnM 0 (ret (D.int 0)))) (lstM (ret []))))
              (seqM
                (setM (some 2) 3
                  (bin2 (p2 ixD) (orX (bin2 (p2 ixD) (getv 0) (ret (D.int 0))) (ixOwnM 0 (ret (D.int 0))))
                    (bin2 (gBin PySem.Operator.Mod) (unM (shM (bltM (pB intF) (consM (getv 2) (ret [])))))
                      (unM
                        (shM
                          (bltM (pB lenF)
                            (consM (orX (bin2 (p2 ixD) (getv 0) (ret (D.int 0))) (ixOwnM 0 (ret (D.int 0))))
                              (ret []))))))))
                fun e => R.ok Fl.nx e)
              fun e => R.ok Fl.nx e)
            (seqM
              (ifM
                (Mini.andM
                  (asB
                    (bin2 gLt (getv 2)
                      (unM
                        (shM
                          (bltM (pB lenF)
                            (consM (orX (bin2 (p2 ixD) (getv 0) (ret (D.int 0))) (ixOwnM 0 (ret (D.int 0))))
                              (ret [])))))))
                  (asB
                    (bin2 gGe (unM (shM (bltM (pB absF) (consM (getv 3) (ret [])))))
                      (bin2 (gBin PySem.Operator.Pow) (ret (D.int 10)) (ret (D.int 18))))))
                (seqM
                  (setM (some 2) 6
                    (bin2 (gBin PySem.Operator.Add)
                      (bin2 (gBin PySem.Operator.Mult) (ret (D.int 2))
                        (bin2 (gBin PySem.Operator.Sub) (unM (shM (bltM (pB absF) (consM (getv 3) (ret [])))))
                          (bin2 (gBin PySem.Operator.Pow) (ret (D.int 10)) (ret (D.int 18)))))
                      (unM (shM (bltM (pB intF) (consM (bin2 gLt (getv 3) (ret (D.int 0))) (ret [])))))))
                  (seqM
                    (sub2M 0
                      (bin2 (gBin PySem.Operator.FloorDiv) (unM (shM (bltM (pB intF) (consM (getv 6) (ret [])))))
                        (getv 1))
                      (ret (D.int 2)))
                    (seqM
                      (retM
                        (bin2 (gBin PySem.Operator.Mod) (unM (shM (bltM (pB intF) (consM (getv 6) (ret [])))))
                          (getv 1)))
                      fun e => R.ok Fl.nx e)))
                fun e => R.ok Fl.nx e)
              (seqM
                (setM (some 2) 4
                  (bin2 (gBin PySem.Operator.Mod)
                    (unM
                      (shM
                        (bltM (pB intF)
                          (consM
                            (bin2 (gBin PySem.Operator.Pow)
                              (bin2 (gBin PySem.Operator.Add)
                                (bin2 (gBin PySem.Operator.Add)
                                  (bin2 (gBin PySem.Operator.Mod) (unM (shM (bltM (pB intF) (consM (getv 3) (ret [])))))
                                    (ret (D.int 2147483549)))
                                  (bin2 (gBin PySem.Operator.Mult) (ret (D.int 30203)) (getv 2)))
                                (ret (D.int 5003)))
                              (ret (D.int 5)))
                            (ret [])))))
                    (ret (D.int 2147483629))))
                (seqM
                  (setM (some 2) 4
                    (bin2 (gBin PySem.Operator.Mod)
                      (unM
                        (shM
                          (bltM (pB intF)
                            (consM
                              (bin2 (gBin PySem.Operator.Pow)
                                (bin2 (gBin PySem.Operator.Add)
                                  (bin2 (gBin PySem.Operator.Add)
                                    (bin2 (gBin PySem.Operator.Mult) (getv 4)
                                      (bin2 (gBin PySem.Operator.Add)
                                        (bin2 (gBin PySem.Operator.Mult) (ret (D.int 2)) (getv 2)) (ret (D.int 1201))))
                                    (bin2 (gBin PySem.Operator.Mult)
                                      (bin2 (gBin PySem.Operator.Mult) (ret (D.int 31003)) (getv 2)) (getv 2)))
                                  (ret (D.int 71)))
                                (ret (D.int 3)))
                              (ret [])))))
                      (ret (D.int 2147483587))))
                  (seqM
                    (retM
                      (bin2 (gBin PySem.Operator.Mod)
                        (unM
                          (shM
                            (bltM (pB intF)
                              (consM (bin2 (gBin PySem.Operator.FloorDiv) (getv 4) (ret (D.int 32))) (ret [])))))
                        (getv 1)))
                    fun e => R.ok Fl.nx e))))))))
theorem m_draw_eq (r : Rs) : DefI.m (tx r) d_draw = m_draw r := by kernel_rfl
def d_pick : DefI := (defsL.getD 3 (dflt ())).2
def m_pick (r : Rs) : MS :=
  seqM
    (retM
      (orX
        (bin2 (p2 ixD) (getv 1)
          (unM
            (callM (Rs.fn r (PySem.Str.ofString "_law_draw"))
              (consA (lnM 0) (consA (vlM (unM (shM (bltM (pB lenF) (consM (getv 1) (ret [])))))) (ret []))))))
        (ixOwnM 1
          (unM
            (callM (Rs.fn r (PySem.Str.ofString "_law_draw"))
              (consA (lnM 0) (consA (vlM (unM (shM (bltM (pB lenF) (consM (getv 1) (ret [])))))) (ret []))))))))
    fun e => R.ok Fl.nx e
theorem m_pick_eq (r : Rs) : DefI.m (tx r) d_pick = m_pick r := by kernel_rfl
def d_value : DefI := (defsL.getD 4 (dflt ())).2
def m_value (r : Rs) : MS :=
  seqM
    (setM (some 2) 2
      (unM
        (callM (Rs.fn r (PySem.Str.ofString "_law_draw"))
          (consA (lnM 0)
            (consA (vlM (ifM (asB (bin2 gGt (getv 1) (ret (D.int 0)))) (ret (D.int 8)) (ret (D.int 5)))) (ret []))))))
    (seqM
      (ifM (asB (bin2 gLt (getv 2) (ret (D.int 5))))
        (seqM
          (retM
            (bin2 (p2 ixD)
              (lstM
                (consM (ret D.non)
                  (consM
                    (bin2 (gBin PySem.Operator.Sub)
                      (unM
                        (callM (Rs.fn r (PySem.Str.ofString "_law_draw"))
                          (consA (lnM 0)
                            (consA (vlM (bin2 (gBin PySem.Operator.Pow) (ret (D.int 10)) (ret (D.int 6)))) (ret [])))))
                      (ret (D.int 500000)))
                    (consM
                      (bin2 (gBin PySem.Operator.Add) (ret (D.str (PySem.Str.ofString "word")))
                        (unM
                          (shM
                            (bltM (pB strF)
                              (consM
                                (unM
                                  (callM (Rs.fn r (PySem.Str.ofString "_law_draw"))
                                    (consA (lnM 0) (consA (vlM (ret (D.int 9))) (ret [])))))
                                (ret []))))))
                      (consM (ret (D.str (PySem.Str.ofString "True")))
                        (consM (ret (D.str (PySem.Str.ofString ""))) (ret [])))))))
              (getv 2)))
          fun e => R.ok Fl.nx e)
        fun e => R.ok Fl.nx e)
      (seqM
        (setM (some 2) 3
          (lcM [4]
            (range1M
              (consM
                (unM
                  (callM (Rs.fn r (PySem.Str.ofString "_law_draw"))
                    (consA (lnM 0) (consA (vlM (ret (D.int 4))) (ret [])))))
                (ret [])))
            (put1 none 4) (ret true)
            (unM
              (callM (Rs.fn r (PySem.Str.ofString "_law_value"))
                (consA (lnM 0) (consA (vlM (bin2 (gBin PySem.Operator.Sub) (getv 1) (ret (D.int 1)))) (ret [])))))))
        (seqM
          (retM
            (ifM (asB (bin2 (Mini.orM (p2 eqF) (gOwnEq (Txt.tab (tx r)) (Txt.eqm (tx r)))) (getv 2) (ret (D.int 5))))
              (getv 3)
              (ifM (asB (bin2 (Mini.orM (p2 eqF) (gOwnEq (Txt.tab (tx r)) (Txt.eqm (tx r)))) (getv 2) (ret (D.int 6))))
                (unM (shM (bltM (pB tupF) (consM (getv 3) (ret [])))))
                (disM (consP (ret (D.str (PySem.Str.ofString "key"))) (getv 3) (ret []))))))
          fun e => R.ok Fl.nx e)))
theorem m_value_eq (r : Rs) : DefI.m (tx r) d_value = m_value r := by kernel_rfl
def d_lplain : DefI := (defsL.getD 5 (dflt ())).2
def m_lplain (r : Rs) : MS :=
  seqM
    (ifM
      (asTG (gTru (Txt.bm (tx r)))
        (unM
          (shM
            (bltM (pB (isiG (Txt.tab (tx r))))
              (consM (getv 0)
                (consM (tupM (consM (ret (D.typ "list")) (consM (ret (D.typ "tuple")) (ret [])))) (ret [])))))))
      (seqM
        (retM
          (unM
            (shM
              (bltM (pB tupF)
                (consM
                  (lcM [1] (itemsM (getv 0)) (put1 none 1) (ret true)
                    (unM (callM (Rs.fn r (PySem.Str.ofString "_law_plain")) (consA (lnM 1) (ret [])))))
                  (ret []))))))
        fun e => R.ok Fl.nx e)
      fun e => R.ok Fl.nx e)
    (seqM (retM (getv 0)) fun e => R.ok Fl.nx e)
theorem m_lplain_eq (r : Rs) : DefI.m (tx r) d_lplain = m_lplain r := by kernel_rfl
def d_errors : DefI := (defsL.getD 6 (dflt ())).2
def m_errors (r : Rs) : MS :=
  seqM
    (setM (some 2) 2
      (lstM
        (consM
          (tupM
            (consM
              (unM
                (shM
                  (errM (PySem.Str.ofString "BadValue")
                    (ErrI.eR
                      (ErrD.i
                        (Prod.fst
                          (ErrD.mk (PySem.Str.ofString "BadValue.__init__") (L2.defArgs (L2.inClass (top 2) 0))
                              (L2.defScope (L2.inClass (top 2) 0))
                              [PySem.Str.ofString "self", PySem.Str.ofString "part"]
                              (errArg (L2.defBody (L2.inClass (top 2) 0)))
                              (List.tail (L2.defBody (L2.inClass (top 2) 0))) 12 [([PySem.Str.ofString "part"], [0])],
                            L2.defBody (L2.inClass (top 2) 0)))))
                    id (consM (getv 0) (ret [])))))
              (consM (ret (D.str (PySem.Str.ofString "part"))) (ret []))))
          (consM
            (tupM
              (consM
                (unM
                  (shM
                    (errM (PySem.Str.ofString "BadNumber")
                      (ErrI.eR
                        (ErrD.i
                          (Prod.fst
                            (ErrD.mk (PySem.Str.ofString "BadNumber.__init__") (L2.defArgs (L2.inClass (top 3) 0))
                                (L2.defScope (L2.inClass (top 3) 0))
                                [PySem.Str.ofString "self", PySem.Str.ofString "part"]
                                (errArg (L2.defBody (L2.inClass (top 3) 0)))
                                (List.tail (L2.defBody (L2.inClass (top 3) 0))) 12 [([PySem.Str.ofString "part"], [0])],
                              L2.defBody (L2.inClass (top 3) 0)))))
                      (sel [0]) (consM (getv 0) (ret [])))))
                (consM (ret (D.str (PySem.Str.ofString "part"))) (ret []))))
            (consM
              (tupM
                (consM
                  (unM
                    (shM
                      (errM (PySem.Str.ofString "BadName")
                        (ErrI.eR
                          (ErrD.i
                            (Prod.fst
                              (ErrD.mk (PySem.Str.ofString "BadName.__init__") (L2.defArgs (L2.inClass (top 4) 0))
                                  (L2.defScope (L2.inClass (top 4) 0))
                                  [PySem.Str.ofString "self", PySem.Str.ofString "part"]
                                  (errArg (L2.defBody (L2.inClass (top 4) 0)))
                                  (List.tail (L2.defBody (L2.inClass (top 4) 0))) 12
                                  [([PySem.Str.ofString "part"], [0])],
                                L2.defBody (L2.inClass (top 4) 0)))))
                        id (consM (getv 0) (ret [])))))
                  (consM (ret (D.str (PySem.Str.ofString "part"))) (ret []))))
              (consM
                (tupM
                  (consM
                    (unM
                      (shM
                        (errM (PySem.Str.ofString "BadNeed")
                          (ErrI.eR
                            (ErrD.i
                              (Prod.fst
                                (ErrD.mk (PySem.Str.ofString "BadNeed.__init__") (L2.defArgs (L2.inClass (top 5) 0))
                                    (L2.defScope (L2.inClass (top 5) 0))
                                    [PySem.Str.ofString "self", PySem.Str.ofString "part"]
                                    (errArg (L2.defBody (L2.inClass (top 5) 0)))
                                    (List.tail (L2.defBody (L2.inClass (top 5) 0))) 12
                                    [([PySem.Str.ofString "part"], [0])],
                                  L2.defBody (L2.inClass (top 5) 0)))))
                          id (consM (getv 0) (ret [])))))
                    (consM (ret (D.str (PySem.Str.ofString "part"))) (ret []))))
                (consM
                  (tupM
                    (consM
                      (unM
                        (shM
                          (errM (PySem.Str.ofString "BadDeed")
                            (ErrI.eR
                              (ErrD.i
                                (Prod.fst
                                  (ErrD.mk (PySem.Str.ofString "BadDeed.__init__") (L2.defArgs (L2.inClass (top 6) 0))
                                      (L2.defScope (L2.inClass (top 6) 0))
                                      [PySem.Str.ofString "self", PySem.Str.ofString "part"]
                                      (errArg (L2.defBody (L2.inClass (top 6) 0)))
                                      (List.tail (L2.defBody (L2.inClass (top 6) 0))) 12
                                      [([PySem.Str.ofString "part"], [0])],
                                    L2.defBody (L2.inClass (top 6) 0)))))
                            id (consM (getv 0) (ret [])))))
                      (consM (ret (D.str (PySem.Str.ofString "part"))) (ret []))))
                  (ret []))))))))
    (seqM
      (setM (some 2) 2
        (bin2 (gBin PySem.Operator.Add) (getv 2)
          (lstM
            (consM
              (tupM
                (consM
                  (unM
                    (shM
                      (errM (PySem.Str.ofString "BadHouse")
                        (ErrI.eR
                          (ErrD.i
                            (Prod.fst
                              (ErrD.mk (PySem.Str.ofString "BadHouse.__init__") (L2.defArgs (L2.inClass (top 7) 0))
                                  (L2.defScope (L2.inClass (top 7) 0))
                                  [PySem.Str.ofString "self", PySem.Str.ofString "part"]
                                  (errArg (L2.defBody (L2.inClass (top 7) 0)))
                                  (List.tail (L2.defBody (L2.inClass (top 7) 0))) 12
                                  [([PySem.Str.ofString "part"], [0])],
                                L2.defBody (L2.inClass (top 7) 0)))))
                        id (consM (getv 0) (ret [])))))
                  (consM (ret (D.str (PySem.Str.ofString "part"))) (ret []))))
              (consM
                (tupM
                  (consM
                    (unM
                      (shM
                        (errM (PySem.Str.ofString "BadState")
                          (ErrI.eR
                            (ErrD.i
                              (Prod.fst
                                (ErrD.mk (PySem.Str.ofString "BadState.__init__") (L2.defArgs (L2.inClass (top 8) 0))
                                    (L2.defScope (L2.inClass (top 8) 0))
                                    [PySem.Str.ofString "self", PySem.Str.ofString "part"]
                                    (errArg (L2.defBody (L2.inClass (top 8) 0)))
                                    (List.tail (L2.defBody (L2.inClass (top 8) 0))) 12
                                    [([PySem.Str.ofString "part"], [0])],
                                  L2.defBody (L2.inClass (top 8) 0)))))
                          id (consM (getv 0) (ret [])))))
                    (consM (ret (D.str (PySem.Str.ofString "part"))) (ret []))))
                (consM
                  (tupM
                    (consM
                      (unM
                        (shM
                          (errM (PySem.Str.ofString "BadWish")
                            (ErrI.eR
                              (ErrD.i
                                (Prod.fst
                                  (ErrD.mk (PySem.Str.ofString "BadWish.__init__") (L2.defArgs (L2.inClass (top 9) 0))
                                      (L2.defScope (L2.inClass (top 9) 0))
                                      [PySem.Str.ofString "self", PySem.Str.ofString "part"]
                                      (errArg (L2.defBody (L2.inClass (top 9) 0)))
                                      (List.tail (L2.defBody (L2.inClass (top 9) 0))) 12
                                      [([PySem.Str.ofString "part"], [0])],
                                    L2.defBody (L2.inClass (top 9) 0)))))
                            id (consM (getv 0) (ret [])))))
                      (consM (ret (D.str (PySem.Str.ofString "part"))) (ret []))))
                  (consM
                    (tupM
                      (consM
                        (unM
                          (shM
                            (errM (PySem.Str.ofString "BadStand")
                              (ErrI.eR
                                (ErrD.i
                                  (Prod.fst
                                    (ErrD.mk (PySem.Str.ofString "BadStand.__init__")
                                        (L2.defArgs (L2.inClass (top 10) 0)) (L2.defScope (L2.inClass (top 10) 0))
                                        [PySem.Str.ofString "self", PySem.Str.ofString "part"]
                                        (errArg (L2.defBody (L2.inClass (top 10) 0)))
                                        (List.tail (L2.defBody (L2.inClass (top 10) 0))) 12
                                        [([PySem.Str.ofString "part"], [0])],
                                      L2.defBody (L2.inClass (top 10) 0)))))
                              id (consM (getv 0) (ret [])))))
                        (consM (ret (D.str (PySem.Str.ofString "part"))) (ret []))))
                    (consM
                      (tupM
                        (consM
                          (unM
                            (shM
                              (errM (PySem.Str.ofString "BadCalendar")
                                (ErrI.eR
                                  (ErrD.i
                                    (Prod.fst
                                      (ErrD.mk (PySem.Str.ofString "BadCalendar.__init__")
                                          (L2.defArgs (L2.inClass (top 11) 0)) (L2.defScope (L2.inClass (top 11) 0))
                                          [PySem.Str.ofString "self", PySem.Str.ofString "part"]
                                          (errArg (L2.defBody (L2.inClass (top 11) 0)))
                                          (List.tail (L2.defBody (L2.inClass (top 11) 0))) 12
                                          [([PySem.Str.ofString "part"], [0])],
                                        L2.defBody (L2.inClass (top 11) 0)))))
                                id (consM (getv 0) (ret [])))))
                          (consM (ret (D.str (PySem.Str.ofString "part"))) (ret []))))
                      (ret [])))))))))
      (seqM
        (setM (some 2) 2
          (bin2 (gBin PySem.Operator.Add) (getv 2)
            (lstM
              (consM
                (tupM
                  (consM
                    (unM
                      (shM
                        (errM (PySem.Str.ofString "BadMachine")
                          (ErrI.eR
                            (ErrD.i
                              (Prod.fst
                                (ErrD.mk (PySem.Str.ofString "BadMachine.__init__") (L2.defArgs (L2.inClass (top 12) 0))
                                    (L2.defScope (L2.inClass (top 12) 0))
                                    [PySem.Str.ofString "self", PySem.Str.ofString "part"]
                                    (errArg (L2.defBody (L2.inClass (top 12) 0)))
                                    (List.tail (L2.defBody (L2.inClass (top 12) 0))) 12
                                    [([PySem.Str.ofString "part"], [0])],
                                  L2.defBody (L2.inClass (top 12) 0)))))
                          id (consM (getv 0) (ret [])))))
                    (consM (ret (D.str (PySem.Str.ofString "part"))) (ret []))))
                (consM
                  (tupM
                    (consM
                      (unM
                        (shM
                          (errM (PySem.Str.ofString "BadNumbers")
                            (ErrI.eR
                              (ErrD.i
                                (Prod.fst
                                  (ErrD.mk (PySem.Str.ofString "BadNumbers.__init__")
                                      (L2.defArgs (L2.inClass (top 13) 0)) (L2.defScope (L2.inClass (top 13) 0))
                                      [PySem.Str.ofString "self", PySem.Str.ofString "part"]
                                      (errArg (L2.defBody (L2.inClass (top 13) 0)))
                                      (List.tail (L2.defBody (L2.inClass (top 13) 0))) 12
                                      [([PySem.Str.ofString "part"], [0])],
                                    L2.defBody (L2.inClass (top 13) 0)))))
                            id (consM (getv 0) (ret [])))))
                      (consM (ret (D.str (PySem.Str.ofString "part"))) (ret []))))
                  (consM
                    (tupM
                      (consM
                        (unM
                          (shM
                            (errM (PySem.Str.ofString "BadAct")
                              (ErrI.eR
                                (ErrD.i
                                  (Prod.fst
                                    (ErrD.mk (PySem.Str.ofString "BadAct.__init__") (L2.defArgs (L2.inClass (top 14) 0))
                                        (L2.defScope (L2.inClass (top 14) 0))
                                        [PySem.Str.ofString "self", PySem.Str.ofString "part"]
                                        (errArg (L2.defBody (L2.inClass (top 14) 0)))
                                        (List.tail (L2.defBody (L2.inClass (top 14) 0))) 12
                                        [([PySem.Str.ofString "part"], [0])],
                                      L2.defBody (L2.inClass (top 14) 0)))))
                              id (consM (getv 0) (ret [])))))
                        (consM (ret (D.str (PySem.Str.ofString "part"))) (ret []))))
                    (consM
                      (tupM
                        (consM
                          (unM
                            (shM
                              (errM (PySem.Str.ofString "BadText")
                                (ErrI.eR
                                  (ErrD.i
                                    (Prod.fst
                                      (ErrD.mk (PySem.Str.ofString "BadText.__init__")
                                          (L2.defArgs (L2.inClass (top 15) 0)) (L2.defScope (L2.inClass (top 15) 0))
                                          [PySem.Str.ofString "self", PySem.Str.ofString "item"]
                                          (errArg (L2.defBody (L2.inClass (top 15) 0)))
                                          (List.tail (L2.defBody (L2.inClass (top 15) 0))) 12
                                          [([PySem.Str.ofString "item"], [0])],
                                        L2.defBody (L2.inClass (top 15) 0)))))
                                id (consM (getv 0) (ret [])))))
                          (consM (ret (D.str (PySem.Str.ofString "item"))) (ret []))))
                      (consM
                        (tupM
                          (consM
                            (unM
                              (shM
                                (errM (PySem.Str.ofString "BadText")
                                  (ErrI.eR
                                    (ErrD.i
                                      (Prod.fst
                                        (ErrD.mk (PySem.Str.ofString "BadText.__init__")
                                            (L2.defArgs (L2.inClass (top 15) 0)) (L2.defScope (L2.inClass (top 15) 0))
                                            [PySem.Str.ofString "self", PySem.Str.ofString "item"]
                                            (errArg (L2.defBody (L2.inClass (top 15) 0)))
                                            (List.tail (L2.defBody (L2.inClass (top 15) 0))) 12
                                            [([PySem.Str.ofString "item"], [0])],
                                          L2.defBody (L2.inClass (top 15) 0)))))
                                  (sel [0]) (consM (getv 0) (ret [])))))
                            (consM (ret (D.str (PySem.Str.ofString "item"))) (ret []))))
                        (ret [])))))))))
        (seqM
          (setM (some 2) 2
            (bin2 (gBin PySem.Operator.Add) (getv 2)
              (lstM
                (consM
                  (tupM
                    (consM
                      (unM
                        (shM
                          (errM (PySem.Str.ofString "BadCommand")
                            (ErrI.eR
                              (ErrD.i
                                (Prod.fst
                                  (ErrD.mk (PySem.Str.ofString "BadCommand.__init__")
                                      (L2.defArgs (L2.inClass (top 16) 0)) (L2.defScope (L2.inClass (top 16) 0))
                                      [PySem.Str.ofString "self", PySem.Str.ofString "word"]
                                      (errArg (L2.defBody (L2.inClass (top 16) 0)))
                                      (List.tail (L2.defBody (L2.inClass (top 16) 0))) 12
                                      [([PySem.Str.ofString "word"], [0])],
                                    L2.defBody (L2.inClass (top 16) 0)))))
                            (sel [0]) (consM (getv 0) (ret [])))))
                      (consM (ret (D.str (PySem.Str.ofString "word"))) (ret []))))
                  (consM
                    (tupM
                      (consM
                        (unM
                          (shM
                            (errM (PySem.Str.ofString "NoThing")
                              (ErrI.eR
                                (ErrD.i
                                  (Prod.fst
                                    (ErrD.mk (PySem.Str.ofString "NoThing.__init__")
                                        (L2.defArgs (L2.inClass (top 17) 0)) (L2.defScope (L2.inClass (top 17) 0))
                                        [PySem.Str.ofString "self", PySem.Str.ofString "name"]
                                        (errArg (L2.defBody (L2.inClass (top 17) 0)))
                                        (List.tail (L2.defBody (L2.inClass (top 17) 0))) 12
                                        [([PySem.Str.ofString "name"], [0])],
                                      L2.defBody (L2.inClass (top 17) 0)))))
                              (sel [0]) (consM (getv 0) (ret [])))))
                        (consM (ret (D.str (PySem.Str.ofString "name"))) (ret []))))
                    (consM
                      (tupM
                        (consM
                          (unM
                            (shM
                              (errM (PySem.Str.ofString "NoKind")
                                (ErrI.eR
                                  (ErrD.i
                                    (Prod.fst
                                      (ErrD.mk (PySem.Str.ofString "NoKind.__init__")
                                          (L2.defArgs (L2.inClass (top 18) 0)) (L2.defScope (L2.inClass (top 18) 0))
                                          [PySem.Str.ofString "self", PySem.Str.ofString "name"]
                                          (errArg (L2.defBody (L2.inClass (top 18) 0)))
                                          (List.tail (L2.defBody (L2.inClass (top 18) 0))) 12
                                          [([PySem.Str.ofString "name"], [0])],
                                        L2.defBody (L2.inClass (top 18) 0)))))
                                id (consM (getv 0) (ret [])))))
                          (consM (ret (D.str (PySem.Str.ofString "name"))) (ret []))))
                      (consM
                        (tupM
                          (consM
                            (unM
                              (shM
                                (errM (PySem.Str.ofString "NoDeed")
                                  (ErrI.eR
                                    (ErrD.i
                                      (Prod.fst
                                        (ErrD.mk (PySem.Str.ofString "NoDeed.__init__")
                                            (L2.defArgs (L2.inClass (top 19) 0)) (L2.defScope (L2.inClass (top 19) 0))
                                            [PySem.Str.ofString "self", PySem.Str.ofString "number"]
                                            (errArg (L2.defBody (L2.inClass (top 19) 0)))
                                            (List.tail (L2.defBody (L2.inClass (top 19) 0))) 12
                                            [([PySem.Str.ofString "number"], [0])],
                                          L2.defBody (L2.inClass (top 19) 0)))))
                                  (sel [0]) (consM (getv 0) (ret [])))))
                            (consM (ret (D.str (PySem.Str.ofString "number"))) (ret []))))
                        (ret []))))))))
          (seqM
            (setM (some 2) 2
              (bin2 (gBin PySem.Operator.Add) (getv 2)
                (lstM
                  (consM
                    (tupM
                      (consM
                        (unM
                          (shM
                            (errM (PySem.Str.ofString "NotYours")
                              (ErrI.eR
                                (ErrD.i
                                  (Prod.fst
                                    (ErrD.mk (PySem.Str.ofString "NotYours.__init__")
                                        (L2.defArgs (L2.inClass (top 20) 0)) (L2.defScope (L2.inClass (top 20) 0))
                                        [PySem.Str.ofString "self", PySem.Str.ofString "deed"]
                                        (errArg (L2.defBody (L2.inClass (top 20) 0)))
                                        (List.tail (L2.defBody (L2.inClass (top 20) 0))) 12
                                        [([PySem.Str.ofString "deed"], [0])],
                                      L2.defBody (L2.inClass (top 20) 0)))))
                              id (consM (getv 0) (ret [])))))
                        (consM (ret (D.str (PySem.Str.ofString "deed"))) (ret []))))
                    (consM
                      (tupM
                        (consM
                          (unM
                            (shM
                              (errM (PySem.Str.ofString "NotNow")
                                (ErrI.eR
                                  (ErrD.i
                                    (Prod.fst
                                      (ErrD.mk (PySem.Str.ofString "NotNow.__init__")
                                          (L2.defArgs (L2.inClass (top 21) 0)) (L2.defScope (L2.inClass (top 21) 0))
                                          [PySem.Str.ofString "self", PySem.Str.ofString "deed"]
                                          (errArg (L2.defBody (L2.inClass (top 21) 0)))
                                          (List.tail (L2.defBody (L2.inClass (top 21) 0))) 12
                                          [([PySem.Str.ofString "deed"], [0])],
                                        L2.defBody (L2.inClass (top 21) 0)))))
                                id (consM (getv 0) (ret [])))))
                          (consM (ret (D.str (PySem.Str.ofString "deed"))) (ret []))))
                      (consM
                        (tupM
                          (consM
                            (unM
                              (shM
                                (errM (PySem.Str.ofString "NotCarried")
                                  (ErrI.eR
                                    (ErrD.i
                                      (Prod.fst
                                        (ErrD.mk (PySem.Str.ofString "NotCarried.__init__")
                                            (L2.defArgs (L2.inClass (top 22) 0)) (L2.defScope (L2.inClass (top 22) 0))
                                            [PySem.Str.ofString "self", PySem.Str.ofString "deed"]
                                            (errArg (L2.defBody (L2.inClass (top 22) 0)))
                                            (List.tail (L2.defBody (L2.inClass (top 22) 0))) 12
                                            [([PySem.Str.ofString "deed"], [0])],
                                          L2.defBody (L2.inClass (top 22) 0)))))
                                  (sel [0]) (consM (getv 0) (ret [])))))
                            (consM (ret (D.str (PySem.Str.ofString "deed"))) (ret []))))
                        (consM
                          (tupM
                            (consM
                              (unM
                                (shM
                                  (errM (PySem.Str.ofString "NotWaiting")
                                    (ErrI.eR
                                      (ErrD.i
                                        (Prod.fst
                                          (ErrD.mk (PySem.Str.ofString "NotWaiting.__init__")
                                              (L2.defArgs (L2.inClass (top 23) 0)) (L2.defScope (L2.inClass (top 23) 0))
                                              [PySem.Str.ofString "self", PySem.Str.ofString "deed"]
                                              (errArg (L2.defBody (L2.inClass (top 23) 0)))
                                              (List.tail (L2.defBody (L2.inClass (top 23) 0))) 12
                                              [([PySem.Str.ofString "deed"], [0])],
                                            L2.defBody (L2.inClass (top 23) 0)))))
                                    id (consM (getv 0) (ret [])))))
                              (consM (ret (D.str (PySem.Str.ofString "deed"))) (ret []))))
                          (consM
                            (tupM
                              (consM
                                (unM
                                  (shM
                                    (errM (PySem.Str.ofString "Misfit")
                                      (ErrI.eR
                                        (ErrD.i
                                          (Prod.fst
                                            (ErrD.mk (PySem.Str.ofString "Misfit.__init__")
                                                (L2.defArgs (L2.inClass (top 24) 0))
                                                (L2.defScope (L2.inClass (top 24) 0))
                                                [PySem.Str.ofString "self", PySem.Str.ofString "part"]
                                                (errArg (L2.defBody (L2.inClass (top 24) 0)))
                                                (List.tail (L2.defBody (L2.inClass (top 24) 0))) 12
                                                [([PySem.Str.ofString "part"], [0])],
                                              L2.defBody (L2.inClass (top 24) 0)))))
                                      id (consM (getv 0) (ret [])))))
                                (consM (ret (D.str (PySem.Str.ofString "part"))) (ret []))))
                            (ret [])))))))))
            (seqM
              (retM
                (bin2 (gBin PySem.Operator.Add) (getv 2)
                  (lstM
                    (consM
                      (tupM
                        (consM
                          (unM
                            (shM
                              (errM (PySem.Str.ofString "TooMany")
                                (ErrI.eR
                                  (ErrD.i
                                    (Prod.fst
                                      (ErrD.mk (PySem.Str.ofString "TooMany.__init__")
                                          (L2.defArgs (L2.inClass (top 25) 0)) (L2.defScope (L2.inClass (top 25) 0))
                                          [PySem.Str.ofString "self", PySem.Str.ofString "what",
                                            PySem.Str.ofString "most"]
                                          (errArg (L2.defBody (L2.inClass (top 25) 0)))
                                          (List.tail (L2.defBody (L2.inClass (top 25) 0))) 12
                                          [([PySem.Str.ofString "what", PySem.Str.ofString "most"], [0, 1]),
                                            ([PySem.Str.ofString "most", PySem.Str.ofString "what"], [1, 0])],
                                        L2.defBody (L2.inClass (top 25) 0)))))
                                id (consM (getv 0) (consM (getv 1) (ret []))))))
                          (consM (ret (D.str (PySem.Str.ofString "what"))) (ret []))))
                      (consM
                        (tupM
                          (consM
                            (unM
                              (shM
                                (errM (PySem.Str.ofString "TooMany")
                                  (ErrI.eR
                                    (ErrD.i
                                      (Prod.fst
                                        (ErrD.mk (PySem.Str.ofString "TooMany.__init__")
                                            (L2.defArgs (L2.inClass (top 25) 0)) (L2.defScope (L2.inClass (top 25) 0))
                                            [PySem.Str.ofString "self", PySem.Str.ofString "what",
                                              PySem.Str.ofString "most"]
                                            (errArg (L2.defBody (L2.inClass (top 25) 0)))
                                            (List.tail (L2.defBody (L2.inClass (top 25) 0))) 12
                                            [([PySem.Str.ofString "what", PySem.Str.ofString "most"], [0, 1]),
                                              ([PySem.Str.ofString "most", PySem.Str.ofString "what"], [1, 0])],
                                          L2.defBody (L2.inClass (top 25) 0)))))
                                  (sel [1, 0]) (consM (getv 1) (consM (getv 0) (ret []))))))
                            (consM (ret (D.str (PySem.Str.ofString "what"))) (ret []))))
                        (ret []))))))
              fun e => R.ok Fl.nx e)))))
theorem m_errors_eq (r : Rs) : DefI.m (tx r) d_errors = m_errors r := by kernel_rfl
def d_kept : DefI := (defsL.getD 7 (dflt ())).2
def m_kept (r : Rs) : MS :=
  seqM
    (ifM
      (asB
        (bin2 (Mini.orM (p2 eqF) (gOwnEq (Txt.tab (tx r)) (Txt.eqm (tx r)))) (getv 1)
          (ret (D.str (PySem.Str.ofString "part")))))
      (seqM (retM (atM (Txt.tab (tx r)) (PySem.Str.ofString "part") (getv 0))) fun e => R.ok Fl.nx e) fun e =>
      R.ok Fl.nx e)
    (seqM
      (ifM
        (asB
          (bin2 (Mini.orM (p2 eqF) (gOwnEq (Txt.tab (tx r)) (Txt.eqm (tx r)))) (getv 1)
            (ret (D.str (PySem.Str.ofString "item")))))
        (seqM (retM (atM (Txt.tab (tx r)) (PySem.Str.ofString "item") (getv 0))) fun e => R.ok Fl.nx e) fun e =>
        R.ok Fl.nx e)
      (seqM
        (ifM
          (asB
            (bin2 (Mini.orM (p2 eqF) (gOwnEq (Txt.tab (tx r)) (Txt.eqm (tx r)))) (getv 1)
              (ret (D.str (PySem.Str.ofString "word")))))
          (seqM (retM (atM (Txt.tab (tx r)) (PySem.Str.ofString "word") (getv 0))) fun e => R.ok Fl.nx e) fun e =>
          R.ok Fl.nx e)
        (seqM
          (ifM
            (asB
              (bin2 (Mini.orM (p2 eqF) (gOwnEq (Txt.tab (tx r)) (Txt.eqm (tx r)))) (getv 1)
                (ret (D.str (PySem.Str.ofString "name")))))
            (seqM (retM (atM (Txt.tab (tx r)) (PySem.Str.ofString "name") (getv 0))) fun e => R.ok Fl.nx e) fun e =>
            R.ok Fl.nx e)
          (seqM
            (ifM
              (asB
                (bin2 (Mini.orM (p2 eqF) (gOwnEq (Txt.tab (tx r)) (Txt.eqm (tx r)))) (getv 1)
                  (ret (D.str (PySem.Str.ofString "number")))))
              (seqM (retM (atM (Txt.tab (tx r)) (PySem.Str.ofString "number") (getv 0))) fun e => R.ok Fl.nx e) fun e =>
              R.ok Fl.nx e)
            (seqM
              (retM
                (ifM
                  (asB
                    (bin2 (Mini.orM (p2 eqF) (gOwnEq (Txt.tab (tx r)) (Txt.eqm (tx r)))) (getv 1)
                      (ret (D.str (PySem.Str.ofString "deed")))))
                  (atM (Txt.tab (tx r)) (PySem.Str.ofString "deed") (getv 0))
                  (atM (Txt.tab (tx r)) (PySem.Str.ofString "what") (getv 0))))
              fun e => R.ok Fl.nx e)))))
theorem m_kept_eq (r : Rs) : DefI.m (tx r) d_kept = m_kept r := by kernel_rfl
def d_all : DefI := (defsL.getD 8 (dflt ())).2
def m_all (r : Rs) : MS :=
  seqM
    (setM (some 1) 1
      (lstM
        (consM
          (unM
            (shM
              (bltM (pB (isiG (Txt.tab (tx r))))
                (consM (getv 0) (consM (ret (D.cls (PySem.Str.ofString "BadValue"))) (ret []))))))
          (consM
            (unM
              (shM
                (bltM (pB (isiG (Txt.tab (tx r))))
                  (consM (getv 0) (consM (ret (D.cls (PySem.Str.ofString "BadNumber"))) (ret []))))))
            (consM
              (unM
                (shM
                  (bltM (pB (isiG (Txt.tab (tx r))))
                    (consM (getv 0) (consM (ret (D.cls (PySem.Str.ofString "BadName"))) (ret []))))))
              (consM
                (unM
                  (shM
                    (bltM (pB (isiG (Txt.tab (tx r))))
                      (consM (getv 0) (consM (ret (D.cls (PySem.Str.ofString "BadNeed"))) (ret []))))))
                (consM
                  (unM
                    (shM
                      (bltM (pB (isiG (Txt.tab (tx r))))
                        (consM (getv 0) (consM (ret (D.cls (PySem.Str.ofString "BadDeed"))) (ret []))))))
                  (ret []))))))))
    (seqM
      (setM (some 1) 1
        (bin2 (gBin PySem.Operator.Add) (getv 1)
          (lstM
            (consM
              (unM
                (shM
                  (bltM (pB (isiG (Txt.tab (tx r))))
                    (consM (getv 0) (consM (ret (D.cls (PySem.Str.ofString "BadHouse"))) (ret []))))))
              (consM
                (unM
                  (shM
                    (bltM (pB (isiG (Txt.tab (tx r))))
                      (consM (getv 0) (consM (ret (D.cls (PySem.Str.ofString "BadState"))) (ret []))))))
                (consM
                  (unM
                    (shM
                      (bltM (pB (isiG (Txt.tab (tx r))))
                        (consM (getv 0) (consM (ret (D.cls (PySem.Str.ofString "BadWish"))) (ret []))))))
                  (consM
                    (unM
                      (shM
                        (bltM (pB (isiG (Txt.tab (tx r))))
                          (consM (getv 0) (consM (ret (D.cls (PySem.Str.ofString "BadStand"))) (ret []))))))
                    (ret []))))))))
      (seqM
        (setM (some 1) 1
          (bin2 (gBin PySem.Operator.Add) (getv 1)
            (lstM
              (consM
                (unM
                  (shM
                    (bltM (pB (isiG (Txt.tab (tx r))))
                      (consM (getv 0) (consM (ret (D.cls (PySem.Str.ofString "BadCalendar"))) (ret []))))))
                (consM
                  (unM
                    (shM
                      (bltM (pB (isiG (Txt.tab (tx r))))
                        (consM (getv 0) (consM (ret (D.cls (PySem.Str.ofString "BadMachine"))) (ret []))))))
                  (consM
                    (unM
                      (shM
                        (bltM (pB (isiG (Txt.tab (tx r))))
                          (consM (getv 0) (consM (ret (D.cls (PySem.Str.ofString "BadNumbers"))) (ret []))))))
                    (consM
                      (unM
                        (shM
                          (bltM (pB (isiG (Txt.tab (tx r))))
                            (consM (getv 0) (consM (ret (D.cls (PySem.Str.ofString "BadAct"))) (ret []))))))
                      (ret []))))))))
        (seqM
          (setM (some 1) 1
            (bin2 (gBin PySem.Operator.Add) (getv 1)
              (lstM
                (consM
                  (unM
                    (shM
                      (bltM (pB (isiG (Txt.tab (tx r))))
                        (consM (getv 0) (consM (ret (D.cls (PySem.Str.ofString "BadText"))) (ret []))))))
                  (consM
                    (unM
                      (shM
                        (bltM (pB (isiG (Txt.tab (tx r))))
                          (consM (getv 0) (consM (ret (D.cls (PySem.Str.ofString "BadCommand"))) (ret []))))))
                    (consM
                      (unM
                        (shM
                          (bltM (pB (isiG (Txt.tab (tx r))))
                            (consM (getv 0) (consM (ret (D.cls (PySem.Str.ofString "NoThing"))) (ret []))))))
                      (consM
                        (unM
                          (shM
                            (bltM (pB (isiG (Txt.tab (tx r))))
                              (consM (getv 0) (consM (ret (D.cls (PySem.Str.ofString "NoKind"))) (ret []))))))
                        (consM
                          (unM
                            (shM
                              (bltM (pB (isiG (Txt.tab (tx r))))
                                (consM (getv 0) (consM (ret (D.cls (PySem.Str.ofString "NoDeed"))) (ret []))))))
                          (ret [])))))))))
          (seqM
            (setM (some 1) 1
              (bin2 (gBin PySem.Operator.Add) (getv 1)
                (lstM
                  (consM
                    (unM
                      (shM
                        (bltM (pB (isiG (Txt.tab (tx r))))
                          (consM (getv 0) (consM (ret (D.cls (PySem.Str.ofString "NotYours"))) (ret []))))))
                    (consM
                      (unM
                        (shM
                          (bltM (pB (isiG (Txt.tab (tx r))))
                            (consM (getv 0) (consM (ret (D.cls (PySem.Str.ofString "NotNow"))) (ret []))))))
                      (consM
                        (unM
                          (shM
                            (bltM (pB (isiG (Txt.tab (tx r))))
                              (consM (getv 0) (consM (ret (D.cls (PySem.Str.ofString "NotCarried"))) (ret []))))))
                        (consM
                          (unM
                            (shM
                              (bltM (pB (isiG (Txt.tab (tx r))))
                                (consM (getv 0) (consM (ret (D.cls (PySem.Str.ofString "NotWaiting"))) (ret []))))))
                          (ret []))))))))
            (seqM
              (setM (some 1) 1
                (bin2 (gBin PySem.Operator.Add) (getv 1)
                  (lstM
                    (consM
                      (unM
                        (shM
                          (bltM (pB (isiG (Txt.tab (tx r))))
                            (consM (getv 0) (consM (ret (D.cls (PySem.Str.ofString "Misfit"))) (ret []))))))
                      (consM
                        (unM
                          (shM
                            (bltM (pB (isiG (Txt.tab (tx r))))
                              (consM (getv 0) (consM (ret (D.cls (PySem.Str.ofString "TooMany"))) (ret []))))))
                        (consM
                          (unM
                            (shM
                              (bltM (pB (isiG (Txt.tab (tx r))))
                                (consM (getv 0) (consM (ret (D.cls (PySem.Str.ofString "NoCalendar"))) (ret []))))))
                          (consM
                            (unM
                              (shM
                                (bltM (pB (isiG (Txt.tab (tx r))))
                                  (consM (getv 0) (consM (ret (D.cls (PySem.Str.ofString "Ended"))) (ret []))))))
                            (ret []))))))))
              (seqM (retM (lcM [2] (itemsM (getv 1)) (put1 none 2) (asTG (gTru (Txt.bm (tx r))) (getv 2)) (getv 2)))
                fun e => R.ok Fl.nx e))))))
theorem m_all_eq (r : Rs) : DefI.m (tx r) d_all = m_all r := by kernel_rfl
def m_lawI (r : Rs) : MS :=
  (seqM
                (ifM
                  (orB
                    (Mini.notM
                      (asTG (gTru (Txt.bm (tx r)))
                        (unM
                          (shM
                            (bltM (pB (isiG (Txt.tab (tx r))))
                              (consM (getv 5) (consM (ret (D.cls (PySem.Str.ofString "DaysError"))) (ret []))))))))
                    (orB
                      (Mini.notM
                        (asTG (gTru (Txt.bm (tx r)))
                          (unM
                            (shM
                              (bltM (pB (isiG (Txt.tab (tx r))))
                                (consM (getv 5) (consM (ret (D.typ "ValueError")) (ret []))))))))
                      (orB
                        (asB
                          (bin2 (Mini.orM gNe (gOwnNe (Txt.tab (tx r)) (Txt.eqm (tx r))))
                            (unM
                              (shM
                                (bltM (pB lenF)
                                  (consM
                                    (unM (callM (Rs.fn r (PySem.Str.ofString "_law_all")) (consA (lnM 5) (ret []))))
                                    (ret [])))))
                            (ret (D.int 1))))
                        (asB
                          (bin2 (Mini.orM gNe (gOwnNe (Txt.tab (tx r)) (Txt.eqm (tx r))))
                            (unM
                              (shM
                                (bltM (pB reprF)
                                  (consM
                                    (unM
                                      (callM (Rs.fn r (PySem.Str.ofString "_law_kept"))
                                        (consA (lnM 5) (consA (lnM 6) (ret [])))))
                                    (ret [])))))
                            (unM (shM (bltM (pB reprF) (consM (getv 3) (ret []))))))))))
                  (seqM (retM (ret (D.bl false))) fun e => R.ok Fl.nx e) fun e => R.ok Fl.nx e)
                (seqM
                  (ifM
                    (Mini.andM
                      (asTG (gTru (Txt.bm (tx r)))
                        (unM
                          (shM
                            (bltM (pB (isiG (Txt.tab (tx r))))
                              (consM (getv 5) (consM (ret (D.cls (PySem.Str.ofString "TooMany"))) (ret [])))))))
                      (asB
                        (bin2 (Mini.orM gNe (gOwnNe (Txt.tab (tx r)) (Txt.eqm (tx r))))
                          (unM
                            (shM
                              (bltM (pB reprF)
                                (consM (atM (Txt.tab (tx r)) (PySem.Str.ofString "most") (getv 5)) (ret [])))))
                          (unM (shM (bltM (pB reprF) (consM (getv 4) (ret []))))))))
                    (seqM (retM (ret (D.bl false))) fun e => R.ok Fl.nx e) fun e => R.ok Fl.nx e)
                  fun e => R.ok Fl.nx e))
def m_lawT (r : Rs) : MS :=
  (seqM
          (parM (some 1) 3 4
            (unM
              (callM (Rs.fn r (PySem.Str.ofString "_law_value"))
                (consA (lnM 1) (consA (vlM (ret (D.int 3))) (ret [])))))
            (unM
              (callM (Rs.fn r (PySem.Str.ofString "_law_value"))
                (consA (lnM 1) (consA (vlM (ret (D.int 2))) (ret []))))))
          (seqM
            (Mini.forM
              (itemsM
                (unM (callM (Rs.fn r (PySem.Str.ofString "_law_errors")) (consA (lnM 3) (consA (lnM 4) (ret []))))))
              (putT (some 1) [5, 6])
              (m_lawI r))
            (seqM
              (parM (some 1) 7 8
                (unM
                  (mkM (PySem.Str.ofString "Paper") (Rs.ki r (PySem.Str.ofString "Paper"))
                    (consA (vlM (ret (D.str (PySem.Str.ofString "told")))) (consA (lnM 3) (consA (lnM 4) (ret []))))))
                (unM
                  (mkM (PySem.Str.ofString "Denial") (Rs.ki r (PySem.Str.ofString "Denial"))
                    (consA (vlM (ret (D.str (PySem.Str.ofString "told")))) (consA (lnM 3) (consA (lnM 4) (ret [])))))))
              (seqM
                (ifM
                  (orB
                    (asB
                      (bin2 (Mini.orM gNe (gOwnNe (Txt.tab (tx r)) (Txt.eqm (tx r))))
                        (unM
                          (shM
                            (bltM (pB reprF)
                              (consM (atM (Txt.tab (tx r)) (PySem.Str.ofString "parts") (getv 7)) (ret [])))))
                        (unM
                          (shM
                            (bltM (pB reprF)
                              (consM
                                (tupM
                                  (consM
                                    (unM (callM (Rs.fn r (PySem.Str.ofString "_law_plain")) (consA (lnM 3) (ret []))))
                                    (consM
                                      (unM (callM (Rs.fn r (PySem.Str.ofString "_law_plain")) (consA (lnM 4) (ret []))))
                                      (ret []))))
                                (ret [])))))))
                    (orB
                      (asB
                        (bin2 (Mini.orM gNe (gOwnNe (Txt.tab (tx r)) (Txt.eqm (tx r))))
                          (atM (Txt.tab (tx r)) (PySem.Str.ofString "word") (getv 7))
                          (ret (D.str (PySem.Str.ofString "told")))))
                      (orB (Mini.notM (asTG (gTru (Txt.bm (tx r))) (getv 7)))
                        (orB (asTG (gTru (Txt.bm (tx r))) (getv 8))
                          (orB
                            (Mini.notM
                              (asTG (gTru (Txt.bm (tx r)))
                                (unM
                                  (shM
                                    (bltM (pB (isiG (Txt.tab (tx r))))
                                      (consM (getv 8) (consM (ret (D.cls (PySem.Str.ofString "Paper"))) (ret []))))))))
                            (asTG (gTru (Txt.bm (tx r)))
                              (unM
                                (shM
                                  (bltM (pB (isiG (Txt.tab (tx r))))
                                    (consM (getv 7)
                                      (consM (ret (D.cls (PySem.Str.ofString "Denial"))) (ret []))))))))))))
                  (seqM (retM (ret (D.bl false))) fun e => R.ok Fl.nx e) fun e => R.ok Fl.nx e)
                (seqM
                  (ifM
                    (orB
                      (asB
                        (bin2 (Mini.orM gNe (gOwnNe (Txt.tab (tx r)) (Txt.eqm (tx r)))) (getv 7)
                          (unM
                            (mkM (PySem.Str.ofString "Paper") (Rs.ki r (PySem.Str.ofString "Paper"))
                              (consA (vlM (ret (D.str (PySem.Str.ofString "told"))))
                                (consA
                                  (vlM
                                    (unM (callM (Rs.fn r (PySem.Str.ofString "_law_plain")) (consA (lnM 3) (ret [])))))
                                  (consA (lnM 4) (ret []))))))))
                      (orB (asB (bin2 (Mini.orM (p2 eqF) (gOwnEq (Txt.tab (tx r)) (Txt.eqm (tx r)))) (getv 7) (getv 8)))
                        (orB
                          (asB
                            (bin2 (Mini.orM gNe (gOwnNe (Txt.tab (tx r)) (Txt.eqm (tx r)))) (getv 8)
                              (unM
                                (mkM (PySem.Str.ofString "Denial") (Rs.ki r (PySem.Str.ofString "Denial"))
                                  (consA (vlM (ret (D.str (PySem.Str.ofString "told"))))
                                    (consA (lnM 3) (consA (lnM 4) (ret []))))))))
                          (asB
                            (bin2 (Mini.orM (p2 eqF) (gOwnEq (Txt.tab (tx r)) (Txt.eqm (tx r)))) (getv 7)
                              (unM
                                (mkM (PySem.Str.ofString "Paper") (Rs.ki r (PySem.Str.ofString "Paper"))
                                  (consA (vlM (ret (D.str (PySem.Str.ofString "tale"))))
                                    (consA (lnM 3) (consA (lnM 4) (ret [])))))))))))
                    (seqM (retM (ret (D.bl false))) fun e => R.ok Fl.nx e) fun e => R.ok Fl.nx e)
                  (seqM
                    (ifM
                      (orB
                        (asB
                          (bin2 (Mini.orM (p2 eqF) (gOwnEq (Txt.tab (tx r)) (Txt.eqm (tx r)))) (getv 7)
                            (unM
                              (mkM (PySem.Str.ofString "Paper") (Rs.ki r (PySem.Str.ofString "Paper"))
                                (consA (vlM (ret (D.str (PySem.Str.ofString "told")))) (consA (lnM 3) (ret [])))))))
                        (orB
                          (Mini.andM
                            (asB
                              (bin2 (Mini.orM (p2 eqF) (gOwnEq (Txt.tab (tx r)) (Txt.eqm (tx r)))) (getv 7)
                                (unM
                                  (mkM (PySem.Str.ofString "Paper") (Rs.ki r (PySem.Str.ofString "Paper"))
                                    (consA (vlM (ret (D.str (PySem.Str.ofString "told"))))
                                      (consA (lnM 4) (consA (lnM 3) (ret []))))))))
                            (Mini.andM
                              (asB
                                (bin2 (Mini.orM gNe (gOwnNe (Txt.tab (tx r)) (Txt.eqm (tx r))))
                                  (unM
                                    (shM
                                      (bltM (pB reprF)
                                        (consM
                                          (unM
                                            (callM (Rs.fn r (PySem.Str.ofString "_law_plain"))
                                              (consA (lnM 3) (ret []))))
                                          (ret [])))))
                                  (unM
                                    (shM
                                      (bltM (pB reprF)
                                        (consM
                                          (unM
                                            (callM (Rs.fn r (PySem.Str.ofString "_law_plain"))
                                              (consA (lnM 4) (ret []))))
                                          (ret [])))))))
                              (asB (bin2 (Mini.orM gNe (gOwnNe (Txt.tab (tx r)) (Txt.eqm (tx r)))) (getv 3) (getv 4)))))
                          (asB
                            (bin2 (Mini.orM (p2 eqF) (gOwnEq (Txt.tab (tx r)) (Txt.eqm (tx r)))) (getv 7)
                              (ret D.non)))))
                      (seqM (retM (ret (D.bl false))) fun e => R.ok Fl.nx e) fun e => R.ok Fl.nx e)
                    fun e => R.ok Fl.nx e))))))
def d_law : DefI := (defsL.getD 9 (dflt ())).2
def m_law (r : Rs) : MS :=
  seqM (setO (some 1) 1 (callM (Rs.fn r (PySem.Str.ofString "_law_pen")) (consA (lnM 0) (ret []))))
    (seqM
      (Mini.forM (range1M (consM (ret (D.int 4)) (ret []))) (put1 (some 1) 2)
        (m_lawT r))
      (seqM
        (retM
          (andV
            (bin2 (Mini.orM (p2 eqF) (gOwnEq (Txt.tab (tx r)) (Txt.eqm (tx r))))
              (unM
                (shM
                  (bltM (pB lenF)
                    (consM
                      (unM
                        (callM (Rs.fn r (PySem.Str.ofString "_law_all"))
                          (consA (vlM (unM (shM (exc0M (PySem.Str.ofString "Ended"))))) (ret []))))
                      (ret [])))))
              (ret (D.int 1)))
            (andV
              (bin2 (Mini.orM (p2 eqF) (gOwnEq (Txt.tab (tx r)) (Txt.eqm (tx r))))
                (unM
                  (shM
                    (bltM (pB lenF)
                      (consM
                        (unM
                          (callM (Rs.fn r (PySem.Str.ofString "_law_all"))
                            (consA (vlM (unM (shM (exc0M (PySem.Str.ofString "NoCalendar"))))) (ret []))))
                        (ret [])))))
                (ret (D.int 1)))
              (unM
                (shM
                  (bltM (pB (isiG (Txt.tab (tx r))))
                    (consM (unM (shM (exc0M (PySem.Str.ofString "NoCalendar"))))
                      (consM (ret (D.cls (PySem.Str.ofString "DaysError"))) (ret [])))))))))
        fun e => R.ok Fl.nx e))
theorem m_law_eq (r : Rs) : DefI.m (tx r) d_law = m_law r := by kernel_rfl
def d_initP : DefI := (initsL.getD 0 (dflt ())).2
def m_initP (r : Rs) : MS :=
  seqM (fldM (Txt.tab (tx r)) (PySem.Str.ofString "word") 0 (getv 1))
    (seqM
      (fldM (Txt.tab (tx r)) (PySem.Str.ofString "parts") 0
        (unM (callM (Rs.fn r (PySem.Str.ofString "plain")) (consA (lnM 2) (ret [])))))
      fun e => R.ok Fl.nx e)
theorem m_initP_eq (r : Rs) : DefI.m (tx r) d_initP = m_initP r := by kernel_rfl
def d_initD : DefI := (initsL.getD 1 (dflt ())).2
def m_initD (r : Rs) : MS :=
  seqM (fldM (Txt.tab (tx r)) (PySem.Str.ofString "word") 0 (getv 1))
    (seqM
      (fldM (Txt.tab (tx r)) (PySem.Str.ofString "parts") 0
        (unM (callM (Rs.fn r (PySem.Str.ofString "plain")) (consA (lnM 2) (ret [])))))
      fun e => R.ok Fl.nx e)
theorem m_initD_eq (r : Rs) : DefI.m (tx r) d_initD = m_initD r := by kernel_rfl
def d_eqP : DefI := (eqsL.getD 0 (dflt ())).2
def m_eqP (r : Rs) : MS :=
  seqM
    (ifM
      (orB
        (Mini.notM
          (asTG (gTru (Txt.bm (tx r)))
            (unM
              (shM
                (bltM (pB (isiG (Txt.tab (tx r))))
                  (consM (getv 1) (consM (ret (D.cls (PySem.Str.ofString "Paper"))) (ret []))))))))
        (asB
          (bin2 (Mini.orM gNe (gOwnNe (Txt.tab (tx r)) (Txt.eqm (tx r))))
            (nmM (Txt.nmf (tx r)) (clsM (Txt.tab (tx r)) (getv 0)))
            (nmM (Txt.nmf (tx r)) (clsM (Txt.tab (tx r)) (getv 1))))))
      (seqM (retM (ret (D.bl false))) fun e => R.ok Fl.nx e) fun e => R.ok Fl.nx e)
    (seqM
      (retM
        (unM
          (shM
            (bltM (pB boolF)
              (consM
                (andV
                  (bin2 (Mini.orM (p2 eqF) (gOwnEq (Txt.tab (tx r)) (Txt.eqm (tx r))))
                    (atM (Txt.tab (tx r)) (PySem.Str.ofString "word") (getv 0))
                    (atM (Txt.tab (tx r)) (PySem.Str.ofString "word") (getv 1)))
                  (bin2 (Mini.orM (p2 eqF) (gOwnEq (Txt.tab (tx r)) (Txt.eqm (tx r))))
                    (atM (Txt.tab (tx r)) (PySem.Str.ofString "parts") (getv 0))
                    (atM (Txt.tab (tx r)) (PySem.Str.ofString "parts") (getv 1))))
                (ret []))))))
      fun e => R.ok Fl.nx e)
theorem m_eqP_eq (r : Rs) : DefI.m (tx r) d_eqP = m_eqP r := by kernel_rfl
def d_eqD : DefI := (eqsL.getD 1 (dflt ())).2
def m_eqD (r : Rs) : MS :=
  seqM
    (ifM
      (orB
        (Mini.notM
          (asTG (gTru (Txt.bm (tx r)))
            (unM
              (shM
                (bltM (pB (isiG (Txt.tab (tx r))))
                  (consM (getv 1) (consM (ret (D.cls (PySem.Str.ofString "Paper"))) (ret []))))))))
        (asB
          (bin2 (Mini.orM gNe (gOwnNe (Txt.tab (tx r)) (Txt.eqm (tx r))))
            (nmM (Txt.nmf (tx r)) (clsM (Txt.tab (tx r)) (getv 0)))
            (nmM (Txt.nmf (tx r)) (clsM (Txt.tab (tx r)) (getv 1))))))
      (seqM (retM (ret (D.bl false))) fun e => R.ok Fl.nx e) fun e => R.ok Fl.nx e)
    (seqM
      (retM
        (unM
          (shM
            (bltM (pB boolF)
              (consM
                (andV
                  (bin2 (Mini.orM (p2 eqF) (gOwnEq (Txt.tab (tx r)) (Txt.eqm (tx r))))
                    (atM (Txt.tab (tx r)) (PySem.Str.ofString "word") (getv 0))
                    (atM (Txt.tab (tx r)) (PySem.Str.ofString "word") (getv 1)))
                  (bin2 (Mini.orM (p2 eqF) (gOwnEq (Txt.tab (tx r)) (Txt.eqm (tx r))))
                    (atM (Txt.tab (tx r)) (PySem.Str.ofString "parts") (getv 0))
                    (atM (Txt.tab (tx r)) (PySem.Str.ofString "parts") (getv 1))))
                (ret []))))))
      fun e => R.ok Fl.nx e)
theorem m_eqD_eq (r : Rs) : DefI.m (tx r) d_eqD = m_eqD r := by kernel_rfl
def d_boolP : DefI := (boolsL.getD 0 (dflt ())).2
def m_boolP (r : Rs) : MS :=
  seqM (retM (ret (D.bl true))) fun e => R.ok Fl.nx e
theorem m_boolP_eq (r : Rs) : DefI.m (tx r) d_boolP = m_boolP r := by kernel_rfl
def d_boolD : DefI := (boolsL.getD 1 (dflt ())).2
def m_boolD (r : Rs) : MS :=
  seqM (retM (ret (D.bl false))) fun e => R.ok Fl.nx e
theorem m_boolD_eq (r : Rs) : DefI.m (tx r) d_boolD = m_boolD r := by kernel_rfl
end K75
set_option maxHeartbeats 1000000
/-! k75: what the law's defs do, the draws and the values. -/
namespace K75
open PySem PySem.Spec PyProof.Rows L2 Mini
theorem runOf_some {l : List (PySem.Str × DefI)} {n : Nat} {x : PySem.Str} {d : DefI} (h : l.lookup x = some d) : runOf l (n + 1) x = d.run (tx (rs n)) := by
  unfold runOf
  rw [h, ← lv_tx]
theorem run_n {d : DefI} {T : Txt} {k : Nat} {n : Nat} {m : MS} (h1 : d.star = none) (h2 : d.ps.length = k) (h3 : d.N.length = n) (hm : d.m T = m) : d.run T = lenRun k (bodyRun n m) := by
  unfold DefI.run
  rw [h1, h2, h3, hm]
theorem rs_fn (n : Nat) : (rs n).fn = runOf defsL n := rfl
theorem fn_draw (n : Nat) : (rs (n + 1)).fn "_law_draw" = lenRun 2 (bodyRun 7 (mDraw (tx (rs n)).tab (tx (rs n)).eqm 30203 5003 1201 31003)) := by
  rw [rs_fn, runOf_some (d := d_draw) (by kernel_rfl)]
  exact run_n (by kernel_rfl) (by kernel_rfl) (by kernel_rfl) (m_draw_eq _)
theorem fn_value (n : Nat) : (rs (n + 1)).fn "_law_value" = lenRun 2 (bodyRun 5 (m_value (rs n))) := by
  rw [rs_fn, runOf_some (d := d_value) (by kernel_rfl)]
  exact run_n (by kernel_rfl) (by kernel_rfl) (by kernel_rfl) (m_value_eq _)
theorem draw (n : Nat) (ns : List Int) (a b m : Int) (ha : 0 ≤ a) (ha2 : a < 2 ^ 20) (hb : 0 ≤ b) (hm : 0 < m) (hm2 : m < 1073741824) :
    ∃ d a' b' e, (rs (n + 1)).fn "_law_draw" [.own (penD ns a b), .val (.int m)] = .ok (.sh (.int d)) (.own (penD ns a' b') :: e) ∧ 0 ≤ d ∧ d < m ∧ a ≤ a' ∧ a' ≤ a + 1 ∧ 0 ≤ b' := by
  rw [fn_draw]
  exact draw_run (by decide) ns a b m ha ha2 hb hm hm2
/-- how many draws a value takes at most -/
def C : Nat → Int
  | 0 => 3
  | n + 1 => 3 * C n + 2
theorem C_ge : ∀ n, 3 ≤ C n
  | 0 => by decide
  | n + 1 => by
    have := C_ge n
    simp only [C]
    omega
theorem kword (j : Int) (h1 : 0 ≤ j) (h2 : j < 9) : ∃ w x, strF [.int j] = some (.str w) ∧ sAdd (.str "word") (.str w) = some (.str x) ∧ x ∈ kwords := by
  refine ⟨((toString j : String) : PySem.Str), ("word" : PySem.Str) ++ ((toString j : String) : PySem.Str), ?_, ?_, ?_⟩
  · unfold strF
    dsimp only
    rw [if_pos (by omega)]
  · unfold sAdd
    dsimp only
    rw [if_pos]
    have : j = 0 ∨ j = 1 ∨ j = 2 ∨ j = 3 ∨ j = 4 ∨ j = 5 ∨ j = 6 ∨ j = 7 ∨ j = 8 := by omega
    rcases this with rfl | rfl | rfl | rfl | rfl | rfl | rfl | rfl | rfl <;> decide +kernel
  · have : j = 0 ∨ j = 1 ∨ j = 2 ∨ j = 3 ∨ j = 4 ∨ j = 5 ∨ j = 6 ∨ j = 7 ∨ j = 8 := by omega
    rcases this with rfl | rfl | rfl | rfl | rfl | rfl | rfl | rfl | rfl <;> decide +kernel
theorem ix5 (w x y z v : D) (i : Int) (h1 : 0 ≤ i) (h2 : i < 5) : ∃ d, ixD (.lst [w, x, y, z, v]) (.int i) = some d ∧ (d = w ∨ d = x ∨ d = y ∨ d = z ∨ d = v) := by
  have : i = 0 ∨ i = 1 ∨ i = 2 ∨ i = 3 ∨ i = 4 := by omega
  rcases this with rfl | rfl | rfl | rfl | rfl
  · exact ⟨_, rfl, .inl rfl⟩
  · exact ⟨_, rfl, .inr (.inl rfl)⟩
  · exact ⟨_, rfl, .inr (.inr (.inl rfl))⟩
  · exact ⟨_, rfl, .inr (.inr (.inr (.inl rfl)))⟩
  · exact ⟨_, rfl, .inr (.inr (.inr (.inr rfl)))⟩
def VOk (k : Nat) (r : Mini.Run) : Prop := ∀ (ns : List Int) (a b : Int), 0 ≤ a → a + C k < 2 ^ 20 → 0 ≤ b → ∃ d a' b' e, r [.own (penD ns a b), .val (.int k)] = .ok (.sh d) (.own (penD ns a' b') :: e) ∧ Vw (2 * k) d ∧ a ≤ a' ∧ a' ≤ a + C k ∧ 0 ≤ b'
/-- the small values -/
theorem value0 (n : Nat) (k : Nat) (ns : List Int) (a b : Int) (way a1 b1 : Int) (e1 : List Sl) (ha : 0 ≤ a1) (ha2 : a1 + 2 < 2 ^ 20) (hb : 0 ≤ b1)
    (h1 : (rs (n + 1)).fn "_law_draw" [.own (penD ns a b), .val (.int (if 0 < k then 8 else 5))] = .ok (.sh (.int way)) (.own (penD ns a1 b1) :: e1)) (w1 : 0 ≤ way) (hw : way < 5) :
    ∃ d a' b' e, (rs (n + 2)).fn "_law_value" [.own (penD ns a b), .val (.int k)] = .ok (.sh d) (.own (penD ns a' b') :: e) ∧ Vw (2 * k) d ∧ a1 ≤ a' ∧ a' ≤ a1 + 2 ∧ 0 ≤ b' := by
  rw [fn_value]
  obtain ⟨i, a2, b2, e2, h2, i1, i2, y1, y2, y3⟩ := draw n ns a1 b1 1000000 (by omega) (by omega) hb (by decide) (by decide)
  obtain ⟨j, a3, b3, e3, h3, j1, j2, z1, z2, z3⟩ := draw n ns a2 b2 9 (by omega) (by omega) y3 (by decide) (by decide)
  obtain ⟨w, w', k1, k2, k3⟩ := kword j j1 j2
  obtain ⟨d, hd, hd2⟩ := ix5 .non (.int (i - 500000)) (.str w') (.str "True") (.str "") way w1 hw
  have s10 : small 10 = true := by decide
  generalize hr : lenRun 2 (bodyRun 5 (m_value (rs (n + 1)))) [.own (penD ns a b), .val (.int k)] = rr
  have : ∃ e, rr = .ok (.sh d) (.own (penD ns a3 b3) :: e) := by
    by_cases hk : 0 < k
    · rw [if_pos hk] at h1
      simp [m_value, pad, List.replicate, enter, lents, leave, free, mayDrop, hk, h1, h2, h3, hw, LIM, k1, k2, Mini.i2, hd, s10] at hr
      exact ⟨_, hr.symm⟩
    · rw [if_neg hk] at h1
      simp [m_value, pad, List.replicate, enter, lents, leave, free, mayDrop, hk, h1, h2, h3, hw, LIM, k1, k2, Mini.i2, hd, s10] at hr
      exact ⟨_, hr.symm⟩
  obtain ⟨e, rfl⟩ := this
  refine ⟨d, a3, b3, _, rfl, ?_, by omega, by omega, z3⟩
  rcases hd2 with rfl | rfl | rfl | rfl | rfl
  · exact .non _
  · exact .int _ _ (by omega) (by omega)
  · exact .str _ _ k3
  · exact .str _ _ (by decide +kernel)
  · exact .str _ _ (by decide +kernel)
theorem vloop (r : Rs) (ns : List Int) (k : Nat) (w : D) (hV : ∀ a b : Int, 0 ≤ a → a + C k < 2 ^ 20 → 0 ≤ b → ∃ d a' b' e, r.fn "_law_value" [.own (penD ns a b), .val (.int k)] = .ok (.sh d) (.own (penD ns a' b') :: e) ∧ Vw (2 * k) d ∧ a ≤ a' ∧ a' ≤ a + C k ∧ 0 ≤ b') :
    ∀ (ds : List D) (acc : List D) (a b : Int) (x : Sl), 0 ≤ a → a + ds.length * C k < 2 ^ 20 → 0 ≤ b → acc.length + ds.length ≤ LIM →
    ∃ vs a' b' x', lcLoop [4] (put1 none 4) (ret true) (unM (callM (r.fn "_law_value") (consA (lnM 0) (consA (vlM (bin2 (gBin .Sub) (getv 1) (ret (.int 1)))) (ret []))))) ds acc [.own (penD ns a b), .val (.int ((k : Int) + 1)), .val w, .no, x] =
      .ok (acc ++ vs) [.own (penD ns a' b'), .val (.int ((k : Int) + 1)), .val w, .no, x'] ∧ vs.length = ds.length ∧ (∀ v ∈ vs, Vw (2 * k) v) ∧ a ≤ a' ∧ a' ≤ a + ds.length * C k ∧ 0 ≤ b'
  | [], acc, a, b, x, ha, ha2, hb, hl => ⟨[], a, b, x, by simp [lcLoop], rfl, by simp, by omega, by simp, hb⟩
  | d :: ds, acc, a, b, x, ha, ha2, hb, hl => by
    have hC := C_ge k
    have e : (((d :: ds).length : Nat) : Int) * C k = ds.length * C k + C k := by
      rw [List.length_cons, Int.natCast_succ, Int.add_mul, Int.one_mul]
    have p : 0 ≤ (ds.length : Int) * C k := Int.mul_nonneg (by omega) (by omega)
    rw [e] at ha2
    obtain ⟨v, a1, b1, e1, h1, v1, x1, x2, x3⟩ := hV a b ha (by omega) hb
    obtain ⟨vs, a2, b2, x', h2, l2, v2, y1, y2, y3⟩ := vloop r ns k w hV ds (acc ++ [v]) a1 b1 (.val d) (by omega) (by omega) x3 (by simp at hl ⊢; omega)
    have hk : ((k : Int) + 1 - 1) = k := by omega
    have hl2 : acc.length < LIM := by simp at hl; omega
    refine ⟨v :: vs, a2, b2, x', ?_, by simp [l2], by simpa using ⟨v1, v2⟩, by omega, by rw [e]; omega, y3⟩
    simp at h2
    simp [lcLoop, wipeE, put1, free, mayDrop, enter, lents, leave, Mini.i2, hk, h1, hl2, h2]
theorem ups_len (lo : Int) (n : Nat) : (ups lo n).length = n := by simp [ups]
theorem value_ok : ∀ (k n : Nat) (ns : List Int) (a b : Int), 0 ≤ a → a + C k < 2 ^ 20 → 0 ≤ b → ∃ d a' b' e, (rs (n + k + 2)).fn "_law_value" [.own (penD ns a b), .val (.int k)] = .ok (.sh d) (.own (penD ns a' b') :: e) ∧ Vw (2 * k) d ∧ a ≤ a' ∧ a' ≤ a + C k ∧ 0 ≤ b'
  | 0, n, ns, a, b, ha, ha2, hb => by
    have hC := C_ge 0
    obtain ⟨way, a1, b1, e1, h1, w1, w2, x1, x2, x3⟩ := draw n ns a b 5 ha (by omega) hb (by decide) (by decide)
    obtain ⟨d, a2, b2, e2, h2, v2, y1, y2, y3⟩ := value0 n 0 ns a b way a1 b1 e1 (by omega) (by omega) x3 h1 w1 w2
    exact ⟨d, a2, b2, e2, h2, v2, by omega, by omega, y3⟩
  | k + 1, n, ns, a, b, ha, ha2, hb => by
    have hC := C_ge k
    have hC1 : C (k + 1) = 3 * C k + 2 := rfl
    obtain ⟨way, a1, b1, e1, h1, w1, w2, x1, x2, x3⟩ := draw (n + k + 1) ns a b 8 ha (by omega) hb (by decide) (by decide)
    by_cases hw : way < 5
    · obtain ⟨d, a2, b2, e2, h2, v2, y1, y2, y3⟩ := value0 (n + k + 1) (k + 1) ns a b way a1 b1 e1 (by omega) (by omega) x3 (by rw [if_pos (by omega)]; exact h1) w1 hw
      exact ⟨d, a2, b2, e2, h2, v2, by omega, by omega, y3⟩
    · obtain ⟨m, a2, b2, e2, h2, m1, m2, y1, y2, y3⟩ := draw (n + k + 1) ns a1 b1 4 (by omega) (by omega) x3 (by decide) (by decide)
      obtain ⟨vs, a3, b3, x', h3, l3, v3, z1, z2, z3⟩ := vloop (rs (n + k + 2)) ns k (.int way) (value_ok k n ns) (ups 0 m.toNat) [] a2 b2 .no (by omega) (by
        rw [ups_len]
        have : ((m.toNat : Nat) : Int) * C k ≤ 3 * C k := Int.mul_le_mul_of_nonneg_right (by omega) (by omega)
        omega) y3 (by rw [ups_len]; simp [LIM]; omega)
      have z2' : a3 ≤ a2 + 3 * C k := by
        rw [ups_len] at z2
        have : ((m.toNat : Nat) : Int) * C k ≤ 3 * C k := Int.mul_le_mul_of_nonneg_right (by omega) (by omega)
        omega
      have l3' : vs.length ≤ 3 := by
        rw [l3, ups_len]
        omega
      have ht : tiny m = true := by
        unfold tiny
        simp
        omega
      have hT : ∀ (d : D), (d = .lst vs ∨ d = .tup vs ∨ d = .dct [(Sum.inr "key", .lst vs)]) → Vw (2 * (k + 1)) d := by
        rintro d (rfl | rfl | rfl)
        · exact (Vw.lst (2 * k) vs l3' v3).up (by omega)
        · exact (Vw.tup (2 * k) vs l3' v3).up (by omega)
        · exact Vw.dct (2 * k + 1) _ (Vw.lst (2 * k) vs l3' v3)
      show ∃ d a' b' e, (rs ((n + k + 1) + 2)).fn "_law_value" _ = _ ∧ _
      rw [fn_value]
      generalize hr : lenRun 2 (bodyRun 5 (m_value (rs (n + k + 1 + 1)))) [.own (penD ns a b), .val (.int ((k + 1 : Nat) : Int))] = rr
      have hk1 : (0 : Int) < (k : Int) + 1 := by omega
      have hww : way = 5 ∨ way = 6 ∨ way = 7 := by omega
      simp at h3
      rcases hww with rfl | rfl | rfl
      all_goals
        simp [m_value, pad, List.replicate, enter, lents, leave, free, mayDrop, LIM, hk1, h1, h2, ht, noOwn, h3, lcEnd, backE, tupF, keysD, eqF, plainD, depD, eqD] at hr
        subst hr
        exact ⟨_, a3, b3, _, rfl, hT _ (by simp), by omega, by omega, z3⟩
end K75
set_option maxHeartbeats 1000000
/-! k75: plain and _law_plain, which say the same. -/
namespace K75
open PySem PySem.Spec PyProof.Rows L2 Mini
theorem fn_plain (n : Nat) : (rs (n + 1)).fn "plain" = lenRun 1 (bodyRun 2 (m_plain (rs n))) := by
  rw [rs_fn, runOf_some (d := d_plain) (by kernel_rfl)]
  exact run_n (by kernel_rfl) (by kernel_rfl) (by kernel_rfl) (m_plain_eq _)
theorem fn_lplain (n : Nat) : (rs (n + 1)).fn "_law_plain" = lenRun 1 (bodyRun 2 (m_lplain (rs n))) := by
  rw [rs_fn, runOf_some (d := d_lplain) (by kernel_rfl)]
  exact run_n (by kernel_rfl) (by kernel_rfl) (by kernel_rfl) (m_lplain_eq _)
theorem isq_lst (r : Rs) (ds : List D) : isiG (tx r).tab [.lst ds, .tup [.typ "list", .typ "tuple"]] = some (.bl true) := by kernel_rfl
theorem isq_tup (r : Rs) (ds : List D) : isiG (tx r).tab [.tup ds, .tup [.typ "list", .typ "tuple"]] = some (.bl true) := by kernel_rfl
theorem isq_non (r : Rs) : isiG (tx r).tab [.non, .tup [.typ "list", .typ "tuple"]] = some (.bl false) := by kernel_rfl
theorem isq_int (r : Rs) (i : Int) : isiG (tx r).tab [.int i, .tup [.typ "list", .typ "tuple"]] = some (.bl false) := by kernel_rfl
theorem isq_str (r : Rs) (x : PySem.Str) : isiG (tx r).tab [.str x, .tup [.typ "list", .typ "tuple"]] = some (.bl false) := by kernel_rfl
theorem isq_dct (r : Rs) (x : List (Key × D)) : isiG (tx r).tab [.dct x, .tup [.typ "list", .typ "tuple"]] = some (.bl false) := by kernel_rfl
theorem ploop (f : Mini.Run) (d0 : Sl) : ∀ (ds acc : List D) (x : Sl), (∀ d ∈ ds, f [.val d] = .ok (.sh (plF d)) [.val d, .no]) → acc.length + ds.length ≤ LIM →
    ∃ x', lcLoop [1] (put1 none 1) (ret true) (unM (callM f (consA (lnM 1) (ret [])))) ds acc [d0, x] = .ok (acc ++ ds.map plF) [d0, x']
  | [], acc, x, _, _ => ⟨x, by simp [lcLoop]⟩
  | d :: ds, acc, x, h, hl => by
    obtain ⟨x', h2⟩ := ploop f d0 ds (acc ++ [plF d]) (.val d) (fun d hd => h d (List.mem_cons_of_mem _ hd)) (by simp at hl ⊢; omega)
    have h1 := h d (List.mem_cons_self ..)
    have hl2 : acc.length < LIM := by simp at hl; omega
    refine ⟨x', ?_⟩
    simp at h2
    simp [lcLoop, wipeE, put1, free, mayDrop, enter, lents, leave, h1, hl2, h2]
theorem plain_ok : ∀ (k n : Nat) (d : D), Vw k d → (rs (n + k + 1)).fn "plain" [.val d] = .ok (.sh (plF d)) [.val d, .no] := by
  intro k
  induction k with
  | zero =>
    intro n d h
    rw [fn_plain]
    cases h with
    | non => simp [m_plain, pad, List.replicate, LIM, isq_non, truD, plF]
    | int _ i => simp [m_plain, pad, List.replicate, LIM, isq_int, truD, plF]
    | str _ x => simp [m_plain, pad, List.replicate, LIM, isq_str, truD, plF]
  | succ k ih =>
    intro n d h
    show (rs ((n + k + 1) + 1)).fn _ _ = _
    rw [fn_plain]
    cases h with
    | non => simp [m_plain, pad, List.replicate, LIM, isq_non, truD, plF]
    | int _ i => simp [m_plain, pad, List.replicate, LIM, isq_int, truD, plF]
    | str _ x => simp [m_plain, pad, List.replicate, LIM, isq_str, truD, plF]
    | dct _ d h => simp [m_plain, pad, List.replicate, LIM, isq_dct, truD, plF]
    | lst _ ds h1 h2 =>
      obtain ⟨x', hp⟩ := ploop ((rs (n + k + 1)).fn "plain") (.val (.lst ds)) ds [] .no (fun d hd => ih n d (h2 d hd)) (by simp [LIM]; omega)
      simp at hp
      simp [m_plain, pad, List.replicate, LIM, isq_lst, truD, plF, plFs_map, itemsD, noOwn, hp, lcEnd, backE, tupF]
    | tup _ ds h1 h2 =>
      obtain ⟨x', hp⟩ := ploop ((rs (n + k + 1)).fn "plain") (.val (.tup ds)) ds [] .no (fun d hd => ih n d (h2 d hd)) (by simp [LIM]; omega)
      simp at hp
      simp [m_plain, pad, List.replicate, LIM, isq_tup, truD, plF, plFs_map, itemsD, noOwn, hp, lcEnd, backE, tupF]
theorem lplain_ok : ∀ (k n : Nat) (d : D), Vw k d → (rs (n + k + 1)).fn "_law_plain" [.val d] = .ok (.sh (plF d)) [.val d, .no] := by
  intro k
  induction k with
  | zero =>
    intro n d h
    rw [fn_lplain]
    cases h with
    | non => simp [m_lplain, pad, List.replicate, LIM, isq_non, truD, plF]
    | int _ i => simp [m_lplain, pad, List.replicate, LIM, isq_int, truD, plF]
    | str _ x => simp [m_lplain, pad, List.replicate, LIM, isq_str, truD, plF]
  | succ k ih =>
    intro n d h
    show (rs ((n + k + 1) + 1)).fn _ _ = _
    rw [fn_lplain]
    cases h with
    | non => simp [m_lplain, pad, List.replicate, LIM, isq_non, truD, plF]
    | int _ i => simp [m_lplain, pad, List.replicate, LIM, isq_int, truD, plF]
    | str _ x => simp [m_lplain, pad, List.replicate, LIM, isq_str, truD, plF]
    | dct _ d h => simp [m_lplain, pad, List.replicate, LIM, isq_dct, truD, plF]
    | lst _ ds h1 h2 =>
      obtain ⟨x', hp⟩ := ploop ((rs (n + k + 1)).fn "_law_plain") (.val (.lst ds)) ds [] .no (fun d hd => ih n d (h2 d hd)) (by simp [LIM]; omega)
      simp at hp
      simp [m_lplain, pad, List.replicate, LIM, isq_lst, truD, plF, plFs_map, itemsD, noOwn, hp, lcEnd, backE, tupF]
    | tup _ ds h1 h2 =>
      obtain ⟨x', hp⟩ := ploop ((rs (n + k + 1)).fn "_law_plain") (.val (.tup ds)) ds [] .no (fun d hd => ih n d (h2 d hd)) (by simp [LIM]; omega)
      simp at hp
      simp [m_lplain, pad, List.replicate, LIM, isq_tup, truD, plF, plFs_map, itemsD, noOwn, hp, lcEnd, backE, tupF]
end K75
set_option maxHeartbeats 1000000
/-! k75: the errors' facts (printed by gen_e75.py). -/
namespace K75
open PySem PySem.Spec PyProof.Rows L2 Mini
def txtOf : Expr → PySem.Str
  | .JoinedStr (.Constant (.str x) _ _ :: _) _ => x
  | _ => ""
/-- an error of one field, told behind a word -/
structure One (E : ErrD) (f : PySem.Str) : Prop where
  len : (txtOf E.arg).length ≤ 100
  m : E.m = fstrM (joinM (ret (.str (txtOf E.arg))) (joinM (fmtM (getv 1)) fun acc => ret acc))
  fs : E.fs = [(f, 1)]
  n : E.N.length = 2
theorem One.eR {E : ErrD} {f : PySem.Str} (h : One E f) {d : D} {t : PySem.Str} (ht : fmtD d = some t) (hl : t.length ≤ 100000) : E.i.eR [d] = some [(f, d)] := by
  unfold ErrD.i
  show (if 1 + 1 = E.N.length then errR E.m E.fs [d] else none) = _
  rw [if_pos h.n.symm, h.m, h.fs]
  have := h.len
  have e1 : PySem.Str.empty.length + (txtOf E.arg).length ≤ LIM := by
    have : PySem.Str.empty.length = 0 := rfl
    have : LIM = 1000000 := rfl
    omega
  have e2 : (PySem.Str.empty ++ txtOf E.arg).length + t.length ≤ LIM := by
    rw [strLen_append]
    have : PySem.Str.empty.length = 0 := rfl
    have : LIM = 1000000 := rfl
    omega
  simp [errR, ht, e1, e2, pick]

theorem one_0 : One ⟨"BadValue.__init__", defArgs (inClass (top 2) 0), defScope (inClass (top 2) 0), ["self", "part"], errArg (defBody (inClass (top 2) 0)), (defBody (inClass (top 2) 0)).tail, 12, [(["part"], [0])]⟩ "part" := ⟨by decide +kernel, by kernel_rfl, by kernel_rfl, by kernel_rfl⟩
theorem one_1 : One ⟨"BadNumber.__init__", defArgs (inClass (top 3) 0), defScope (inClass (top 3) 0), ["self", "part"], errArg (defBody (inClass (top 3) 0)), (defBody (inClass (top 3) 0)).tail, 12, [(["part"], [0])]⟩ "part" := ⟨by decide +kernel, by kernel_rfl, by kernel_rfl, by kernel_rfl⟩
theorem one_2 : One ⟨"BadName.__init__", defArgs (inClass (top 4) 0), defScope (inClass (top 4) 0), ["self", "part"], errArg (defBody (inClass (top 4) 0)), (defBody (inClass (top 4) 0)).tail, 12, [(["part"], [0])]⟩ "part" := ⟨by decide +kernel, by kernel_rfl, by kernel_rfl, by kernel_rfl⟩
theorem one_3 : One ⟨"BadNeed.__init__", defArgs (inClass (top 5) 0), defScope (inClass (top 5) 0), ["self", "part"], errArg (defBody (inClass (top 5) 0)), (defBody (inClass (top 5) 0)).tail, 12, [(["part"], [0])]⟩ "part" := ⟨by decide +kernel, by kernel_rfl, by kernel_rfl, by kernel_rfl⟩
theorem one_4 : One ⟨"BadDeed.__init__", defArgs (inClass (top 6) 0), defScope (inClass (top 6) 0), ["self", "part"], errArg (defBody (inClass (top 6) 0)), (defBody (inClass (top 6) 0)).tail, 12, [(["part"], [0])]⟩ "part" := ⟨by decide +kernel, by kernel_rfl, by kernel_rfl, by kernel_rfl⟩
theorem one_5 : One ⟨"BadHouse.__init__", defArgs (inClass (top 7) 0), defScope (inClass (top 7) 0), ["self", "part"], errArg (defBody (inClass (top 7) 0)), (defBody (inClass (top 7) 0)).tail, 12, [(["part"], [0])]⟩ "part" := ⟨by decide +kernel, by kernel_rfl, by kernel_rfl, by kernel_rfl⟩
theorem one_6 : One ⟨"BadState.__init__", defArgs (inClass (top 8) 0), defScope (inClass (top 8) 0), ["self", "part"], errArg (defBody (inClass (top 8) 0)), (defBody (inClass (top 8) 0)).tail, 12, [(["part"], [0])]⟩ "part" := ⟨by decide +kernel, by kernel_rfl, by kernel_rfl, by kernel_rfl⟩
theorem one_7 : One ⟨"BadWish.__init__", defArgs (inClass (top 9) 0), defScope (inClass (top 9) 0), ["self", "part"], errArg (defBody (inClass (top 9) 0)), (defBody (inClass (top 9) 0)).tail, 12, [(["part"], [0])]⟩ "part" := ⟨by decide +kernel, by kernel_rfl, by kernel_rfl, by kernel_rfl⟩
theorem one_8 : One ⟨"BadStand.__init__", defArgs (inClass (top 10) 0), defScope (inClass (top 10) 0), ["self", "part"], errArg (defBody (inClass (top 10) 0)), (defBody (inClass (top 10) 0)).tail, 12, [(["part"], [0])]⟩ "part" := ⟨by decide +kernel, by kernel_rfl, by kernel_rfl, by kernel_rfl⟩
theorem one_9 : One ⟨"BadCalendar.__init__", defArgs (inClass (top 11) 0), defScope (inClass (top 11) 0), ["self", "part"], errArg (defBody (inClass (top 11) 0)), (defBody (inClass (top 11) 0)).tail, 12, [(["part"], [0])]⟩ "part" := ⟨by decide +kernel, by kernel_rfl, by kernel_rfl, by kernel_rfl⟩
theorem one_10 : One ⟨"BadMachine.__init__", defArgs (inClass (top 12) 0), defScope (inClass (top 12) 0), ["self", "part"], errArg (defBody (inClass (top 12) 0)), (defBody (inClass (top 12) 0)).tail, 12, [(["part"], [0])]⟩ "part" := ⟨by decide +kernel, by kernel_rfl, by kernel_rfl, by kernel_rfl⟩
theorem one_11 : One ⟨"BadNumbers.__init__", defArgs (inClass (top 13) 0), defScope (inClass (top 13) 0), ["self", "part"], errArg (defBody (inClass (top 13) 0)), (defBody (inClass (top 13) 0)).tail, 12, [(["part"], [0])]⟩ "part" := ⟨by decide +kernel, by kernel_rfl, by kernel_rfl, by kernel_rfl⟩
theorem one_12 : One ⟨"BadAct.__init__", defArgs (inClass (top 14) 0), defScope (inClass (top 14) 0), ["self", "part"], errArg (defBody (inClass (top 14) 0)), (defBody (inClass (top 14) 0)).tail, 12, [(["part"], [0])]⟩ "part" := ⟨by decide +kernel, by kernel_rfl, by kernel_rfl, by kernel_rfl⟩
theorem one_13 : One ⟨"BadText.__init__", defArgs (inClass (top 15) 0), defScope (inClass (top 15) 0), ["self", "item"], errArg (defBody (inClass (top 15) 0)), (defBody (inClass (top 15) 0)).tail, 12, [(["item"], [0])]⟩ "item" := ⟨by decide +kernel, by kernel_rfl, by kernel_rfl, by kernel_rfl⟩
theorem one_14 : One ⟨"BadCommand.__init__", defArgs (inClass (top 16) 0), defScope (inClass (top 16) 0), ["self", "word"], errArg (defBody (inClass (top 16) 0)), (defBody (inClass (top 16) 0)).tail, 12, [(["word"], [0])]⟩ "word" := ⟨by decide +kernel, by kernel_rfl, by kernel_rfl, by kernel_rfl⟩
theorem one_15 : One ⟨"NoThing.__init__", defArgs (inClass (top 17) 0), defScope (inClass (top 17) 0), ["self", "name"], errArg (defBody (inClass (top 17) 0)), (defBody (inClass (top 17) 0)).tail, 12, [(["name"], [0])]⟩ "name" := ⟨by decide +kernel, by kernel_rfl, by kernel_rfl, by kernel_rfl⟩
theorem one_16 : One ⟨"NoKind.__init__", defArgs (inClass (top 18) 0), defScope (inClass (top 18) 0), ["self", "name"], errArg (defBody (inClass (top 18) 0)), (defBody (inClass (top 18) 0)).tail, 12, [(["name"], [0])]⟩ "name" := ⟨by decide +kernel, by kernel_rfl, by kernel_rfl, by kernel_rfl⟩
theorem one_17 : One ⟨"NoDeed.__init__", defArgs (inClass (top 19) 0), defScope (inClass (top 19) 0), ["self", "number"], errArg (defBody (inClass (top 19) 0)), (defBody (inClass (top 19) 0)).tail, 12, [(["number"], [0])]⟩ "number" := ⟨by decide +kernel, by kernel_rfl, by kernel_rfl, by kernel_rfl⟩
theorem one_18 : One ⟨"NotYours.__init__", defArgs (inClass (top 20) 0), defScope (inClass (top 20) 0), ["self", "deed"], errArg (defBody (inClass (top 20) 0)), (defBody (inClass (top 20) 0)).tail, 12, [(["deed"], [0])]⟩ "deed" := ⟨by decide +kernel, by kernel_rfl, by kernel_rfl, by kernel_rfl⟩
theorem one_19 : One ⟨"NotNow.__init__", defArgs (inClass (top 21) 0), defScope (inClass (top 21) 0), ["self", "deed"], errArg (defBody (inClass (top 21) 0)), (defBody (inClass (top 21) 0)).tail, 12, [(["deed"], [0])]⟩ "deed" := ⟨by decide +kernel, by kernel_rfl, by kernel_rfl, by kernel_rfl⟩
theorem one_20 : One ⟨"NotCarried.__init__", defArgs (inClass (top 22) 0), defScope (inClass (top 22) 0), ["self", "deed"], errArg (defBody (inClass (top 22) 0)), (defBody (inClass (top 22) 0)).tail, 12, [(["deed"], [0])]⟩ "deed" := ⟨by decide +kernel, by kernel_rfl, by kernel_rfl, by kernel_rfl⟩
theorem one_21 : One ⟨"NotWaiting.__init__", defArgs (inClass (top 23) 0), defScope (inClass (top 23) 0), ["self", "deed"], errArg (defBody (inClass (top 23) 0)), (defBody (inClass (top 23) 0)).tail, 12, [(["deed"], [0])]⟩ "deed" := ⟨by decide +kernel, by kernel_rfl, by kernel_rfl, by kernel_rfl⟩
theorem one_22 : One ⟨"Misfit.__init__", defArgs (inClass (top 24) 0), defScope (inClass (top 24) 0), ["self", "part"], errArg (defBody (inClass (top 24) 0)), (defBody (inClass (top 24) 0)).tail, 12, [(["part"], [0])]⟩ "part" := ⟨by decide +kernel, by kernel_rfl, by kernel_rfl, by kernel_rfl⟩
theorem two_m : ((⟨"TooMany.__init__", defArgs (inClass (top 25) 0), defScope (inClass (top 25) 0), ["self", "what", "most"], errArg (defBody (inClass (top 25) 0)), (defBody (inClass (top 25) 0)).tail, 12, [(["what", "most"], [0, 1]), (["most", "what"], [1, 0])]⟩ : ErrD)).m = fstrM (joinM (ret (.str "more than ")) (joinM (fmtM (getv 2)) (joinM (ret (.str " ")) (joinM (fmtM (getv 1)) fun acc => ret acc)))) := by kernel_rfl
theorem two_fs : ((⟨"TooMany.__init__", defArgs (inClass (top 25) 0), defScope (inClass (top 25) 0), ["self", "what", "most"], errArg (defBody (inClass (top 25) 0)), (defBody (inClass (top 25) 0)).tail, 12, [(["what", "most"], [0, 1]), (["most", "what"], [1, 0])]⟩ : ErrD)).fs = [(("what" : PySem.Str), 1), (("most" : PySem.Str), 2)] := by kernel_rfl
theorem two_eR {d e : D} {t u : PySem.Str} (ht : fmtD d = some t) (hl : t.length ≤ 100000) (hu : fmtD e = some u) (hl2 : u.length ≤ 100000) : ((⟨"TooMany.__init__", defArgs (inClass (top 25) 0), defScope (inClass (top 25) 0), ["self", "what", "most"], errArg (defBody (inClass (top 25) 0)), (defBody (inClass (top 25) 0)).tail, 12, [(["what", "most"], [0, 1]), (["most", "what"], [1, 0])]⟩ : ErrD)).i.eR [d, e] = some [(("most" : PySem.Str), e), (("what" : PySem.Str), d)] := by
  unfold ErrD.i
  show (if 2 + 1 = 3 then errR _ _ [d, e] else none) = _
  rw [if_pos rfl, two_m, two_fs]
  have k1 : ("more than " : PySem.Str).length = 10 := by decide +kernel
  have k2 : (" " : PySem.Str).length = 1 := by decide +kernel
  have k3 : PySem.Str.empty.length = 0 := rfl
  have k4 : LIM = 1000000 := rfl
  have e1 : PySem.Str.empty.length + ("more than " : PySem.Str).length ≤ LIM := by omega
  have e2 : (PySem.Str.empty ++ ("more than " : PySem.Str)).length + u.length ≤ LIM := by
    rw [strLen_append]; omega
  have e3 : ((PySem.Str.empty ++ ("more than " : PySem.Str)) ++ u).length + (" " : PySem.Str).length ≤ LIM := by
    rw [strLen_append, strLen_append]; omega
  have e4 : ((PySem.Str.empty ++ ("more than " : PySem.Str)) ++ u ++ (" " : PySem.Str)).length + t.length ≤ LIM := by
    rw [strLen_append, strLen_append, strLen_append]; omega
  have k5 : ¬ (("what" : PySem.Str) = "most") := by decide +kernel
  simp [errR, ht, hu, e1, e2, e3, e4, pick, putD, k5]
end K75
set_option maxHeartbeats 1000000
/-! k75: the row of errors, and each of them (printed by gen_r75.py). -/
namespace K75
open PySem PySem.Spec PyProof.Rows L2 Mini
def okV (r : R Rv) : Option D := match r with
  | .ok (.sh d) _ => some d
  | _ => none
theorem okV_ex {r : R Rv} {d : D} (h : okV r = some d) : ∃ e, r = .ok (.sh d) e := by
  unfold okV at h
  split at h
  · cases h
    exact ⟨_, rfl⟩
  · cases h
theorem fn_errors (n : Nat) : (rs (n + 1)).fn "_law_errors" = lenRun 2 (bodyRun 3 (m_errors (rs n))) := by
  rw [rs_fn, runOf_some (d := d_errors) (by kernel_rfl)]
  exact run_n (by kernel_rfl) (by kernel_rfl) (by kernel_rfl) (m_errors_eq _)
theorem fn_kept (n : Nat) : (rs (n + 1)).fn "_law_kept" = lenRun 2 (bodyRun 2 (m_kept (rs n))) := by
  rw [rs_fn, runOf_some (d := d_kept) (by kernel_rfl)]
  exact run_n (by kernel_rfl) (by kernel_rfl) (by kernel_rfl) (m_kept_eq _)
theorem fn_all (n : Nat) : (rs (n + 1)).fn "_law_all" = lenRun 1 (bodyRun 3 (m_all (rs n))) := by
  rw [rs_fn, runOf_some (d := d_all) (by kernel_rfl)]
  exact run_n (by kernel_rfl) (by kernel_rfl) (by kernel_rfl) (m_all_eq _)
/-- an error with the word by which it keeps the value -/
structure It where
  c : PySem.Str
  fs : List (PySem.Str × D)
  f : PySem.Str
def It.d (i : It) : D := .tup [.exc i.c i.fs, .str i.f]
structure ItOk (v m : D) (i : It) : Prop where
  all : ∀ r, okV (lenRun 1 (bodyRun 3 (m_all r)) [.val (.exc i.c i.fs)]) = some (.lst [.bl true])
  kept : ∀ r, okV (lenRun 2 (bodyRun 2 (m_kept r)) [.val (.exc i.c i.fs), .val (.str i.f)]) = some v
  d1 : ∀ r, isiG (tx r).tab [.exc i.c i.fs, .cls "DaysError"] = some (.bl true)
  d2 : ∀ r, isiG (tx r).tab [.exc i.c i.fs, .typ "ValueError"] = some (.bl true)
  tm : ∀ r, isiG (tx r).tab [.exc i.c i.fs, .cls "TooMany"] = some (.bl false) ∨ isiG (tx r).tab [.exc i.c i.fs, .cls "TooMany"] = some (.bl true) ∧ atD (tx r).tab "most" (.exc i.c i.fs) = some m
theorem it_BadValue (v m : D) : ItOk v m ⟨("BadValue" : PySem.Str), [(("part" : PySem.Str), v)], ("part" : PySem.Str)⟩ := ⟨fun r => by kernel_rfl, fun r => by kernel_rfl, fun r => by kernel_rfl, fun r => by kernel_rfl, fun r => .inl (by kernel_rfl)⟩
theorem it_BadNumber (v m : D) : ItOk v m ⟨("BadNumber" : PySem.Str), [(("part" : PySem.Str), v)], ("part" : PySem.Str)⟩ := ⟨fun r => by kernel_rfl, fun r => by kernel_rfl, fun r => by kernel_rfl, fun r => by kernel_rfl, fun r => .inl (by kernel_rfl)⟩
theorem it_BadName (v m : D) : ItOk v m ⟨("BadName" : PySem.Str), [(("part" : PySem.Str), v)], ("part" : PySem.Str)⟩ := ⟨fun r => by kernel_rfl, fun r => by kernel_rfl, fun r => by kernel_rfl, fun r => by kernel_rfl, fun r => .inl (by kernel_rfl)⟩
theorem it_BadNeed (v m : D) : ItOk v m ⟨("BadNeed" : PySem.Str), [(("part" : PySem.Str), v)], ("part" : PySem.Str)⟩ := ⟨fun r => by kernel_rfl, fun r => by kernel_rfl, fun r => by kernel_rfl, fun r => by kernel_rfl, fun r => .inl (by kernel_rfl)⟩
theorem it_BadDeed (v m : D) : ItOk v m ⟨("BadDeed" : PySem.Str), [(("part" : PySem.Str), v)], ("part" : PySem.Str)⟩ := ⟨fun r => by kernel_rfl, fun r => by kernel_rfl, fun r => by kernel_rfl, fun r => by kernel_rfl, fun r => .inl (by kernel_rfl)⟩
theorem it_BadHouse (v m : D) : ItOk v m ⟨("BadHouse" : PySem.Str), [(("part" : PySem.Str), v)], ("part" : PySem.Str)⟩ := ⟨fun r => by kernel_rfl, fun r => by kernel_rfl, fun r => by kernel_rfl, fun r => by kernel_rfl, fun r => .inl (by kernel_rfl)⟩
theorem it_BadState (v m : D) : ItOk v m ⟨("BadState" : PySem.Str), [(("part" : PySem.Str), v)], ("part" : PySem.Str)⟩ := ⟨fun r => by kernel_rfl, fun r => by kernel_rfl, fun r => by kernel_rfl, fun r => by kernel_rfl, fun r => .inl (by kernel_rfl)⟩
theorem it_BadWish (v m : D) : ItOk v m ⟨("BadWish" : PySem.Str), [(("part" : PySem.Str), v)], ("part" : PySem.Str)⟩ := ⟨fun r => by kernel_rfl, fun r => by kernel_rfl, fun r => by kernel_rfl, fun r => by kernel_rfl, fun r => .inl (by kernel_rfl)⟩
theorem it_BadStand (v m : D) : ItOk v m ⟨("BadStand" : PySem.Str), [(("part" : PySem.Str), v)], ("part" : PySem.Str)⟩ := ⟨fun r => by kernel_rfl, fun r => by kernel_rfl, fun r => by kernel_rfl, fun r => by kernel_rfl, fun r => .inl (by kernel_rfl)⟩
theorem it_BadCalendar (v m : D) : ItOk v m ⟨("BadCalendar" : PySem.Str), [(("part" : PySem.Str), v)], ("part" : PySem.Str)⟩ := ⟨fun r => by kernel_rfl, fun r => by kernel_rfl, fun r => by kernel_rfl, fun r => by kernel_rfl, fun r => .inl (by kernel_rfl)⟩
theorem it_BadMachine (v m : D) : ItOk v m ⟨("BadMachine" : PySem.Str), [(("part" : PySem.Str), v)], ("part" : PySem.Str)⟩ := ⟨fun r => by kernel_rfl, fun r => by kernel_rfl, fun r => by kernel_rfl, fun r => by kernel_rfl, fun r => .inl (by kernel_rfl)⟩
theorem it_BadNumbers (v m : D) : ItOk v m ⟨("BadNumbers" : PySem.Str), [(("part" : PySem.Str), v)], ("part" : PySem.Str)⟩ := ⟨fun r => by kernel_rfl, fun r => by kernel_rfl, fun r => by kernel_rfl, fun r => by kernel_rfl, fun r => .inl (by kernel_rfl)⟩
theorem it_BadAct (v m : D) : ItOk v m ⟨("BadAct" : PySem.Str), [(("part" : PySem.Str), v)], ("part" : PySem.Str)⟩ := ⟨fun r => by kernel_rfl, fun r => by kernel_rfl, fun r => by kernel_rfl, fun r => by kernel_rfl, fun r => .inl (by kernel_rfl)⟩
theorem it_BadText (v m : D) : ItOk v m ⟨("BadText" : PySem.Str), [(("item" : PySem.Str), v)], ("item" : PySem.Str)⟩ := ⟨fun r => by kernel_rfl, fun r => by kernel_rfl, fun r => by kernel_rfl, fun r => by kernel_rfl, fun r => .inl (by kernel_rfl)⟩
theorem it_BadCommand (v m : D) : ItOk v m ⟨("BadCommand" : PySem.Str), [(("word" : PySem.Str), v)], ("word" : PySem.Str)⟩ := ⟨fun r => by kernel_rfl, fun r => by kernel_rfl, fun r => by kernel_rfl, fun r => by kernel_rfl, fun r => .inl (by kernel_rfl)⟩
theorem it_NoThing (v m : D) : ItOk v m ⟨("NoThing" : PySem.Str), [(("name" : PySem.Str), v)], ("name" : PySem.Str)⟩ := ⟨fun r => by kernel_rfl, fun r => by kernel_rfl, fun r => by kernel_rfl, fun r => by kernel_rfl, fun r => .inl (by kernel_rfl)⟩
theorem it_NoKind (v m : D) : ItOk v m ⟨("NoKind" : PySem.Str), [(("name" : PySem.Str), v)], ("name" : PySem.Str)⟩ := ⟨fun r => by kernel_rfl, fun r => by kernel_rfl, fun r => by kernel_rfl, fun r => by kernel_rfl, fun r => .inl (by kernel_rfl)⟩
theorem it_NoDeed (v m : D) : ItOk v m ⟨("NoDeed" : PySem.Str), [(("number" : PySem.Str), v)], ("number" : PySem.Str)⟩ := ⟨fun r => by kernel_rfl, fun r => by kernel_rfl, fun r => by kernel_rfl, fun r => by kernel_rfl, fun r => .inl (by kernel_rfl)⟩
theorem it_NotYours (v m : D) : ItOk v m ⟨("NotYours" : PySem.Str), [(("deed" : PySem.Str), v)], ("deed" : PySem.Str)⟩ := ⟨fun r => by kernel_rfl, fun r => by kernel_rfl, fun r => by kernel_rfl, fun r => by kernel_rfl, fun r => .inl (by kernel_rfl)⟩
theorem it_NotNow (v m : D) : ItOk v m ⟨("NotNow" : PySem.Str), [(("deed" : PySem.Str), v)], ("deed" : PySem.Str)⟩ := ⟨fun r => by kernel_rfl, fun r => by kernel_rfl, fun r => by kernel_rfl, fun r => by kernel_rfl, fun r => .inl (by kernel_rfl)⟩
theorem it_NotCarried (v m : D) : ItOk v m ⟨("NotCarried" : PySem.Str), [(("deed" : PySem.Str), v)], ("deed" : PySem.Str)⟩ := ⟨fun r => by kernel_rfl, fun r => by kernel_rfl, fun r => by kernel_rfl, fun r => by kernel_rfl, fun r => .inl (by kernel_rfl)⟩
theorem it_NotWaiting (v m : D) : ItOk v m ⟨("NotWaiting" : PySem.Str), [(("deed" : PySem.Str), v)], ("deed" : PySem.Str)⟩ := ⟨fun r => by kernel_rfl, fun r => by kernel_rfl, fun r => by kernel_rfl, fun r => by kernel_rfl, fun r => .inl (by kernel_rfl)⟩
theorem it_Misfit (v m : D) : ItOk v m ⟨("Misfit" : PySem.Str), [(("part" : PySem.Str), v)], ("part" : PySem.Str)⟩ := ⟨fun r => by kernel_rfl, fun r => by kernel_rfl, fun r => by kernel_rfl, fun r => by kernel_rfl, fun r => .inl (by kernel_rfl)⟩
theorem it_TooMany (v m : D) : ItOk v m ⟨("TooMany" : PySem.Str), [(("most" : PySem.Str), m), (("what" : PySem.Str), v)], ("what" : PySem.Str)⟩ := ⟨fun r => by kernel_rfl, fun r => by kernel_rfl, fun r => by kernel_rfl, fun r => by kernel_rfl, fun r => .inr ⟨by kernel_rfl, by kernel_rfl⟩⟩
def errI (v m : D) : List It := [
  ⟨("BadValue" : PySem.Str), [(("part" : PySem.Str), v)], ("part" : PySem.Str)⟩,
  ⟨("BadNumber" : PySem.Str), [(("part" : PySem.Str), v)], ("part" : PySem.Str)⟩,
  ⟨("BadName" : PySem.Str), [(("part" : PySem.Str), v)], ("part" : PySem.Str)⟩,
  ⟨("BadNeed" : PySem.Str), [(("part" : PySem.Str), v)], ("part" : PySem.Str)⟩,
  ⟨("BadDeed" : PySem.Str), [(("part" : PySem.Str), v)], ("part" : PySem.Str)⟩,
  ⟨("BadHouse" : PySem.Str), [(("part" : PySem.Str), v)], ("part" : PySem.Str)⟩,
  ⟨("BadState" : PySem.Str), [(("part" : PySem.Str), v)], ("part" : PySem.Str)⟩,
  ⟨("BadWish" : PySem.Str), [(("part" : PySem.Str), v)], ("part" : PySem.Str)⟩,
  ⟨("BadStand" : PySem.Str), [(("part" : PySem.Str), v)], ("part" : PySem.Str)⟩,
  ⟨("BadCalendar" : PySem.Str), [(("part" : PySem.Str), v)], ("part" : PySem.Str)⟩,
  ⟨("BadMachine" : PySem.Str), [(("part" : PySem.Str), v)], ("part" : PySem.Str)⟩,
  ⟨("BadNumbers" : PySem.Str), [(("part" : PySem.Str), v)], ("part" : PySem.Str)⟩,
  ⟨("BadAct" : PySem.Str), [(("part" : PySem.Str), v)], ("part" : PySem.Str)⟩,
  ⟨("BadText" : PySem.Str), [(("item" : PySem.Str), v)], ("item" : PySem.Str)⟩,
  ⟨("BadText" : PySem.Str), [(("item" : PySem.Str), v)], ("item" : PySem.Str)⟩,
  ⟨("BadCommand" : PySem.Str), [(("word" : PySem.Str), v)], ("word" : PySem.Str)⟩,
  ⟨("NoThing" : PySem.Str), [(("name" : PySem.Str), v)], ("name" : PySem.Str)⟩,
  ⟨("NoKind" : PySem.Str), [(("name" : PySem.Str), v)], ("name" : PySem.Str)⟩,
  ⟨("NoDeed" : PySem.Str), [(("number" : PySem.Str), v)], ("number" : PySem.Str)⟩,
  ⟨("NotYours" : PySem.Str), [(("deed" : PySem.Str), v)], ("deed" : PySem.Str)⟩,
  ⟨("NotNow" : PySem.Str), [(("deed" : PySem.Str), v)], ("deed" : PySem.Str)⟩,
  ⟨("NotCarried" : PySem.Str), [(("deed" : PySem.Str), v)], ("deed" : PySem.Str)⟩,
  ⟨("NotWaiting" : PySem.Str), [(("deed" : PySem.Str), v)], ("deed" : PySem.Str)⟩,
  ⟨("Misfit" : PySem.Str), [(("part" : PySem.Str), v)], ("part" : PySem.Str)⟩,
  ⟨("TooMany" : PySem.Str), [(("most" : PySem.Str), m), (("what" : PySem.Str), v)], ("what" : PySem.Str)⟩,
  ⟨("TooMany" : PySem.Str), [(("most" : PySem.Str), m), (("what" : PySem.Str), v)], ("what" : PySem.Str)⟩]
theorem errI_ok (v m : D) : ∀ i ∈ errI v m, ItOk v m i := by
  intro i hi
  simp only [errI, List.mem_cons, List.not_mem_nil, or_false] at hi
  rcases hi with rfl | rfl | rfl | rfl | rfl | rfl | rfl | rfl | rfl | rfl | rfl | rfl | rfl | rfl | rfl | rfl | rfl | rfl | rfl | rfl | rfl | rfl | rfl | rfl | rfl | rfl
  · exact it_BadValue v m
  · exact it_BadNumber v m
  · exact it_BadName v m
  · exact it_BadNeed v m
  · exact it_BadDeed v m
  · exact it_BadHouse v m
  · exact it_BadState v m
  · exact it_BadWish v m
  · exact it_BadStand v m
  · exact it_BadCalendar v m
  · exact it_BadMachine v m
  · exact it_BadNumbers v m
  · exact it_BadAct v m
  · exact it_BadText v m
  · exact it_BadText v m
  · exact it_BadCommand v m
  · exact it_NoThing v m
  · exact it_NoKind v m
  · exact it_NoDeed v m
  · exact it_NotYours v m
  · exact it_NotNow v m
  · exact it_NotCarried v m
  · exact it_NotWaiting v m
  · exact it_Misfit v m
  · exact it_TooMany v m
  · exact it_TooMany v m
theorem errors_ok (n : Nat) (v m : D) (t u : PySem.Str) (ht : fmtD v = some t) (hl : t.length ≤ 100000) (hu : fmtD m = some u) (hl2 : u.length ≤ 100000) :
    ∃ e, (rs (n + 1)).fn "_law_errors" [.val v, .val m] = .ok (.sh (.lst ((errI v m).map It.d))) e := by
  rw [fn_errors]
  generalize hr : lenRun 2 (bodyRun 3 (m_errors (rs n))) [.val v, .val m] = rr
  simp [m_errors, pad, List.replicate, Mini.i2, free, mayDrop, LIM, lAdd, sAdd, sel, two_eR ht hl hu hl2, (one_0).eR ht hl, (one_1).eR ht hl, (one_2).eR ht hl, (one_3).eR ht hl, (one_4).eR ht hl, (one_5).eR ht hl, (one_6).eR ht hl, (one_7).eR ht hl, (one_8).eR ht hl, (one_9).eR ht hl, (one_10).eR ht hl, (one_11).eR ht hl, (one_12).eR ht hl, (one_13).eR ht hl, (one_14).eR ht hl, (one_15).eR ht hl, (one_16).eR ht hl, (one_17).eR ht hl, (one_18).eR ht hl, (one_19).eR ht hl, (one_20).eR ht hl, (one_21).eR ht hl, (one_22).eR ht hl] at hr
  subst hr
  exact ⟨_, rfl⟩
end K75
set_option maxHeartbeats 1000000
/-! k75: papers and denials. -/
namespace K75
open PySem PySem.Spec PyProof.Rows L2 Mini
theorem run_s {d : DefI} {T : Txt} {k : Nat} {n : Nat} {m : MS} {v : PySem.Str} (h1 : d.star = some v) (h2 : d.ps.length = k) (h3 : d.N.length = n) (hm : d.m T = m) : d.run T = starRun k (bodyRun n m) := by
  unfold DefI.run
  rw [h1, h2, h3, hm]
theorem ki_P (n : Nat) : (rs (n + 1)).ki "Paper" = starRun 2 (bodyRun 3 (m_initP (rs n))) := by
  rw [show (rs (n + 1)).ki = runOf initsL (n + 1) from rfl, runOf_some (d := d_initP) (by kernel_rfl)]
  exact run_s (v := "parts") (by kernel_rfl) (by kernel_rfl) (by kernel_rfl) (m_initP_eq _)
theorem ki_D (n : Nat) : (rs (n + 1)).ki "Denial" = starRun 2 (bodyRun 3 (m_initD (rs n))) := by
  rw [show (rs (n + 1)).ki = runOf initsL (n + 1) from rfl, runOf_some (d := d_initD) (by kernel_rfl)]
  exact run_s (v := "parts") (by kernel_rfl) (by kernel_rfl) (by kernel_rfl) (m_initD_eq _)
theorem eq_P (n : Nat) : (rs (n + 1)).eq "Paper" = lenRun 2 (bodyRun 2 (m_eqP (rs n))) := by
  rw [show (rs (n + 1)).eq = runOf eqsL (n + 1) from rfl, runOf_some (d := d_eqP) (by kernel_rfl)]
  exact run_n (by kernel_rfl) (by kernel_rfl) (by kernel_rfl) (m_eqP_eq _)
theorem eq_D (n : Nat) : (rs (n + 1)).eq "Denial" = lenRun 2 (bodyRun 2 (m_eqD (rs n))) := by
  rw [show (rs (n + 1)).eq = runOf eqsL (n + 1) from rfl, runOf_some (d := d_eqD) (by kernel_rfl)]
  exact run_n (by kernel_rfl) (by kernel_rfl) (by kernel_rfl) (m_eqD_eq _)
theorem bo_P (n : Nat) : (rs (n + 1)).bo "Paper" = lenRun 1 (bodyRun 1 (m_boolP (rs n))) := by
  rw [show (rs (n + 1)).bo = runOf boolsL (n + 1) from rfl, runOf_some (d := d_boolP) (by kernel_rfl)]
  exact run_n (by kernel_rfl) (by kernel_rfl) (by kernel_rfl) (m_boolP_eq _)
theorem bo_D (n : Nat) : (rs (n + 1)).bo "Denial" = lenRun 1 (bodyRun 1 (m_boolD (rs n))) := by
  rw [show (rs (n + 1)).bo = runOf boolsL (n + 1) from rfl, runOf_some (d := d_boolD) (by kernel_rfl)]
  exact run_n (by kernel_rfl) (by kernel_rfl) (by kernel_rfl) (m_boolD_eq _)
/-! the tables -/
abbrev cP : PySem.Str := "Paper"
abbrev cD : PySem.Str := "Denial"
theorem fld_Pw (r : Rs) : (tx r).tab.fld "Paper" "word" = true := by kernel_rfl
theorem fld_Pp (r : Rs) : (tx r).tab.fld "Paper" "parts" = true := by kernel_rfl
theorem fld_Dw (r : Rs) : (tx r).tab.fld "Denial" "word" = true := by kernel_rfl
theorem fld_Dp (r : Rs) : (tx r).tab.fld "Denial" "parts" = true := by kernel_rfl
theorem pl_P (r : Rs) : (tx r).tab.pl "Paper" = true := by kernel_rfl
theorem pl_D (r : Rs) : (tx r).tab.pl "Denial" = true := by kernel_rfl
theorem nm_P (r : Rs) : (tx r).nmf "Paper" = some "Paper" := by kernel_rfl
theorem nm_D (r : Rs) : (tx r).nmf "Denial" = some "Denial" := by kernel_rfl
theorem bm_P (r : Rs) : (tx r).bm "Paper" = some (r.bo "Paper") := by kernel_rfl
theorem bm_D (r : Rs) : (tx r).bm "Denial" = some (r.bo "Denial") := by kernel_rfl
theorem em_P (r : Rs) : (tx r).eqm "Paper" = some (r.eq "Paper") := by kernel_rfl
theorem em_D (r : Rs) : (tx r).eqm "Denial" = some (r.eq "Denial") := by kernel_rfl
theorem is_PP (r : Rs) (fs) : isiG (tx r).tab [.ins "Paper" fs, .cls "Paper"] = some (.bl true) := by kernel_rfl
theorem is_DP (r : Rs) (fs) : isiG (tx r).tab [.ins "Denial" fs, .cls "Paper"] = some (.bl true) := by kernel_rfl
theorem is_PD (r : Rs) (fs) : isiG (tx r).tab [.ins "Paper" fs, .cls "Denial"] = some (.bl false) := by kernel_rfl
theorem is_nP (r : Rs) : isiG (tx r).tab [.non, .cls "Paper"] = some (.bl false) := by kernel_rfl
theorem lef_PP (r : Rs) (fs gs) : lefR (tx r).tab (tx r).eqm (.ins "Paper" fs) (.ins "Paper" gs) = some (r.eq "Paper") := by kernel_rfl
theorem lef_DD (r : Rs) (fs gs) : lefR (tx r).tab (tx r).eqm (.ins "Denial" fs) (.ins "Denial" gs) = some (r.eq "Denial") := by kernel_rfl
theorem lef_Pn (r : Rs) (fs) : lefR (tx r).tab (tx r).eqm (.ins "Paper" fs) .non = some (r.eq "Paper") := by kernel_rfl
theorem lef_PD (r : Rs) (fs gs) : lefR (tx r).tab (tx r).eqm (.ins "Paper" fs) (.ins "Denial" gs) = none := by kernel_rfl
theorem rig_PD (r : Rs) (fs gs) : rigR (tx r).tab (tx r).eqm (.ins "Paper" fs) (.ins "Denial" gs) = some (r.eq "Denial") := by kernel_rfl
theorem neS_PP : neS (.str "Paper") (.str "Paper") = some (.bl false) := by kernel_rfl
theorem neS_DD : neS (.str "Denial") (.str "Denial") = some (.bl false) := by kernel_rfl
theorem neS_DP : neS (.str "Denial") (.str "Paper") = some (.bl true) := by kernel_rfl
theorem neS_ins (c e fs gs) : neS (.ins c fs) (.ins e gs) = none := rfl
theorem eqF_tt : eqF (.str "told") (.str "told") = some (.bl true) := by kernel_rfl
theorem eqF_tl : eqF (.str "told") (.str "tale") = some (.bl false) := by kernel_rfl
theorem eqF_ins (c fs) (d : D) : eqF (.ins c fs) d = none := by
  unfold eqF
  rw [if_neg]
  rintro ⟨h, _⟩
  cases h
theorem neF_ins (c fs) (d : D) : neF (.ins c fs) d = none := by
  unfold neF
  rw [if_neg]
  rintro ⟨h, _⟩
  cases h
theorem neq_wp : ¬ (("word" : PySem.Str) = "parts") := by decide +kernel
theorem neq_wp2 : (("parts" : PySem.Str) == "word") = false := by decide +kernel
theorem vals_map : ∀ ds : List D, vals (ds.map .val) = some ds
  | [] => rfl
  | d :: ds => by simp [vals, vals_map ds]
def pap (c w : PySem.Str) (p : D) : D := .ins c [("word", .str w), ("parts", p)]
theorem init_P (n k : Nat) (w : PySem.Str) (ds : List D) (h : Vw k (.tup ds)) (hl : ds.length ≤ 3) : ∃ e, (rs (n + k + 2)).ki "Paper" (.own (.ins "Paper" []) :: .val (.str w) :: ds.map .val) = .ok (.sh .non) (.own (pap "Paper" w (plF (.tup ds))) :: e) := by
  show ∃ e, (rs ((n + k + 1) + 1)).ki _ _ = _
  rw [ki_P]
  have hp := plain_ok k n _ h
  have hl2 : ds.length + 2 ≤ LIM := by simp [LIM]; omega
  generalize hr : starRun 2 (bodyRun 3 (m_initP (rs (n + k + 1)))) (.own (.ins "Paper" []) :: .val (.str w) :: ds.map .val) = rr
  simp [m_initP, pad, List.replicate, vals_map, hl2, fld_Pw, fld_Pp, putD, neq_wp, enter, lents, leave, hp] at hr
  subst hr
  exact ⟨_, rfl⟩
theorem init_D (n k : Nat) (w : PySem.Str) (ds : List D) (h : Vw k (.tup ds)) (hl : ds.length ≤ 3) : ∃ e, (rs (n + k + 2)).ki "Denial" (.own (.ins "Denial" []) :: .val (.str w) :: ds.map .val) = .ok (.sh .non) (.own (pap "Denial" w (plF (.tup ds))) :: e) := by
  show ∃ e, (rs ((n + k + 1) + 1)).ki _ _ = _
  rw [ki_D]
  have hp := plain_ok k n _ h
  have hl2 : ds.length + 2 ≤ LIM := by simp [LIM]; omega
  generalize hr : starRun 2 (bodyRun 3 (m_initD (rs (n + k + 1)))) (.own (.ins "Denial" []) :: .val (.str w) :: ds.map .val) = rr
  simp [m_initD, pad, List.replicate, vals_map, hl2, fld_Dw, fld_Dp, putD, neq_wp, enter, lents, leave, hp] at hr
  subst hr
  exact ⟨_, rfl⟩
theorem eqs_P (n : Nat) (w : PySem.Str) (p q : D) (a b : Bool) (hw : eqF (.str "told") (.str w) = some (.bl a)) (hp : eqF p q = some (.bl b)) : ∃ e, (rs (n + 1)).eq "Paper" [.val (pap "Paper" "told" p), .val (pap "Paper" w q)] = .ok (.sh (.bl (a && b))) e := by
  rw [eq_P]
  generalize hr : lenRun 2 (bodyRun 2 (m_eqP (rs n))) [.val (pap "Paper" "told" p), .val (pap "Paper" w q)] = rr
  cases a <;> simp [m_eqP, pap, pad, List.replicate, truD, is_PP, pl_P, nm_P, neS_PP, atD, fld_Pw, fld_Pp, List.lookup, neq_wp2, hw, hp, boolF] at hr
  all_goals
    subst hr
    exact ⟨_, rfl⟩
theorem eqs_D (n : Nat) (p q : D) (b : Bool) (hp : eqF p q = some (.bl b)) : ∃ e, (rs (n + 1)).eq "Denial" [.val (pap "Denial" "told" p), .val (pap "Denial" "told" q)] = .ok (.sh (.bl b)) e := by
  rw [eq_D]
  generalize hr : lenRun 2 (bodyRun 2 (m_eqD (rs n))) [.val (pap "Denial" "told" p), .val (pap "Denial" "told" q)] = rr
  simp [m_eqD, pap, pad, List.replicate, truD, is_DP, pl_D, nm_D, neS_DD, atD, fld_Dw, fld_Dp, List.lookup, neq_wp2, eqF_tt, hp, boolF] at hr
  subst hr
  exact ⟨_, rfl⟩
theorem eqs_DP (n : Nat) (p q : D) : ∃ e, (rs (n + 1)).eq "Denial" [.val (pap "Denial" "told" p), .val (pap "Paper" "told" q)] = .ok (.sh (.bl false)) e := by
  rw [eq_D]
  generalize hr : lenRun 2 (bodyRun 2 (m_eqD (rs n))) [.val (pap "Denial" "told" p), .val (pap "Paper" "told" q)] = rr
  simp [m_eqD, pap, pad, List.replicate, truD, is_PP, pl_D, pl_P, nm_D, nm_P, neS_DP] at hr
  subst hr
  exact ⟨_, rfl⟩
theorem eqs_Pn (n : Nat) (p : D) : ∃ e, (rs (n + 1)).eq "Paper" [.val (pap "Paper" "told" p), .val .non] = .ok (.sh (.bl false)) e := by
  rw [eq_P]
  generalize hr : lenRun 2 (bodyRun 2 (m_eqP (rs n))) [.val (pap "Paper" "told" p), .val .non] = rr
  simp [m_eqP, pap, pad, List.replicate, truD, is_nP] at hr
  subst hr
  exact ⟨_, rfl⟩
theorem bos_P (n : Nat) (d : D) : ∃ e, (rs (n + 1)).bo "Paper" [.val d] = .ok (.sh (.bl true)) e := by
  rw [bo_P]
  exact ⟨[.val d], by kernel_rfl⟩
theorem bos_D (n : Nat) (d : D) : ∃ e, (rs (n + 1)).bo "Denial" [.val d] = .ok (.sh (.bl false)) e := by
  rw [bo_D]
  exact ⟨[.val d], by kernel_rfl⟩
end K75
set_option maxHeartbeats 2000000
/-! k75: the law itself. -/
namespace K75
open PySem PySem.Spec PyProof.Rows L2 Mini
theorem cut63 {α : Type} (l : List α) (h : l.length ≤ 63) : Mini.cutD l none (some 63) = l := by
  show (l.drop 0).take (min (63 : Int).toNat l.length - 0) = l
  rw [List.drop_zero]
  exact List.take_of_length_le (by
    have : (63 : Int).toNat = 63 := rfl
    omega)
theorem fn_pen (n : Nat) : (rs (n + 1)).fn "_law_pen" = lenRun 1 (bodyRun 1 (m_pen (rs n))) := by
  rw [rs_fn, runOf_some (d := d_pen) (by kernel_rfl)]
  exact run_n (by kernel_rfl) (by kernel_rfl) (by kernel_rfl) (m_pen_eq _)
theorem pen_ok (n : Nat) (ns : List Int) (h : ns.length ≤ 63) : ∃ e, (rs (n + 1)).fn "_law_pen" [.val (.scr ns)] = .ok (.ow (penD ns 0 0)) e := by
  rw [fn_pen]
  generalize hr : lenRun 1 (bodyRun 1 (m_pen (rs n))) [.val (.scr ns)] = rr
  simp [m_pen, pad, List.replicate, slD, cut63 ns h, listF, LIM] at hr
  subst hr
  exact ⟨_, rfl⟩
/-- one turn of the inner loop -/
theorem inner_ok (n : Nat) (v m : D) (i : It) (h : ItOk v m i) (t u : PySem.Str) (ht : reprD v = some t) (hu : reprD m = some u) (s0 s1 s2 s7 s8 : Sl) :
    m_lawI (rs (n + 1)) [s0, s1, s2, .val v, .val m, .val (.exc i.c i.fs), .val (.str i.f), s7, s8] = .ok .nx [s0, s1, s2, .val v, .val m, .val (.exc i.c i.fs), .val (.str i.f), s7, s8] := by
  obtain ⟨e1, h1⟩ := okV_ex (h.all (rs n))
  obtain ⟨e2, h2⟩ := okV_ex (h.kept (rs n))
  rw [← fn_all] at h1
  rw [← fn_kept] at h2
  have h3 := h.d1 (rs (n + 1))
  have h4 := h.d2 (rs (n + 1))
  rcases h.tm (rs (n + 1)) with h5 | ⟨h5, h6⟩
  · simp [m_lawI, enter, lents, leave, h1, h2, h3, h4, h5, truD, lenF, neS, reprF, ht]
  · simp [m_lawI, enter, lents, leave, h1, h2, h3, h4, h5, h6, truD, lenF, neS, reprF, ht, hu]
theorem inner_loop (n : Nat) (v m : D) (t u : PySem.Str) (ht : reprD v = some t) (hu : reprD m = some u) (s0 s1 s2 s7 s8 : Sl) : ∀ (is : List It) (s5 s6 : Sl), (∀ i ∈ is, ItOk v m i) →
    ∃ s5' s6', loopM (putT (some 1) [5, 6]) (m_lawI (rs (n + 1))) (is.map It.d) [s0, s1, s2, .val v, .val m, s5, s6, s7, s8] = .ok .nx [s0, s1, s2, .val v, .val m, s5', s6', s7, s8]
  | [], s5, s6, _ => ⟨s5, s6, rfl⟩
  | i :: is, s5, s6, h => by
    obtain ⟨a, b, hr⟩ := inner_loop n v m t u ht hu s0 s1 s2 s7 s8 is (.val (.exc i.c i.fs)) (.val (.str i.f)) fun i hi => h i (List.mem_cons_of_mem _ hi)
    refine ⟨a, b, ?_⟩
    have h1 := inner_ok n v m i (h i (List.mem_cons_self ..)) t u ht hu s0 s1 s2 s7 s8
    have h5 : free (some 1) 5 [s0, s1, s2, .val v, .val m, s5, s6, s7, s8] = true := by
      unfold free
      cases s5 <;> rfl
    have h6 : free (some 1) 6 [s0, s1, s2, .val v, .val m, .val (.exc i.c i.fs), s6, s7, s8] = true := by
      unfold free
      cases s6 <;> rfl
    simp only [List.map_cons, loopM, It.d, putT, Mini.putAll, h5, h6, if_true, List.set, h1]
    exact hr
theorem eqF_vw {n m : Nat} {d e : D} (h : Vw n d) (g : Vw m e) (k : n ≤ 60) : eqF d e = some (.bl (eqD d e)) := by
  unfold eqF
  have := h.plain.2
  rw [if_pos ⟨h.plain.1, g.plain.1, by omega⟩]
/-- a slot that may be set -/
theorem fr {i : Nat} {e : En} (h : 1 ≤ i) (hl : i < e.length) : free (some 1) i e = true := by
  unfold free
  rw [decide_eq_true hl]
  split
  · exact decide_eq_true h
  · rfl
/-- one turn of the law's loop -/
theorem turn_ok (ns : List Int) (a b : Int) (ha : 0 ≤ a) (ha2 : a + 200 < 2 ^ 20) (hb : 0 ≤ b) (s0 s2 s3 s4 s5 s6 s7 s8 : Sl) :
    ∃ a' b' s2' s3' s4' s5' s6' s7' s8', m_lawT (rs 13) [s0, .own (penD ns a b), s2, s3, s4, s5, s6, s7, s8] = .ok .nx [s0, .own (penD ns a' b'), s2', s3', s4', s5', s6', s7', s8'] ∧ a ≤ a' ∧ a' ≤ a + 200 ∧ 0 ≤ b' := by
  have c3 : C 3 = 107 := by decide
  have c2 : C 2 = 35 := by decide
  obtain ⟨v, a1, b1, e1, h1, v1, x1, x2, x3⟩ := value_ok 3 8 ns a b ha (by omega) hb
  obtain ⟨m, a2, b2, e2, h2, m1, y1, y2, y3⟩ := value_ok 2 9 ns a1 b1 (by omega) (by omega) x3
  have v6 : Vw 6 v := v1
  have m6 : Vw 6 m := m1.up (by omega)
  obtain ⟨t, ht⟩ := v6.repr (by omega)
  obtain ⟨u, hu⟩ := m6.repr (by omega)
  obtain ⟨t', ht', htl⟩ := v6.fmt (by omega)
  obtain ⟨u', hu', hul⟩ := m6.fmt (by omega)
  have b6 : B 6 ≤ 100000 := by decide
  obtain ⟨e3, h3⟩ := errors_ok 12 v m t' u' ht' (by omega) hu' (by omega)
  obtain ⟨s5', s6', h4⟩ := inner_loop 12 v m t u ht hu s0 (.own (penD ns a2 b2)) s2 s7 s8 (errI v m) s5 s6 (errI_ok v m)
  obtain ⟨_, hp3⟩ : ∃ x : Nat, True := ⟨0, trivial⟩
  have pv := lplain_ok 6 6 v v6
  have pm := lplain_ok 6 6 m m6
  have w6 := v6.pl
  have n6 := m6.pl
  have t2 : ∀ x y : D, Vw 6 x → Vw 6 y → Vw 7 (.tup [x, y]) := fun x y hx hy => .tup 6 _ (by simp) (by simpa using ⟨hx, hy⟩)
  have pl2 : ∀ x y : D, plF (.tup [x, y]) = .tup [plF x, plF y] := fun x y => by simp [plF, plFs]
  have q1 := v6.plpl
  obtain ⟨f1, i1⟩ := init_P 4 7 "told" [v, m] (t2 v m v6 m6) (by simp)
  obtain ⟨f2, i2⟩ := init_D 4 7 "told" [v, m] (t2 v m v6 m6) (by simp)
  obtain ⟨f3, i3⟩ := init_P 4 7 "told" [plF v, m] (t2 _ m w6 m6) (by simp)
  obtain ⟨f4, i4⟩ := init_P 4 7 "tale" [v, m] (t2 v m v6 m6) (by simp)
  obtain ⟨f5, i5⟩ := init_P 4 7 "told" [v] (.tup 6 _ (by simp) (by simpa using v6)) (by simp)
  obtain ⟨f6, i6⟩ := init_P 4 7 "told" [m, v] (t2 m v m6 v6) (by simp)
  have pl1 : plF (.tup [v]) = .tup [plF v] := by simp [plF, plFs]
  rw [pl2] at i1 i2 i3 i4 i6
  rw [pl1] at i5
  rw [q1] at i3
  simp only [List.map_cons, List.map_nil] at i1 i2 i3 i4 i5 i6
  have P : Vw 7 (.tup [plF v, plF m]) := t2 _ _ w6 n6
  have P' : Vw 7 (.tup [plF m, plF v]) := t2 _ _ n6 w6
  obtain ⟨tp, htp⟩ := P.repr (by omega)
  obtain ⟨x1', hx1⟩ := w6.repr (by omega)
  obtain ⟨x2', hx2⟩ := n6.repr (by omega)
  have E0 : eqF (.tup [plF v, plF m]) (.tup [plF v, plF m]) = some (.bl true) := by rw [eqF_vw P P (by omega), P.eqSelf]
  have E1 : eqF (.tup [plF v, plF m]) (.tup [plF v]) = some (.bl false) := by
    rw [eqF_vw P (Vw.tup 6 [plF v] (by simp) (by simpa using w6)) (by omega)]
    simp [eqD, eqDs]
  have E2 := eqF_vw P P' (by omega)
  obtain ⟨g1, j1⟩ := eqs_P 12 "told" _ _ true true eqF_tt E0
  obtain ⟨g2, j2⟩ := eqs_DP 12 (.tup [plF v, plF m]) (.tup [plF v, plF m])
  obtain ⟨g3, j3⟩ := eqs_D 12 _ _ true E0
  obtain ⟨g4, j4⟩ := eqs_P 12 "tale" _ _ false true eqF_tl E0
  obtain ⟨g5, j5⟩ := eqs_P 12 "told" _ _ true false eqF_tt E1
  obtain ⟨g6, j6⟩ := eqs_P 12 "told" _ _ true _ eqF_tt E2
  obtain ⟨g7, j7⟩ := eqs_Pn 12 (.tup [plF v, plF m])
  obtain ⟨g8, j8⟩ := bos_P 12 (pap "Paper" "told" (.tup [plF v, plF m]))
  obtain ⟨g9, j9⟩ := bos_D 12 (pap "Denial" "told" (.tup [plF v, plF m]))
  change (rs 13).fn "_law_value" [.own (penD ns a b), .val (.int 3)] = _ at h1
  change (rs 13).fn "_law_value" [.own (penD ns a1 b1), .val (.int 2)] = _ at h2
  simp only [Nat.reduceAdd] at h3 h4 pv pm i1 i2 i3 i4 i5 i6 j1 j2 j3 j4 j5 j6 j7 j8 j9
  simp only [pap, Bool.and_true, Bool.and_false, Bool.true_and] at i1 i2 i3 i4 i5 i6 j1 j2 j3 j4 j5 j6 j7 j8 j9
  have hsame : eqD (.tup [plF v, plF m]) (.tup [plF m, plF v]) = true → x1' = x2' := fun h => by
    have e := P.eqD_eq P' h
    simp at e
    rw [e.1, hx2] at hx1
    exact (Option.some.inj hx1).symm
  generalize hr : m_lawT (rs 13) [s0, .own (penD ns a b), s2, s3, s4, s5, s6, s7, s8] = rr
  cases hb : eqD (.tup [plF v, plF m]) (.tup [plF m, plF v]) with
  | false =>
    rw [hb] at j6
    simp [m_lawT, enter, lents, leave, fr, h1, h2, h3, h4, itemsD, i1, i2, i3, i4, i5, i6, j1, j2, j3, j4, j5, j6, j7, j8, j9, pv, pm, LIM, reprF, htp, hx1, hx2, neS, neS_ins, neF_ins, eqF_ins, lef_PP, lef_DD, lef_Pn, lef_PD, rig_PD, is_DP, is_PD, bm_P, bm_D, truD, atD, fld_Pw, fld_Pp, List.lookup, neq_wp2] at hr
    subst hr
    exact ⟨a2, b2, _, _, _, _, _, _, _, rfl, by omega, by omega, y3⟩
  | true =>
    rw [hb] at j6
    have := hsame hb
    subst this
    simp [m_lawT, enter, lents, leave, fr, h1, h2, h3, h4, itemsD, i1, i2, i3, i4, i5, i6, j1, j2, j3, j4, j5, j6, j7, j8, j9, pv, pm, LIM, reprF, htp, hx1, hx2, neS, neS_ins, neF_ins, eqF_ins, lef_PP, lef_DD, lef_Pn, lef_PD, rig_PD, is_DP, is_PD, bm_P, bm_D, truD, atD, fld_Pw, fld_Pp, List.lookup, neq_wp2] at hr
    subst hr
    exact ⟨a2, b2, _, _, _, _, _, _, _, rfl, by omega, by omega, y3⟩
theorem loop_ok (ns : List Int) (s0 : Sl) : ∀ (ds : List D) (a b : Int) (s2 s3 s4 s5 s6 s7 s8 : Sl), 0 ≤ a → a + 200 * ds.length < 2 ^ 20 → 0 ≤ b →
    ∃ e, loopM (put1 (some 1) 2) (m_lawT (rs 13)) ds [s0, .own (penD ns a b), s2, s3, s4, s5, s6, s7, s8] = .ok .nx e
  | [], a, b, s2, s3, s4, s5, s6, s7, s8, _, _, _ => ⟨_, rfl⟩
  | d :: ds, a, b, s2, s3, s4, s5, s6, s7, s8, ha, ha2, hb => by
    simp only [List.length_cons, Int.natCast_succ] at ha2
    obtain ⟨a', b', t2, t3, t4, t5, t6, t7, t8, h, x1, x2, x3⟩ := turn_ok ns a b ha (by omega) hb s0 (.val d) s3 s4 s5 s6 s7 s8
    obtain ⟨e, h2⟩ := loop_ok ns s0 ds a' b' t2 t3 t4 t5 t6 t7 t8 (by omega) (by omega) x3
    refine ⟨e, ?_⟩
    simp [loopM, put1, fr, h, h2]
theorem all_E (r : Rs) : okV (lenRun 1 (bodyRun 3 (m_all r)) [.val (.exc "Ended" [])]) = some (.lst [.bl true]) := by kernel_rfl
theorem all_N (r : Rs) : okV (lenRun 1 (bodyRun 3 (m_all r)) [.val (.exc "NoCalendar" [])]) = some (.lst [.bl true]) := by kernel_rfl
theorem is_N (r : Rs) : isiG (tx r).tab [.exc "NoCalendar" [], .cls "DaysError"] = some (.bl true) := by kernel_rfl
theorem law_ok (ns : List Int) (h : ns.length ≤ 63) : ∃ e, lenRun 1 (bodyRun 9 (m_law (rs 13))) [.val (.scr ns)] = .ok (.sh (.bl true)) e := by
  obtain ⟨e1, h1⟩ := pen_ok 12 ns h
  obtain ⟨e2, h2⟩ := loop_ok ns (.val (.scr ns)) (ups 0 4) 0 0 .no .no .no .no .no .no .no (by omega) (by decide) (by omega)
  obtain ⟨e3, h3⟩ := okV_ex (all_E (rs 12))
  obtain ⟨e4, h4⟩ := okV_ex (all_N (rs 12))
  rw [← fn_all] at h3 h4
  have h5 := is_N (rs 13)
  simp only [Nat.reduceAdd] at h1 h3 h4
  have ht : tiny 4 = true := by decide
  have e11 : eqF (.int 1) (.int 1) = some (.bl true) := by kernel_rfl
  generalize hr : lenRun 1 (bodyRun 9 (m_law (rs 13))) [.val (.scr ns)] = rr
  simp [m_law, pad, List.replicate, enter, lents, leave, fr, h1, ht, h2, h3, h4, h5, lenF, e11, exc0M] at hr
  subst hr
  exact ⟨_, rfl⟩
theorem law_all (ns : List Int) (h : ns.length ≤ 63) : ∃ e, ((defsL.lookup ("law" : PySem.Str)).map fun d => d.run (lv P 14)).getD (fun _ => .stuck) [.val (.scr ns)] = .ok (.sh (.bl true)) e := by
  have e1 : defsL.lookup ("law" : PySem.Str) = some d_law := by kernel_rfl
  rw [e1]
  show ∃ e, d_law.run (lv P 14) _ = _
  rw [lv_tx 13, run_n (k := 1) (n := 9) (by kernel_rfl) (by kernel_rfl) (by kernel_rfl) (m_law_eq _)]
  exact law_ok ns h
end K75
set_option maxHeartbeats 0
namespace K75
open PySem PySem.Spec PyProof.Rows L2 Mini
abbrev rowR : PySem.W.OpenRow := PySem.W.OpenLaw.row LW
abbrev hk : PySem.W.Hook := t.hook 5
def ob (s : PySem.W.SharedT) : AlM := t.obsG 5 (HandSHeadRun.getT s)
theorem ob_eq (s : PySem.W.SharedT) : ob s = hk.obs s.abs := HT.obsG_eq (HandSHeadRun.getT_eq s)
theorem run (w : World) : HandSHeadRun.RunEq rowR (PySem.W.view rowR.prog [lawAt]) hk ob 12000 names w := by
  intro os
  kernel_rfl
end K75
set_option maxHeartbeats 0
open PySem PySem.W PySem.Calls PyProof.Rows Mini
/-- the law holds, if its run by data says True for every script -/
theorem k75_of (ok : ∀ ns : List Int, ns.length ≤ 63 → ∃ e, ((K75.defsL.lookup ("law" : PySem.Str)).map fun d => d.run (lv K75.P 14)).getD (fun _ => .stuck) [.val (.scr ns)] = .ok (.sh (.bl true)) e) : PySem.Challenge.rw_lookingdays_k75_errors_and_papers.Holds := by
  w_on; o_law
  refine HandSHeadRun.head_any (r := OpenLaw.row PySem.Challenge.rw_lookingdays_k75_errors_and_papers) (q := view (OpenLaw.row PySem.Challenge.rw_lookingdays_k75_errors_and_papers).prog [42]) (H := K75.hk) (ob := K75.ob) (M := 12000) (loose := K75.names) (d := HandSHeadRun.topDef (OpenLaw.row PySem.Challenge.rw_lookingdays_k75_errors_and_papers).prog 42) (kwd := []) K75.ob_eq
    (by kernel_rfl) (fun s => by kernel_rfl) K75.run (by kernel_rfl) (by kernel_rfl) (by kernel_rfl) (by rfl) (by first | assumption | decide +kernel) (by decide +kernel) ⟨rfl, rfl, rfl, rfl, rfl, by decide +kernel⟩ ?hw ?hc
  case hw => w_witness2
  case hc =>
    have hd : ∃ d, K75.P.defs ("law" : PySem.Str) = some d ∧ ((K75.defsL.lookup ("law" : PySem.Str)).map fun d => d.run (lv K75.P 14)).getD (fun _ => .stuck) = d.run (lv K75.P 14) := ⟨_, rfl, rfl⟩
    obtain ⟨d, hd1, hd2⟩ := hd
    rw [hd2] at ok
    refine walk_ofK (l := PySem.Challenge.rw_lookingdays_k75_errors_and_papers) (n := 63) (k := 49) (run := d.run (lv K75.P 14)) rfl (by decide) (by kernel_rfl) ⟨rfl, by decide, by decide⟩ ?F ok
    intro w mg fa h Y G hmg0
    obtain ⟨K, KX, c⟩ := Y
    have hmg : mg ("law" : PySem.Str) = some (.ref fa) := by
      have e : (HandSHeadRun.topDef (OpenLaw.row PySem.Challenge.rw_lookingdays_k75_errors_and_papers).prog 42).name = ("law" : PySem.Str) := by kernel_rfl
      rw [← e]
      exact hmg0
    exact ⟨K, KX, HT.law_fn (t := K75.t) 14 KX G c K75.st hd1 hmg⟩
set_option maxHeartbeats 0 in
theorem PySem.Challenge.cw_lookingdays_k75_errors_and_papers_holds : PySem.Challenge.rw_lookingdays_k75_errors_and_papers.Holds := by
  exact k75_of K75.law_all
