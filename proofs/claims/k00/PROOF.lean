import PyProof.Rows.All
import Wide.All
import OpenK.AllK
import Wide.FinOn
import KE.KStateDown
import Lean
import HandS.ForMost
import HandS.More
import HandS.Exc
import HandS.ExcOwn
import HandS.TryOnly
import HandS.TryMany
import HandS.WordsExc
import HandS.Defaults
import HandS.Deep
import HandS.IsInst
import HandS.TupAny
import HandS.TupMul
import HandS.Conv
import HandS.Ends
import HandS.EndBits
import KE.KExcSuper
import KE.KSuper
import KE.KExcInit
import HandS.Head0
import HandS.Head1
import HandS.Head2
import HandS.HeadEnd
import HandS.HeadHook1
import HandS.HeadHook2
import HandS.HeadHook4
import PySem.Challenge.RW_forgetwhen_k00_whole_errors_and_what_the
set_option Elab.async false
set_option linter.all false
set_option maxRecDepth 100000
set_option maxHeartbeats 4000000
/-! # DL: a layer of plain data over the hand layer. Values of a run are told as data D; what an expression does is a plain Lean function of the frame's data; each rule of the hand layer is shown to bear it. -/
namespace DL
open PySem PySem.Spec L2
open PyProof.Rows hiding St

/-- data -/
inductive D where
  | non | bl (b : Bool) | int (i : Int) | str (x : Str)
  | tup (l : List D) | lst (l : List D) | scr (l : List Int) | ty (n : String)
  | cell (n : Nat) | fn (x : Str) | lam (k : Nat) | clo (k : Nat) (l : List (Option D))
  deriving Inhabited

/-- what a local name holds: a value; a list that this frame alone holds and changes -/
inductive Slot where
  | val (d : D) | own (l : List D)
abbrev Env := List (Option Slot)
/-- the store of the lists that are changed by others -/
abbrev Mu := List (List D)

inductive Out (α : Type) where
  | ok (a : α) (m : Mu) | exn (c : Str) (fs : List (Str × D)) (m : Mu) | stuck
def Out.bnd {α β : Type} (o : Out α) (f : α → Mu → Out β) : Out β := match o with
  | .ok a m => f a m
  | .exn c fs m => .exn c fs m
  | .stuck => .stuck
abbrev SE := Env → Mu → Out D
@[simp] theorem bnd_ok {α β : Type} (a : α) (m : Mu) (f : α → Mu → Out β) : (Out.ok a m).bnd f = f a m := rfl
@[simp] theorem bnd_exn {α β : Type} (c : Str) (fs : List (Str × D)) (m : Mu) (f : α → Mu → Out β) : (Out.exn c fs m : Out α).bnd f = .exn c fs m := rfl
@[simp] theorem bnd_stuck {α β : Type} (f : α → Mu → Out β) : (Out.stuck : Out α).bnd f = .stuck := rfl

/-- the place: the written part, the changed lists' addresses, the addresses that frames own -/
structure Ct where
  K : PySem.W.Frag
  cs : List Addr
  br : List Addr

mutual
/-- v in H is the data d -/
inductive Rep (c : Ct) (H : Hp) : V → D → Prop
  | non : Rep c H .non .non
  | bl (b : Bool) : Rep c H (.bl b) (.bl b)
  | int (i : Int) : Rep c H (.int i) (.int i)
  | str (x : Str) : Rep c H (.str x) (.str x)
  | tup {a : Addr} {vs : List V} {ds : List D} : a ∉ c.cs → H a = some (.tup vs) → Reps c H vs ds → Rep c H (.ref a) (.tup ds)
  | lst {a : Addr} {vs : List V} {ds : List D} : a ∉ c.cs → a ∉ c.br → H a = some (.lst vs) → Reps c H vs ds → Rep c H (.ref a) (.lst ds)
  | scr {a : Addr} {o : Obj} {ns : List Int} : a ∉ c.cs → H a = some (.frz o (.lst (ns.map V.int))) → Rep c H (.ref a) (.scr ns)
  | scrK {a : Addr} {ns : List Int} : SqL c.K (fun _ => none) a (ns.map V.int) → Rep c H (.ref a) (.scr ns)
  | cell {n : Nat} {a : Addr} : c.cs[n]? = some a → Rep c H (.ref a) (.cell n)
  | ty (n : String) : Rep c H (.ty n) (.ty n)
  | fn {x : Str} {a : Addr} : PySem.W.nsIn c.K mainGlobals x = some (some (.ref a)) → Rep c H (.ref a) (.fn x)
inductive Reps (c : Ct) (H : Hp) : List V → List D → Prop
  | nil : Reps c H [] []
  | cons {v : V} {vs : List V} {d : D} {ds : List D} : Rep c H v d → Reps c H vs ds → Reps c H (v :: vs) (d :: ds)
end

/-- the heap's way: what was tracked stands but for the changed lists; new changed lists are new -/
structure Stp (c c' : Ct) (H H' : Hp) : Prop where
  K : c'.K = c.K
  br : c'.br = c.br
  cs : ∃ new, c'.cs = c.cs ++ new ∧ ∀ a ∈ new, H a = none
  keep : ∀ a o, H a = some o → a ∉ c.cs → H' a = some o
  there : ∀ a o, H a = some o → ∃ o', H' a = some o'

theorem rd_some {H : Hp} {a : Addr} {u : HO} (h : Rd H a u) : ∃ o, H a = some o := by
  rcases h with h | ⟨o, h⟩
  · exact ⟨_, h⟩
  · exact ⟨_, h⟩
theorem rd_keep {H H' : Hp} {a : Addr} {u : HO} (h : Rd H a u) (k : ∀ o, H a = some o → H' a = some o) : Rd H' a u := by
  rcases h with h | ⟨o, h⟩
  · exact .inl (k _ h)
  · exact .inr ⟨o, k _ h⟩

theorem Stp.notin {c c' : Ct} {H H' : Hp} (s : Stp c c' H H') {a : Addr} (h : a ∉ c.cs) {o : HO} (ho : H a = some o) : a ∉ c'.cs := by
  obtain ⟨new, e, f⟩ := s.cs
  rw [e]
  intro q
  rcases List.mem_append.mp q with q | q
  · exact h q
  · rw [f a q] at ho
    cases ho

mutual
theorem Rep.step {c c' : Ct} {H H' : Hp} (s : Stp c c' H H') : ∀ {v : V} {d : D}, Rep c H v d → Rep c' H' v d
  | _, _, .non => .non
  | _, _, .bl b => .bl b
  | _, _, .int i => .int i
  | _, _, .str x => .str x
  | _, _, .tup h1 h2 h3 => .tup (s.notin h1 h2) (s.keep _ _ h2 h1) (Reps.step s h3)
  | _, _, .lst h1 h0 h2 h3 => .lst (s.notin h1 h2) (by rw [s.br]; exact h0) (s.keep _ _ h2 h1) (Reps.step s h3)
  | _, _, .scr h1 h2 => .scr (s.notin h1 h2) (s.keep _ _ h2 h1)
  | _, _, .scrK h => .scrK (by rw [s.K]; exact h)
  | _, _, .ty n => .ty n
  | _, _, .cell h => by
    obtain ⟨new, e, _⟩ := s.cs
    refine .cell ?_
    rw [e]
    obtain ⟨hl, _⟩ := List.getElem?_eq_some_iff.mp h
    rw [List.getElem?_append_left hl]
    exact h
  | _, _, .fn h => .fn (by rw [s.K]; exact h)
theorem Reps.step {c c' : Ct} {H H' : Hp} (s : Stp c c' H H') : ∀ {vs : List V} {ds : List D}, Reps c H vs ds → Reps c' H' vs ds
  | _, _, .nil => .nil
  | _, _, .cons h t => .cons (Rep.step s h) (Reps.step s t)
end
theorem Stp.refl (c : Ct) (H : Hp) : Stp c c H H := ⟨rfl, rfl, ⟨[], by simp, by simp⟩, fun _ _ h _ => h, fun _ o h => ⟨o, h⟩⟩
theorem Stp.trans {c c1 c2 : Ct} {H H1 H2 : Hp} (a : Stp c c1 H H1) (b : Stp c1 c2 H1 H2) : Stp c c2 H H2 := by
  obtain ⟨n1, e1, f1⟩ := a.cs
  obtain ⟨n2, e2, f2⟩ := b.cs
  refine ⟨b.K.trans a.K, b.br.trans a.br, ⟨n1 ++ n2, by rw [e2, e1, List.append_assoc], fun x hx => ?_⟩, fun x o h n => b.keep x o (a.keep x o h n) (a.notin n h), fun x o h => ?_⟩
  · rcases List.mem_append.mp hx with q | q
    · exact f1 x q
    · cases e : H x with
      | none => rfl
      | some o =>
        obtain ⟨o', e'⟩ := a.there x o e
        rw [f2 x q] at e'
        cases e'
  · obtain ⟨o1, e1⟩ := a.there x o h
    exact b.there x o1 e1
/-- all that was tracked stands -/
theorem Stp.same {c : Ct} {H H' : Hp} (h : Same H H') : Stp c c H H' := ⟨rfl, rfl, ⟨[], by simp, by simp⟩, fun a o q _ => h a o q, fun a o q => ⟨o, h a o q⟩⟩
theorem same_upd {H : Hp} {p : Addr} {o : HO} (h : H p = none) : Same H (upd H p o) := fun b u e => by rw [upd_ne (ne_of_none e h)]; exact e

theorem Reps.length {c : Ct} {H : Hp} : ∀ {vs : List V} {ds : List D}, Reps c H vs ds → vs.length = ds.length
  | _, _, .nil => rfl
  | _, _, .cons _ t => by rw [List.length_cons, List.length_cons, Reps.length t]
theorem Reps.get {c : Ct} {H : Hp} : ∀ {vs : List V} {ds : List D} {i : Nat} {v : V}, Reps c H vs ds → vs[i]? = some v → ∃ d, ds[i]? = some d ∧ Rep c H v d
  | _, _, _, _, .nil, e => by simp at e
  | _, _, 0, _, .cons h _, e => by simp at e; subst e; exact ⟨_, rfl, h⟩
  | _, _, i + 1, v, .cons _ t, e => by
    obtain ⟨d, h1, h2⟩ := Reps.get (i := i) (v := v) t (by simpa using e)
    exact ⟨d, by simpa using h1, h2⟩
theorem Reps.getD {c : Ct} {H : Hp} : ∀ {vs : List V} {ds : List D} {i : Nat} {d : D}, Reps c H vs ds → ds[i]? = some d → ∃ v, vs[i]? = some v ∧ Rep c H v d
  | _, _, _, _, .nil, e => by simp at e
  | _, _, 0, _, .cons h _, e => by simp at e; subst e; exact ⟨_, rfl, h⟩
  | _, _, i + 1, d, .cons _ t, e => by
    obtain ⟨v, h1, h2⟩ := Reps.getD (i := i) (d := d) t (by simpa using e)
    exact ⟨v, by simpa using h1, h2⟩
theorem Reps.append {c : Ct} {H : Hp} : ∀ {vs ws : List V} {ds es : List D}, Reps c H vs ds → Reps c H ws es → Reps c H (vs ++ ws) (ds ++ es)
  | _, _, _, _, .nil, s => s
  | _, _, _, _, .cons r t, s => .cons r (Reps.append t s)
theorem Reps.take {c : Ct} {H : Hp} : ∀ {vs : List V} {ds : List D} (n : Nat), Reps c H vs ds → Reps c H (vs.take n) (ds.take n)
  | _, _, 0, _ => .nil
  | _, _, _ + 1, .nil => .nil
  | _, _, n + 1, .cons r t => .cons r (Reps.take n t)
theorem Reps.drop {c : Ct} {H : Hp} : ∀ {vs : List V} {ds : List D} (n : Nat), Reps c H vs ds → Reps c H (vs.drop n) (ds.drop n)
  | _, _, 0, r => r
  | _, _, _ + 1, .nil => .nil
  | _, _, n + 1, .cons _ t => Reps.drop n t
theorem Reps.set {c : Ct} {H : Hp} {x : V} {d : D} (r : Rep c H x d) : ∀ {vs : List V} {ds : List D} (i : Nat), Reps c H vs ds → Reps c H (vs.set i x) (ds.set i d)
  | _, _, _, .nil => .nil
  | _, _, 0, .cons _ t => .cons r t
  | _, _, i + 1, .cons q t => .cons q (Reps.set r i t)
theorem Reps.one {c : Ct} {H : Hp} {v : V} {d : D} (h : Rep c H v d) : Reps c H [v] [d] := .cons h .nil

/-- the changed lists as the store has them -/
structure MRel (c : Ct) (H : Hp) (m : Mu) : Prop where
  len : c.cs.length = m.length
  nd : c.cs.Nodup
  at_ : ∀ (n : Nat) (a : Addr) (ds : List D), c.cs[n]? = some a → m[n]? = some ds → a ∉ c.br ∧ ∃ vs, H a = some (.lst vs) ∧ Reps c H vs ds
  br : ∀ a ∈ c.br, ∃ o, H a = some o
theorem MRel.there {c : Ct} {H : Hp} {m : Mu} (M : MRel c H m) {a : Addr} (h : a ∈ c.cs) : ∃ vs, H a = some (.lst vs) := by
  obtain ⟨n, hn⟩ := List.getElem?_of_mem h
  have l := (List.getElem?_eq_some_iff.mp hn).1
  rw [M.len] at l
  obtain ⟨_, vs, e, _⟩ := M.at_ n a m[n] hn (List.getElem?_eq_getElem l)
  exact ⟨vs, e⟩

/-- what the frame's names hold -/
structure ERel (c : Ct) (H : Hp) (σ : St) (ρ : Env) : Prop where
  val : ∀ (i : Nat) (d : D), ρ[i]? = some (some (.val d)) → ∃ v, σ[i]? = some (some v) ∧ Rep c H v d
  own : ∀ (i : Nat) (ds : List D), ρ[i]? = some (some (.own ds)) → ∃ a vs, σ[i]? = some (some (.ref a)) ∧ a ∈ c.br ∧ a ∉ c.cs ∧ H a = some (.lst vs) ∧ Reps c H vs ds
  apart : ∀ (i j : Nat) (ds es : List D) (a : Addr), i ≠ j → ρ[i]? = some (some (.own ds)) → ρ[j]? = some (some (.own es)) → σ[i]? = some (some (.ref a)) → σ[j]? ≠ some (some (.ref a))
structure Ok (c : Ct) (H : Hp) (σ : St) (ρ : Env) (m : Mu) : Prop where
  e : ERel c H σ ρ
  m : MRel c H m
  len : ρ.length = σ.length
theorem ERel.step {c c' : Ct} {H H' : Hp} {σ : St} {ρ : Env} (s : Stp c c' H H') (e : ERel c H σ ρ) : ERel c' H' σ ρ := by
  refine ⟨fun i d h => ?_, fun i ds h => ?_, e.apart⟩
  · obtain ⟨v, h1, h2⟩ := e.val i d h
    exact ⟨v, h1, h2.step s⟩
  · obtain ⟨a, vs, h1, h2, h3, h4, h5⟩ := e.own i ds h
    exact ⟨a, vs, h1, by rw [s.br]; exact h2, s.notin h3 h4, s.keep a _ h4 h3, h5.step s⟩

/-- an exception as data -/
structure ExR (c : Ct) (H : Hp) (cls : Value) (dd : Option Addr) (x : Str) (fs : List (Str × D)) : Prop where
  cls : ∃ C, cls = .ref C ∧ PySem.W.nsIn c.K mainGlobals x = some (some (.ref C))
  fs : (fs = [] ∧ dd = none) ∨ ∃ d f v e, dd = some d ∧ fs = [(f, e)] ∧ H d = some (.xd [(f, v)]) ∧ d ∉ c.cs ∧ Rep c H v e
/-- a list that a frame owns, looked at for a moment -/
def Bor (c : Ct) (H : Hp) (v : V) (d : D) : Prop := ∃ a vs ds, v = .ref a ∧ d = .lst ds ∧ a ∈ c.br ∧ a ∉ c.cs ∧ H a = some (.lst vs) ∧ Reps c H vs ds
/-- b: it may be such a list -/
def RepF (b : Bool) (c : Ct) (H : Hp) (v : V) (d : D) : Prop := Rep c H v d ∨ (b = true ∧ Bor c H v d)
inductive RepsF (b : Bool) (c : Ct) (H : Hp) : List V → List D → Prop
  | nil : RepsF b c H [] []
  | cons {v : V} {vs : List V} {d : D} {ds : List D} : RepF b c H v d → RepsF b c H vs ds → RepsF b c H (v :: vs) (d :: ds)
theorem Rep.f {b : Bool} {c : Ct} {H : Hp} {v : V} {d : D} (h : Rep c H v d) : RepF b c H v d := .inl h
theorem RepF.rep {c : Ct} {H : Hp} {v : V} {d : D} (h : RepF false c H v d) : Rep c H v d := by
  rcases h with h | ⟨e, _⟩
  · exact h
  · cases e
theorem RepF.tt {b : Bool} {c : Ct} {H : Hp} {v : V} {d : D} (h : RepF b c H v d) : RepF true c H v d := by
  rcases h with h | ⟨_, h⟩
  · exact .inl h
  · exact .inr ⟨rfl, h⟩
theorem RepF.step {b : Bool} {c c' : Ct} {H H' : Hp} {v : V} {d : D} (s : Stp c c' H H') (h : RepF b c H v d) : RepF b c' H' v d := by
  rcases h with h | ⟨e, a, vs, ds, h1, h2, h3, h4, h5, h6⟩
  · exact .inl (h.step s)
  · exact .inr ⟨e, a, vs, ds, h1, h2, by rw [s.br]; exact h3, s.notin h4 h5, s.keep _ _ h5 h4, h6.step s⟩
theorem RepsF.step {b : Bool} {c c' : Ct} {H H' : Hp} (s : Stp c c' H H') : ∀ {vs : List V} {ds : List D}, RepsF b c H vs ds → RepsF b c' H' vs ds
  | _, _, .nil => .nil
  | _, _, .cons h t => .cons (h.step s) (RepsF.step s t)
theorem RepsF.reps {c : Ct} {H : Hp} : ∀ {vs : List V} {ds : List D}, RepsF false c H vs ds → Reps c H vs ds
  | _, _, .nil => .nil
  | _, _, .cons h t => .cons h.rep (RepsF.reps t)
theorem Reps.f {b : Bool} {c : Ct} {H : Hp} : ∀ {vs : List V} {ds : List D}, Reps c H vs ds → RepsF b c H vs ds
  | _, _, .nil => .nil
  | _, _, .cons h t => .cons h.f (Reps.f t)
theorem RepsF.length {b : Bool} {c : Ct} {H : Hp} : ∀ {vs : List V} {ds : List D}, RepsF b c H vs ds → vs.length = ds.length
  | _, _, .nil => rfl
  | _, _, .cons _ t => by rw [List.length_cons, List.length_cons, RepsF.length t]

/-- what an outcome asks of the wishes: G what is said of the value -/
def PostG {α β : Type} (G : Ct → Hp → β → α → Prop) (c : Ct) (σ : St) (H : Hp) (W : WX) (o : Out α) (Q : β → Hp → Prop) : Prop := match o with
  | .ok d m => ∀ v c' H', Stp c c' H H' → MRel c' H' m → G c' H' v d → Q v H'
  | .exn x fs m => ∀ cls dd c' H', Stp c c' H H' → MRel c' H' m → ExR c' H' cls dd x fs → W cls dd σ H'
  | .stuck => False
theorem PostG.step {α β : Type} {G : Ct → Hp → β → α → Prop} {c c1 : Ct} {σ : St} {H H1 : Hp} {W : WX} {o : Out α} {Q : β → Hp → Prop} (s : Stp c c1 H H1) (p : PostG G c σ H W o Q) : PostG G c1 σ H1 W o Q := by
  cases o with
  | ok d m => exact fun v c' H' s' M r => p v c' H' (s.trans s') M r
  | exn x fs m => exact fun cls dd c' H' s' M r => p cls dd c' H' (s.trans s') M r
  | stuck => exact p
theorem PostG.bnd {α β γ δ : Type} {G : Ct → Hp → β → α → Prop} {G' : Ct → Hp → δ → γ → Prop} {c : Ct} {σ : St} {H : Hp} {W : WX} {o : Out α} {f : α → Mu → Out γ} {Q : δ → Hp → Prop} {R : β → Hp → Prop} (p : PostG G' c σ H W (o.bnd f) Q)
    (h : ∀ d m v c' H', Stp c c' H H' → MRel c' H' m → G c' H' v d → PostG G' c' σ H' W (f d m) Q → R v H') : PostG G c σ H W o R := by
  cases o with
  | ok d m => exact fun v c' H' s M r => h d m v c' H' s M r (PostG.step s p)
  | exn x fs m => exact p
  | stuck => exact p
abbrev Post (b : Bool) := PostG (α := D) (β := V) (fun c H v d => RepF b c H v d)
abbrev PostA (b : Bool) := PostG (α := List D) (β := List V) (fun c H v d => RepsF b c H v d)
abbrev PostB := PostG (α := Bool) (β := Bool) (fun _ _ v d => v = d)
theorem Post.tt {b : Bool} {c : Ct} {σ : St} {H : Hp} {W : WX} {o : Out D} {Q : VK} (p : Post true c σ H W o Q) : Post b c σ H W o Q := by
  cases o with
  | ok d m => exact fun v c' H' s M r => p v c' H' s M (RepF.tt r)
  | exn x fs m => exact p
  | stuck => exact p
theorem Post.of {b : Bool} {c : Ct} {σ : St} {H : Hp} {W : WX} {o : Out D} {Q : VK} (p : Post b c σ H W o Q) : Post false c σ H W o Q := by
  cases o with
  | ok d m => exact fun v c' H' s M r => p v c' H' s M r.rep.f
  | exn x fs m => exact p
  | stuck => exact p

/-- the reading t bears the function m -/
def SimE (K : PySem.W.Frag) (W : WX) (b : Bool) (t : TE) (m : SE) : Prop := ∀ c H σ ρ μ, c.K = K → Ok c H σ ρ μ → ∀ Q, Post b c σ H W (m ρ μ) Q → t σ H Q
abbrev SA := Env → Mu → Out (List D)
abbrev ST' := Env → Mu → Out Bool
def SimA (K : PySem.W.Frag) (W : WX) (b : Bool) (t : TA) (m : SA) : Prop := ∀ c H σ ρ μ, c.K = K → Ok c H σ ρ μ → ∀ Q, PostA b c σ H W (m ρ μ) Q → t σ H Q
def SimT (K : PySem.W.Frag) (W : WX) (t : TT) (m : ST') : Prop := ∀ c H σ ρ μ, c.K = K → Ok c H σ ρ μ → ∀ Q, PostB c σ H W (m ρ μ) Q → t σ H Q
/-- an expression does m; W: what is wanted of an exception; b: its value may be a list that the frame owns -/
def PD (X : Cx) (W : WX) (b : Bool) (e : Expr) (m : SE) : Prop := ∃ t, PE X e t ∧ SimE X.K W b t m
def PDA (X : Cx) (W : WX) (b : Bool) (es : List Expr) (m : SA) : Prop := ∃ t, PA X es t ∧ SimA X.K W b t m
def PDT (X : Cx) (W : WX) (e : Expr) (m : ST') : Prop := ∃ t, PT X e t ∧ SimT X.K W t m
def PDW (X : Cx) (W : WX) (e : Expr) (m : ST') : Prop := ∃ t, PW X e t ∧ SimT X.K W t m

theorem Ok.step {c c' : Ct} {H H' : Hp} {σ : St} {ρ : Env} {μ μ' : Mu} (k : Ok c H σ ρ μ) (s : Stp c c' H H') (M : MRel c' H' μ') : Ok c' H' σ ρ μ' := ⟨k.e.step s, M, k.len⟩

/-! ### arguments -/
def mNil : SA := fun _ μ => .ok [] μ
def mCons (ma : SE) (mr : SA) : SA := fun ρ μ => (ma ρ μ).bnd fun d μ1 => (mr ρ μ1).bnd fun ds μ2 => .ok (d :: ds) μ2
/-- a function of the arguments' data, a rule by the values -/
def RelL (K : PySem.W.Frag) (W : WX) (b : Bool) (r : List V → Hp → VK → Prop) (f : List D → Mu → Out D) : Prop :=
  ∀ c H σ μ vs ds, c.K = K → MRel c H μ → RepsF b c H vs ds → ∀ Q, Post false c σ H W (f ds μ) Q → r vs H Q
def mApp (f : List D → Mu → Out D) (ma : SA) : SE := fun ρ μ => (ma ρ μ).bnd f
def mOp (f : D → D → Mu → Out D) (ma mb : SE) : SE := fun ρ μ => (ma ρ μ).bnd fun x μ1 => (mb ρ μ1).bnd fun y μ2 => f x y μ2
def mUn (f : D → Mu → Out D) (ma : SE) : SE := fun ρ μ => (ma ρ μ).bnd f
def RelO (K : PySem.W.Frag) (W : WX) (b : Bool) (r : R2) (f : D → D → Mu → Out D) : Prop :=
  ∀ c H σ μ v w d e, c.K = K → MRel c H μ → RepF b c H v d → RepF b c H w e → ∀ Q, Post false c σ H W (f d e μ) Q → r v w H Q
def RelU (K : PySem.W.Frag) (W : WX) (b : Bool) (r : V → Hp → VK → Prop) (f : D → Mu → Out D) : Prop :=
  ∀ c H σ μ v d, c.K = K → MRel c H μ → RepF b c H v d → ∀ Q, Post false c σ H W (f d μ) Q → r v H Q
section
variable {K : PySem.W.Frag} {W : WX} {b b' : Bool}
theorem sim_nil : SimA K W b tNil mNil := fun c H σ ρ μ _ k Q p => p [] c H (Stp.refl c H) k.m .nil
theorem sim_cons {ta : TE} {ma : SE} {tr : TA} {mr : SA} (ha : SimE K W b ta ma) (hr : SimA K W b tr mr) : SimA K W b (tCons ta tr) (mCons ma mr) := by
  intro c H σ ρ μ hK k Q p
  refine ha c H σ ρ μ hK k _ (PostG.bnd p fun d μ1 v c1 H1 s1 M1 r1 p1 => ?_)
  refine hr c1 H1 σ ρ μ1 (s1.K.trans hK) (k.step s1 M1) _ (PostG.bnd p1 fun ds μ2 vs c2 H2 s2 M2 r2 p2 => ?_)
  exact p2 (v :: vs) c2 H2 (Stp.refl _ _) M2 (.cons (r1.step s2) r2)
theorem sim_app {r : List V → Hp → VK → Prop} {f : List D → Mu → Out D} {t : TA} {ma : SA} (hr : RelL K W b r f) (ha : SimA K W b t ma) :
    SimE K W b' (fun σ H Q => t σ H fun vs H1 => r vs H1 Q) (mApp f ma) := by
  intro c H σ ρ μ hK k Q p
  exact ha c H σ ρ μ hK k _ (PostG.bnd p fun ds μ1 vs c1 H1 s1 M1 r1 p1 => hr c1 H1 σ μ1 vs ds (s1.K.trans hK) M1 r1 Q (Post.of p1))
theorem sim_op {r : R2} {f : D → D → Mu → Out D} {ta tb : TE} {ma mb : SE} (hr : RelO K W b r f) (ha : SimE K W b ta ma) (hb : SimE K W b tb mb) : SimE K W b' (tOp r ta tb) (mOp f ma mb) := by
  intro c H σ ρ μ hK k Q p
  refine ha c H σ ρ μ hK k _ (PostG.bnd p fun d μ1 v c1 H1 s1 M1 r1 p1 => ?_)
  refine hb c1 H1 σ ρ μ1 (s1.K.trans hK) (k.step s1 M1) _ (PostG.bnd p1 fun e μ2 w c2 H2 s2 M2 r2 p2 => ?_)
  exact hr c2 H2 σ μ2 v w d e ((s2.K.trans s1.K).trans hK) M2 (r1.step s2) r2 Q (Post.of p2)
theorem sim_un {r : V → Hp → VK → Prop} {f : D → Mu → Out D} {ta : TE} {ma : SE} (hr : RelU K W b r f) (ha : SimE K W b ta ma) : SimE K W b' (tUn r ta) (mUn f ma) := by
  intro c H σ ρ μ hK k Q p
  exact ha c H σ ρ μ hK k _ (PostG.bnd p fun d μ1 v c1 H1 s1 M1 r1 p1 => hr c1 H1 σ μ1 v d (s1.K.trans hK) M1 r1 Q (Post.of p1))
end

/-! ### names, constants -/
section
variable {X : Cx} {W : WX} {b : Bool}
def mVal (i : Nat) : SE := fun ρ μ => match ρ[i]? with
  | some (some (.val d)) => .ok d μ
  | _ => .stuck
/-- .. or the list that the frame owns -/
def mVar (i : Nat) : SE := fun ρ μ => match ρ[i]? with
  | some (some (.val d)) => .ok d μ
  | some (some (.own l)) => .ok (.lst l) μ
  | _ => .stuck
def mC (d : D) : SE := fun _ μ => .ok d μ
theorem pd_val (i : Nat) {x : Str} {pos : Pos} (hN : X.N[i]? = some x := by rfl) (hv : Vis X.env.scope x := by first | exact Or.inl rfl | exact Or.inr (Or.inl rfl) | exact Or.inr (Or.inr rfl)) (hd : (x == ("__debug__" : Str)) = false := by decide)
    (hcd : (x == ("__classdict__" : Str)) = false := by decide) : PD X W b (.Name x pos) (mVal i) := by
  refine ⟨_, pe_var hN hv hd hcd, fun c H σ ρ μ hK k Q p => ?_⟩
  unfold mVal at p
  cases e : ρ[i]? with
  | none => rw [e] at p; exact p.elim
  | some o =>
    cases o with
    | none => rw [e] at p; exact p.elim
    | some s =>
      cases s with
      | own l => rw [e] at p; exact p.elim
      | val d =>
        rw [e] at p
        obtain ⟨v, h1, h2⟩ := k.e.val i d e
        exact ⟨v, h1, p v c H (Stp.refl c H) k.m h2.f⟩
theorem pd_var (i : Nat) {x : Str} {pos : Pos} (hN : X.N[i]? = some x := by rfl) (hv : Vis X.env.scope x := by first | exact Or.inl rfl | exact Or.inr (Or.inl rfl) | exact Or.inr (Or.inr rfl)) (hd : (x == ("__debug__" : Str)) = false := by decide)
    (hcd : (x == ("__classdict__" : Str)) = false := by decide) : PD X W true (.Name x pos) (mVar i) := by
  refine ⟨_, pe_var hN hv hd hcd, fun c H σ ρ μ hK k Q p => ?_⟩
  unfold mVar at p
  cases e : ρ[i]? with
  | none => rw [e] at p; exact p.elim
  | some o =>
    cases o with
    | none => rw [e] at p; exact p.elim
    | some s =>
      cases s with
      | own l =>
        rw [e] at p
        obtain ⟨a, vs, h1, h2, h3, h4, h5⟩ := k.e.own i l e
        exact ⟨_, h1, p _ c H (Stp.refl c H) k.m (.inr ⟨rfl, a, vs, l, rfl, rfl, h2, h3, h4, h5⟩)⟩
      | val d =>
        rw [e] at p
        obtain ⟨v, h1, h2⟩ := k.e.val i d e
        exact ⟨v, h1, p v c H (Stp.refl c H) k.m h2.f⟩
theorem sim_c {K : PySem.W.Frag} {v : V} {d : D} (h : ∀ c H, Rep c H v d) : SimE K W b (tC v) (mC d) := fun c H σ ρ μ _ k Q p => p v c H (Stp.refl c H) k.m (h c H).f
theorem pd_int {i j pos} : PD X W b (.Constant (.int i) j pos) (mC (.int i)) := ⟨_, pe_int, sim_c fun _ _ => .int i⟩
theorem pd_bl {i j pos} : PD X W b (.Constant (.bool i) j pos) (mC (.bl i)) := ⟨_, pe_bl, sim_c fun _ _ => .bl i⟩
theorem pd_non {j pos} : PD X W b (.Constant .none j pos) (mC .non) := ⟨_, pe_non, sim_c fun _ _ => .non⟩
theorem pd_str {x j pos} : PD X W b (.Constant (.str x) j pos) (mC (.str x)) := ⟨_, pe_str, sim_c fun _ _ => .str x⟩
/-- a module's number -/
theorem pd_gint {x : Str} {i : Int} {pos : Pos} (hm : ∃ t, X.mg x = some (.int i t)) (hg : Gl X x := by rfl) (hd : (x == ("__debug__" : Str)) = false := by decide) : PD X W b (.Name x pos) (mC (.int i)) := by
  obtain ⟨t, hm⟩ := hm
  exact ⟨_, pe_glob hg hm (v := .int i) ⟨t, rfl⟩ hd, sim_c fun _ _ => .int i⟩

/-- the name of a class that is built in -/
theorem pd_ty {x : Str} {n : String} {pos : Pos} (hm : X.mg x = none) (hv : bootBuiltins x = some (.type n)) (hg : Gl X x := by rfl) (hn : x ≠ "__name__" := by decide) (hd : (x == ("__debug__" : Str)) = false := by decide) : PD X W b (.Name x pos) (mC (.ty n)) :=
  ⟨_, pe_bltn hg hm hv (v := .ty n) rfl hn hd, sim_c fun _ _ => .ty n⟩
/-! ### operators, argument lists, calls of what is built in -/
variable {e f : Expr} {es : List Expr} {ma mb : SE} {mr : SA} {pos : Pos} {b' : Bool}
theorem pda_nil : PDA X W b [] mNil := ⟨_, pa_nil, sim_nil⟩
theorem pda_cons (ha : PD X W b e ma) (hr : PDA X W b es mr) (hs : starEach (e :: es) X.env = (false, eval e X.env) :: starEach es X.env := by rfl) : PDA X W b (e :: es) (mCons ma mr) := by
  obtain ⟨t, h1, h2⟩ := ha
  obtain ⟨u, h3, h4⟩ := hr
  exact ⟨_, pa_cons h1 h3 hs, sim_cons h2 h4⟩
theorem pd_op {op : Operator} {r : R2} {g : D → D → Mu → Out D} (ho : OpR X (binaryOp op) r) (hr : RelO X.K W b r g) (ha : PD X W b e ma) (hb : PD X W b f mb) : PD X W b' (.BinOp e op f pos) (mOp g ma mb) := by
  obtain ⟨t, h1, h2⟩ := ha
  obtain ⟨u, h3, h4⟩ := hb
  exact ⟨_, pe_op ho h1 h3, sim_op hr h2 h4⟩
theorem pd_un {op : UnaryOp} {r : V → Hp → VK → Prop} {g : D → Mu → Out D} (ho : UnR X (unaryOp op) r) (hr : RelU X.K W b r g) (ha : PD X W b e ma) : PD X W b' (.UnaryOp op e pos) (mUn g ma) := by
  obtain ⟨t, h1, h2⟩ := ha
  exact ⟨_, pe_un ho h1, sim_un hr h2⟩
theorem pd_cmp {op : CmpOp} {r : R2} {g : D → D → Mu → Out D} (ho : OpR X (compareOp op) r) (hr : RelO X.K W b r g) (ha : PD X W b e ma) (hb : PD X W b f mb) (hm : behindInMarks op f = false := by first | exact nomark _ | rfl) : PD X W b' (.Compare e [op] [f] pos) (mOp g ma mb) := by
  obtain ⟨t, h1, h2⟩ := ha
  obtain ⟨u, h3, h4⟩ := hb
  exact ⟨_, pe_cmpR ho h1 h3 hm, sim_op hr h2 h4⟩
theorem pd_callB {x : Str} {id : String} {p : Pos} {r : List V → Hp → VK → Prop} {g : List D → Mu → Out D} (hc : CallR X (.builtin id) r) (hr : RelL X.K W b r g) (hm : X.mg x = none) (hv : bootBuiltins x = some (.builtin id)) (ha : PDA X W b (e :: es) mr) (hg : Gl X x := by rfl)
    (hn : x ≠ "__name__" := by decide) (hdb : (x == ("__debug__" : Str)) = false := by decide) (he : starEach (e :: es) X.env = (false, eval e X.env) :: starEach es X.env := by rfl) (hpl : (backTo pos (starEach es X.env)).any (·.1) = false := by rfl) :
    PD X W b' (.Call (.Name x p) (e :: es) [] pos) (mApp g mr) := by
  obtain ⟨t, h1, h2⟩ := ha
  exact ⟨_, pe_callB hc hg hm hv h1 hn hdb he hpl, sim_app hr h2⟩
theorem pd_callTy {x : Str} {T : String} {p : Pos} {r : List V → Hp → VK → Prop} {g : List D → Mu → Out D} (hc : CallR X (.type T) r) (hr : RelL X.K W b r g) (hm : X.mg x = none) (hv : bootBuiltins x = some (.type T)) (ha : PDA X W b (e :: es) mr) (hg : Gl X x := by rfl)
    (hn : x ≠ "__name__" := by decide) (hdb : (x == ("__debug__" : Str)) = false := by decide) (he : starEach (e :: es) X.env = (false, eval e X.env) :: starEach es X.env := by rfl) (hpl : (backTo pos (starEach es X.env)).any (·.1) = false := by rfl) :
    PD X W b' (.Call (.Name x p) (e :: es) [] pos) (mApp g mr) := by
  obtain ⟨t, h1, h2⟩ := ha
  exact ⟨_, pe_callTy hc hg hm hv h1 hn hdb he hpl, sim_app hr h2⟩
end
end DL
/-! # DL, values: operators and calls of what is built in, on data -/
namespace DL
open PySem PySem.Spec L2
open PyProof.Rows hiding St

/-! ### places in the store -/
theorem MRel.cell {c : Ct} {H : Hp} {m : Mu} (M : MRel c H m) {n : Nat} {a : Addr} {ds : List D} (h : c.cs[n]? = some a) (e : m[n]? = some ds) : ∃ vs, H a = some (.lst vs) ∧ Reps c H vs ds := (M.at_ n a ds h e).2
/-- the items of a list, as a value or in the store -/
def listOf (μ : Mu) : D → Option (List D)
  | .lst l => some l
  | .cell n => μ[n]?
  | _ => none
theorem rep_list {b : Bool} {c : Ct} {H : Hp} {m : Mu} {v : V} {d : D} {ds : List D} (M : MRel c H m) (r : RepF b c H v d) (e : listOf m d = some ds) : ∃ a vs, v = .ref a ∧ H a = some (.lst vs) ∧ Reps c H vs ds := by
  rcases r with r | ⟨_, a, vs, ds', h1, h2, _, _, h5, h6⟩
  · cases r with
    | lst h1 h2 h3 h4 => cases e; exact ⟨_, _, rfl, h3, h4⟩
    | cell h => obtain ⟨vs, h1, h2⟩ := M.cell h e; exact ⟨_, _, rfl, h1, h2⟩
    | _ => cases e
  · subst h2
    cases e
    exact ⟨_, _, h1, h5, h6⟩
theorem rep_tup {b : Bool} {c : Ct} {H : Hp} {v : V} {ds : List D} (r : RepF b c H v (.tup ds)) : ∃ a vs, v = .ref a ∧ a ∉ c.cs ∧ H a = some (.tup vs) ∧ Reps c H vs ds := by
  rcases r with r | ⟨_, a, vs, ds', h1, h2, _⟩
  · cases r with
    | tup h1 h2 h3 => exact ⟨_, _, rfl, h1, h2, h3⟩
  · cases h2
theorem rep_int {b : Bool} {c : Ct} {H : Hp} {v : V} {i : Int} (r : RepF b c H v (.int i)) : v = .int i := by
  rcases r with r | ⟨_, a, vs, ds', h1, h2, _⟩
  · cases r; rfl
  · cases h2
theorem rep_bl {b : Bool} {c : Ct} {H : Hp} {v : V} {i : Bool} (r : RepF b c H v (.bl i)) : v = .bl i := by
  rcases r with r | ⟨_, a, vs, ds', h1, h2, _⟩
  · cases r; rfl
  · cases h2
theorem rep_str {b : Bool} {c : Ct} {H : Hp} {v : V} {i : Str} (r : RepF b c H v (.str i)) : v = .str i := by
  rcases r with r | ⟨_, a, vs, ds', h1, h2, _⟩
  · cases r; rfl
  · cases h2
theorem rep_non {b : Bool} {c : Ct} {H : Hp} {v : V} (r : RepF b c H v .non) : v = .non := by
  rcases r with r | ⟨_, a, vs, ds', h1, h2, _⟩
  · cases r; rfl
  · cases h2
/-- an object of the written part stands whatever is tracked -/
theorem seqK {K : PySem.W.Frag} {H : Hp} {a : Addr} {xs : List V} (h : SqL K (fun _ => none) a xs) : SqL K H a xs := by
  rcases h with (h | ⟨o, h⟩) | h
  · cases h
  · cases h
  · exact .inr h
theorem rep_scr {b : Bool} {c : Ct} {H : Hp} {v : V} {ns : List Int} (r : RepF b c H v (.scr ns)) : ∃ a, v = .ref a ∧ SqL c.K H a (ns.map V.int) := by
  rcases r with r | ⟨_, a, vs, ds', h1, h2, _⟩
  · cases r with
    | scr h1 h2 => exact ⟨_, rfl, .inl (.inr ⟨_, h2⟩)⟩
    | scrK h => exact ⟨_, rfl, seqK h⟩
  · cases h2
theorem MRel.same {c : Ct} {H H' : Hp} {m : Mu} (M : MRel c H m) (s : Same H H') : MRel c H' m := ⟨M.len, M.nd, fun n a ds h e => by
  obtain ⟨h1, vs, h2, h3⟩ := M.at_ n a ds h e
  exact ⟨h1, vs, s _ _ h2, h3.step (Stp.same s)⟩, fun a h => by
  obtain ⟨o, e⟩ := M.br a h
  exact ⟨o, s _ _ e⟩⟩
/-- the address is free: it is none of the store's, none that a frame owns -/
theorem fresh_cs {c : Ct} {H : Hp} {m : Mu} (M : MRel c H m) {p : Addr} (h : H p = none) : p ∉ c.cs := fun q => by
  obtain ⟨vs, e⟩ := M.there q
  rw [h] at e
  cases e
section
variable {c : Ct} {H : Hp} {m : Mu} {σ : St} {W : WX} {Q : VK} {b : Bool}
/-- the outcome is a plain value -/
theorem post_val {d : D} {v : V} (M : MRel c H m) (r : Rep c H v d) (p : Post b c σ H W (.ok d m) Q) : Q v H := p v c H (Stp.refl c H) M r.f
theorem post_int {i : Int} (M : MRel c H m) (p : Post b c σ H W (.ok (.int i) m) Q) : Q (.int i) H := post_val M (.int i) p
theorem post_bl {i : Bool} (M : MRel c H m) (p : Post b c σ H W (.ok (.bl i) m) Q) : Q (.bl i) H := post_val M (.bl i) p
theorem post_str {i : Str} (M : MRel c H m) (p : Post b c σ H W (.ok (.str i) m) Q) : Q (.str i) H := post_val M (.str i) p
/-- a new tuple -/
theorem post_tup {vs : List V} {ds : List D} {p : Addr} (M : MRel c H m) (r : Reps c H vs ds) (hp : H p = none) (q : Post b c σ H W (.ok (.tup ds) m) Q) : Q (.ref p) (upd H p (.tup vs)) := by
  have s : Stp c c H (upd H p (.tup vs)) := Stp.same (same_upd hp)
  exact q _ c _ s (M.same (same_upd hp)) (.inl (.tup (fresh_cs M hp) upd_same (r.step s)))
end
theorem fresh_br {c : Ct} {H : Hp} {m : Mu} (M : MRel c H m) {p : Addr} (h : H p = none) : p ∉ c.br := fun q => by
  obtain ⟨vs, e⟩ := M.br p q
  rw [h] at e
  cases e
section
variable {c : Ct} {H : Hp} {m : Mu} {σ : St} {W : WX} {Q : VK} {b : Bool}
/-- a new list -/
theorem post_lst {vs : List V} {ds : List D} {p : Addr} (M : MRel c H m) (r : Reps c H vs ds) (hp : H p = none) (q : Post b c σ H W (.ok (.lst ds) m) Q) : Q (.ref p) (upd H p (.lst vs)) := by
  have s : Stp c c H (upd H p (.lst vs)) := Stp.same (same_upd hp)
  exact q _ c _ s (M.same (same_upd hp)) (.inl (.lst (fresh_cs M hp) (fresh_br M hp) upd_same (r.step s)))
end

/-! ### data as the library compares it -/
mutual
def D.py : D → Option PyData
  | .non => some .none
  | .bl b => some (.bool b)
  | .int i => some (.int i)
  | .str x => some (.str x)
  | .tup l => (D.pys l).map .tuple
  | .lst l => (D.pys l).map .list
  | .scr l => some (.list (l.map .int))
  | _ => none
def D.pys : List D → Option (List PyData)
  | [] => some []
  | d :: r => match d.py, D.pys r with
    | some p, some q => some (p :: q)
    | _, _ => none
end
theorem dpAll_ints {K : PySem.W.Frag} {H : Hp} : ∀ ns : List Int, DpAll K H (ns.map V.int) (ns.map .int)
  | [] => .nil
  | n :: r => .cons (.int n) (dpAll_ints r)
mutual
theorem Rep.dp {c : Ct} {H : Hp} : ∀ {v : V} {d : D} {p : PyData}, Rep c H v d → d.py = some p → Dp c.K H v p
  | _, _, _, .non, e => by simp only [D.py] at e; cases e; exact .non
  | _, _, _, .bl b, e => by simp only [D.py] at e; cases e; exact .bl b
  | _, _, _, .int i, e => by simp only [D.py] at e; cases e; exact .int i
  | _, _, _, .str x, e => by simp only [D.py] at e; cases e; exact .str x
  | _, _, _, .tup (ds := ds) h1 h2 h3, e => by
    simp only [D.py] at e
    cases q : D.pys ds with
    | none => rw [q] at e; cases e
    | some ps => rw [q] at e; cases e; exact .tup (SqT.of h2) (Reps.dp h3 q)
  | _, _, _, .lst (ds := ds) h1 h0 h2 h3, e => by
    simp only [D.py] at e
    cases q : D.pys ds with
    | none => rw [q] at e; cases e
    | some ps => rw [q] at e; cases e; exact .lst (SqL.of h2) (Reps.dp h3 q)
  | _, _, _, .scr h1 h2, e => by
    simp only [D.py] at e
    cases e
    exact .lst (.inl (.inr ⟨_, h2⟩)) (dpAll_ints _)
  | _, _, _, .scrK h, e => by
    simp only [D.py] at e
    cases e
    exact .lst (seqK h) (dpAll_ints _)
  | _, _, _, .cell h, e => by simp only [D.py] at e; cases e
  | _, _, _, .ty h, e => by simp only [D.py] at e; cases e
  | _, _, _, .fn h, e => by simp only [D.py] at e; cases e
theorem Reps.dp {c : Ct} {H : Hp} : ∀ {vs : List V} {ds : List D} {ps : List PyData}, Reps c H vs ds → D.pys ds = some ps → DpAll c.K H vs ps
  | _, _, _, .nil, e => by simp only [D.pys] at e; cases e; exact .nil
  | _, _, _, .cons (d := d) (ds := ds) h t, e => by
    simp only [D.pys] at e
    cases q1 : d.py with
    | none => rw [q1] at e; cases e
    | some p =>
      cases q2 : D.pys ds with
      | none => rw [q1, q2] at e; cases e
      | some ps => rw [q1, q2] at e; cases e; exact .cons (Rep.dp h q1) (Reps.dp t q2)
end
/-- .. a list of the store by what it holds now -/
def D.pyM (μ : Mu) : D → Option PyData
  | .cell n => (μ[n]?).bind fun l => (D.pys l).map .list
  | d => d.py
theorem rep_dp {b : Bool} {c : Ct} {H : Hp} {m : Mu} {v : V} {d : D} {p : PyData} (M : MRel c H m) (r : RepF b c H v d) (e : d.pyM m = some p) : Dp c.K H v p := by
  rcases r with r | ⟨_, a, vs, ds', h1, h2, _, _, h5, h6⟩
  · cases d with
    | cell n =>
      have e2 : (m[n]?).bind (fun l => (D.pys l).map .list) = some p := e
      cases q : m[n]? with
      | none => rw [q] at e2; cases e2
      | some l =>
        rw [q] at e2
        have e3 : (D.pys l).map PyData.list = some p := e2
        cases q2 : D.pys l with
        | none => rw [q2] at e3; cases e3
        | some ps =>
          rw [q2] at e3
          cases e3
          obtain ⟨a, vs, e1, h1, h2⟩ := rep_list (b := false) M r.f (show listOf m (.cell n) = some l from q)
          subst e1
          exact .lst (SqL.of h1) (h2.dp q2)
    | _ => exact r.dp e
  · subst h1 h2
    have e2 : (D.lst ds').py = some p := e
    simp only [D.py] at e2
    cases q : D.pys ds' with
    | none => rw [q] at e2; cases e2
    | some ps => rw [q] at e2; cases e2; exact .lst (SqL.of h5) (h6.dp q)

/-! ### the functions, the rules -/
section
variable {K : PySem.W.Frag} {W : WX} {b : Bool}
/-- ints in, an int out -/
def fI (C : Int → Int → Bool) (g : Int → Int → Int) : D → D → Mu → Out D
  | .int i, .int j, m => if C i j = true then .ok (.int (g i j)) m else .stuck
  | _, _, _ => .stuck
theorem rel_I {C : Int → Int → Prop} {C' : Int → Int → Bool} {g : Int → Int → Int} (h : ∀ i j, C' i j = true → C i j) : RelO K W b (rI C fun i j => .int (g i j)) (fI C' g) := by
  intro c H σ μ v w d e hK M rv rw_ Q p
  cases d with
  | int i =>
    cases e with
    | int j =>
      have p' : Post false c σ H W (if C' i j = true then .ok (.int (g i j)) μ else .stuck) Q := p
      by_cases hc : C' i j = true
      · rw [if_pos hc] at p'
        exact ⟨i, j, rep_int rv, rep_int rw_, h i j hc, post_int M p'⟩
      · rw [if_neg hc] at p'
        exact p'.elim
    | _ => exact p.elim
  | _ => exact p.elim
theorem rel_I0 {g : Int → Int → Int} : RelO K W b (rI0 fun i j => .int (g i j)) (fI (fun _ _ => true) g) := by
  intro c H σ μ v w d e hK M rv rw_ Q p
  cases d with
  | int i =>
    cases e with
    | int j => exact ⟨i, j, rep_int rv, rep_int rw_, post_int M p⟩
    | _ => exact p.elim
  | _ => exact p.elim
/-- ints in, a truth value out -/
def fB (g : Int → Int → Bool) : D → D → Mu → Out D
  | .int i, .int j, m => .ok (.bl (g i j)) m
  | _, _, _ => .stuck
theorem rel_B {g : Int → Int → Bool} : RelO K W b (rI0 fun i j => .bl (g i j)) (fB g) := by
  intro c H σ μ v w d e hK M rv rw_ Q p
  cases d with
  | int i =>
    cases e with
    | int j => exact ⟨i, j, rep_int rv, rep_int rw_, post_bl M p⟩
    | _ => exact p.elim
  | _ => exact p.elim
def lt64 (i : Int) : Bool := decide (-(2 ^ 64) < i ∧ i < 2 ^ 64)
def cMul (i j : Int) : Bool := lt64 i || lt64 j
theorem cMul_ok (i j : Int) (h : cMul i j = true) : CMul i j := by
  rcases Bool.or_eq_true_iff.mp h with h | h
  · exact .inl (of_decide_eq_true h)
  · exact .inr (of_decide_eq_true h)
def cDiv (_ j : Int) : Bool := decide (0 < j ∧ j < 1073741824)
def cMod (_ j : Int) : Bool := decide (0 < j)
def cPow (i j : Int) : Bool := decide (0 ≤ j ∧ j ≤ 1000000 ∧ i.natAbs < 2 ^ 64)
theorem cDiv_ok (i j : Int) (h : cDiv i j = true) : CDiv i j := by
  have q : 0 < j ∧ j < 1073741824 := of_decide_eq_true h
  exact q
theorem cPow_ok (i j : Int) (h : cPow i j = true) : CPow i j := by
  have q : 0 ≤ j ∧ j ≤ 1000000 ∧ i.natAbs < 2 ^ 64 := of_decide_eq_true h
  exact q
abbrev fSub := fI (fun _ _ => true) (fun i j => i - j)
abbrev fDiv := fI cDiv (fun i j => i / j)
abbrev fMod := fI cMod (fun i j => i % j)
abbrev fPow := fI cPow (fun i j => i ^ j.toNat)
abbrev fLt := fB fun i j => decide (i < j)
abbrev fLe := fB fun i j => decide (i ≤ j)
abbrev fGt := fB fun i j => decide (j < i)
abbrev fGe := fB fun i j => decide (j ≤ i)
def line (n : Nat) : Bool := decide (n ≤ 16777216)
theorem line_ok {n : Nat} (h : line n = true) : n ≤ sizeLine := by rw [sizeLine_eq]; exact of_decide_eq_true h
/-- + of ints, texts, tuples, lists -/
def fAdd : D → D → Mu → Out D
  | .int i, .int j, m => .ok (.int (i + j)) m
  | .str x, .str y, m => if line (x.length + y.length) = true then .ok (.str (x ++ y)) m else .stuck
  | .tup x, .tup y, m => if line (x.length + y.length) = true then .ok (.tup (x ++ y)) m else .stuck
  | .lst x, .lst y, m => if line (x.length + y.length) = true then .ok (.lst (x ++ y)) m else .stuck
  | _, _, _ => .stuck
def rAddA (K : PySem.W.Frag) : R2 := fun x y H Q => ((rI0 fun i j => .int (i + j)) x y H Q ∨ (∃ i j, x = .str i ∧ y = .str j ∧ i.length + j.length ≤ sizeLine ∧ Q (.str (i ++ j)) H)) ∨ (rCatA K x y H Q ∨ rCat x y H Q)
theorem op_addA {X : Cx} : OpR X (binaryOp .Add) (rAddA X.K) := (op_add.or op_add_str).or (op_catA.or op_cat)
theorem rel_add : RelO K W b (rAddA K) fAdd := by
  intro c H σ μ v w d e hK M rv rw_ Q p
  subst hK
  cases d with
  | int i =>
    cases e with
    | int j => exact .inl (.inl ⟨i, j, rep_int rv, rep_int rw_, post_int M p⟩)
    | _ => exact p.elim
  | str i =>
    cases e with
    | str j =>
      have p' : Post false c σ H W (if line (i.length + j.length) = true then .ok (.str (i ++ j)) μ else .stuck) Q := p
      by_cases hc : line (i.length + j.length) = true
      · rw [if_pos hc] at p'
        exact .inl (.inr ⟨i, j, rep_str rv, rep_str rw_, line_ok hc, post_str M p'⟩)
      · rw [if_neg hc] at p'
        exact p'.elim
    | _ => exact p.elim
  | tup i =>
    cases e with
    | tup j =>
      have p' : Post false c σ H W (if line (i.length + j.length) = true then .ok (.tup (i ++ j)) μ else .stuck) Q := p
      by_cases hc : line (i.length + j.length) = true
      · rw [if_pos hc] at p'
        obtain ⟨a, vs, rfl, ha, h1, r1⟩ := rep_tup rv
        obtain ⟨a', ws, rfl, hb, h2, r2⟩ := rep_tup rw_
        refine .inr (.inl ⟨a, a', vs, ws, rfl, rfl, SqT.of h1, SqT.of h2, by rw [r1.length, r2.length]; exact line_ok hc, fun e => ?_, fun _ e => ?_, fun _ _ q hq => post_tup M (r1.append r2) hq p'⟩)
        · subst e
          cases r1
          exact post_val M (.tup hb h2 r2) p'
        · subst e
          cases r2
          rw [List.append_nil] at p'
          exact post_val M (.tup ha h1 r1) p'
      · rw [if_neg hc] at p'
        exact p'.elim
    | _ => exact p.elim
  | lst i =>
    cases e with
    | lst j =>
      have p' : Post false c σ H W (if line (i.length + j.length) = true then .ok (.lst (i ++ j)) μ else .stuck) Q := p
      by_cases hc : line (i.length + j.length) = true
      · rw [if_pos hc] at p'
        obtain ⟨a, vs, rfl, h1, r1⟩ := rep_list M rv (show listOf μ (.lst i) = some i from rfl)
        obtain ⟨a', ws, rfl, h2, r2⟩ := rep_list M rw_ (show listOf μ (.lst j) = some j from rfl)
        exact .inr (.inr ⟨a, a', vs, ws, rfl, rfl, h1, h2, by rw [r1.length, r2.length]; exact line_ok hc, fun q hq => post_lst M (r1.append r2) hq p'⟩)
      · rw [if_neg hc] at p'
        exact p'.elim
    | _ => exact p.elim
  | _ => exact p.elim

/-- == and != by the library's own look at data -/
def fEq (d e : D) (m : Mu) : Out D := match d.pyM m, e.pyM m with
  | some p, some q => if SeqAt.shaped p = true ∧ SeqAt.shaped q = true then .ok (.bl (PyData.eqv p q)) m else .stuck
  | _, _ => .stuck
def fNe (d e : D) (m : Mu) : Out D := match d.pyM m, e.pyM m with
  | some p, some q => if SeqAt.shaped p = true ∧ SeqAt.shaped q = true then .ok (.bl (!PyData.eqv p q)) m else .stuck
  | _, _ => .stuck
theorem rel_eq : RelO K W b (rEqD K) fEq := by
  intro c H σ μ v w d e hK M rv rw_ Q p
  subst hK
  unfold fEq at p
  cases e1 : d.pyM μ with
  | none => rw [e1] at p; exact p.elim
  | some x =>
    cases e2 : e.pyM μ with
    | none => rw [e1, e2] at p; exact p.elim
    | some y =>
      rw [e1, e2] at p
      have p' : Post false c σ H W (if SeqAt.shaped x = true ∧ SeqAt.shaped y = true then .ok (.bl (PyData.eqv x y)) μ else .stuck) Q := p
      by_cases hc : SeqAt.shaped x = true ∧ SeqAt.shaped y = true
      · rw [if_pos hc] at p'
        exact ⟨x, y, rep_dp M rv e1, rep_dp M rw_ e2, hc.1, hc.2, post_bl M p'⟩
      · rw [if_neg hc] at p'
        exact p'.elim
theorem rel_ne : RelO K W b (rNeD K) fNe := by
  intro c H σ μ v w d e hK M rv rw_ Q p
  subst hK
  unfold fNe at p
  cases e1 : d.pyM μ with
  | none => rw [e1] at p; exact p.elim
  | some x =>
    cases e2 : e.pyM μ with
    | none => rw [e1, e2] at p; exact p.elim
    | some y =>
      rw [e1, e2] at p
      have p' : Post false c σ H W (if SeqAt.shaped x = true ∧ SeqAt.shaped y = true then .ok (.bl (!PyData.eqv x y)) μ else .stuck) Q := p
      by_cases hc : SeqAt.shaped x = true ∧ SeqAt.shaped y = true
      · rw [if_pos hc] at p'
        exact ⟨x, y, rep_dp M rv e1, rep_dp M rw_ e2, hc.1, hc.2, post_bl M p'⟩
      · rw [if_neg hc] at p'
        exact p'.elim
/-- in, not in: a list or a tuple of data -/
def rInA (K : PySem.W.Frag) (neg : Bool) : R2 := fun x y H Q => ∃ d ds, Dp K H x d ∧ (Dp K H y (.list ds) ∨ Dp K H y (.tuple ds)) ∧ SeqAt.shaped d = true ∧ PyData.canLayAll0 ds = true ∧ Q (.bl (if neg then !ds.any (fun z => PyData.eqv z d) else ds.any fun z => PyData.eqv z d)) H
theorem room_in1 {A : Around} {k : Nat} {d : PyData} (h : SeqAt.shaped d = true) (hu : A.units + 65 < cLine) : A.units + 1 + min k d.depth < cLine := by
  have h1 := SeqAt.depth_of_shaped h
  have h2 : min k d.depth ≤ d.depth := Nat.min_le_right _ _
  omega
theorem op_inA {X : Cx} (hu : X.A.units + 65 < cLine) : OpR X (compareOp .In) (rInA X.K false) := by
  intro pins s σ H x y v u Q I rx ry h
  obtain ⟨d, ds, hd, he, sd, se, q⟩ := h
  obtain ⟨as, r1⟩ := Dp.reads I d x v hd rx
  rcases he with he | he
  · obtain ⟨bs, r2⟩ := Dp.reads I (.list ds) y u he ry
    exact SeqAt.in_list_reads r2 r1 se (SeqAt.canLay_of_shaped sd) (room_in1 sd hu) ⟨.bl _, H, I, rfl, q⟩
  · obtain ⟨bs, r2⟩ := Dp.reads I (.tuple ds) y u he ry
    exact SeqAt.in_tuple_reads r2 r1 se (SeqAt.canLay_of_shaped sd) (room_in1 sd hu) ⟨.bl _, H, I, rfl, q⟩
theorem op_notInA {X : Cx} (hu : X.A.units + 65 < cLine) : OpR X (compareOp .NotIn) (rInA X.K true) := by
  intro pins s σ H x y v u Q I rx ry h
  obtain ⟨d, ds, hd, he, sd, se, q⟩ := h
  obtain ⟨as, r1⟩ := Dp.reads I d x v hd rx
  rcases he with he | he
  · obtain ⟨bs, r2⟩ := Dp.reads I (.list ds) y u he ry
    exact SeqAt.notIn_list_reads r2 r1 se (SeqAt.canLay_of_shaped sd) (room_in1 sd hu) ⟨.bl _, H, I, rfl, q⟩
  · obtain ⟨bs, r2⟩ := Dp.reads I (.tuple ds) y u he ry
    exact SeqAt.notIn_tuple_reads r2 r1 se (SeqAt.canLay_of_shaped sd) (room_in1 sd hu) ⟨.bl _, H, I, rfl, q⟩
def PyData.items? : PyData → Option (List PyData)
  | .list l => some l
  | .tuple l => some l
  | _ => none
def fInG (neg : Bool) (d e : D) (m : Mu) : Out D := match d.pyM m, (e.pyM m).bind PyData.items? with
  | some p, some qs => if SeqAt.shaped p = true ∧ PyData.canLayAll0 qs = true then .ok (.bl (if neg then !qs.any (fun z => PyData.eqv z p) else qs.any fun z => PyData.eqv z p)) m else .stuck
  | _, _ => .stuck
theorem rel_in (neg : Bool) : RelO K W b (rInA K neg) (fInG neg) := by
  intro c H σ μ v w d e hK M rv rw_ Q p
  subst hK
  unfold fInG at p
  cases e1 : d.pyM μ with
  | none => rw [e1] at p; exact p.elim
  | some x =>
    cases e2 : e.pyM μ with
    | none => rw [e1, e2] at p; exact p.elim
    | some y =>
      rw [e1, e2] at p
      cases e3 : PyData.items? y with
      | none =>
        have p' : Post false c σ H W (match some x, (some y).bind PyData.items? with
          | some p, some qs => if SeqAt.shaped p = true ∧ PyData.canLayAll0 qs = true then .ok (.bl (if neg then !qs.any (fun z => PyData.eqv z p) else qs.any fun z => PyData.eqv z p)) μ else .stuck
          | _, _ => .stuck) Q := p
        rw [Option.bind_some, e3] at p'
        exact p'.elim
      | some qs =>
        have p' : Post false c σ H W (match some x, (some y).bind PyData.items? with
          | some p, some qs => if SeqAt.shaped p = true ∧ PyData.canLayAll0 qs = true then .ok (.bl (if neg then !qs.any (fun z => PyData.eqv z p) else qs.any fun z => PyData.eqv z p)) μ else .stuck
          | _, _ => .stuck) Q := p
        rw [Option.bind_some, e3] at p'
        have p2 : Post false c σ H W (if SeqAt.shaped x = true ∧ PyData.canLayAll0 qs = true then .ok (.bl (if neg then !qs.any (fun z => PyData.eqv z x) else qs.any fun z => PyData.eqv z x)) μ else .stuck) Q := p'
        by_cases hc : SeqAt.shaped x = true ∧ PyData.canLayAll0 qs = true
        · rw [if_pos hc] at p2
          refine ⟨x, qs, rep_dp M rv e1, ?_, hc.1, hc.2, post_bl M p2⟩
          have hy := rep_dp M rw_ e2
          cases y with
          | list l => cases e3; exact .inl hy
          | tuple l => cases e3; exact .inr hy
          | _ => cases e3
        · rw [if_neg hc] at p2
          exact p2.elim
/-- is None, is not None -/
def isNon : D → Bool
  | .non => true
  | _ => false
def fIsN : D → D → Mu → Out D
  | d, .non, m => .ok (.bl (isNon d)) m
  | _, _, _ => .stuck
def fNotN : D → D → Mu → Out D
  | d, .non, m => .ok (.bl (!isNon d)) m
  | _, _, _ => .stuck
theorem rep_isNon {c : Ct} {H : Hp} {v : V} {d : D} (r : RepF b c H v d) : decide (v = .non) = isNon d := by
  rcases r with r | ⟨_, a, vs, ds, h1, h2, _⟩
  · cases r <;> first | rfl | exact decide_eq_false (fun z => by cases z)
  · subst h1 h2
    exact decide_eq_false (fun z => by cases z)
theorem rel_isN : RelO K W b (fun x y H Q => y = .non ∧ Q (.bl (decide (x = .non))) H) fIsN := by
  intro c H σ μ v w d e hK M rv rw_ Q p
  cases e with
  | non =>
    refine ⟨rep_non rw_, ?_⟩
    rw [rep_isNon rv]
    exact post_bl M (show Post false c σ H W (.ok (.bl (isNon d)) μ) Q from p)
  | _ => exact p.elim
theorem rel_notN : RelO K W b (fun x y H Q => y = .non ∧ Q (.bl (!decide (x = .non))) H) fNotN := by
  intro c H σ μ v w d e hK M rv rw_ Q p
  cases e with
  | non =>
    refine ⟨rep_non rw_, ?_⟩
    rw [rep_isNon rv]
    exact post_bl M (show Post false c σ H W (.ok (.bl (!isNon d)) μ) Q from p)
  | _ => exact p.elim

/-! ### items -/
def seqOf (μ : Mu) : D → Option (List D)
  | .lst l => some l
  | .tup l => some l
  | .scr l => some (l.map .int)
  | .cell n => μ[n]?
  | _ => none
theorem reps_ints {c : Ct} {H : Hp} : ∀ ns : List Int, Reps c H (ns.map V.int) (ns.map D.int)
  | [] => .nil
  | n :: r => .cons (.int n) (reps_ints r)
/-- a list (its own, in the store, the script) or a tuple -/
theorem rep_seq {c : Ct} {H : Hp} {m : Mu} {v : V} {d : D} {ds : List D} (M : MRel c H m) (r : RepF b c H v d) (e : seqOf m d = some ds) : ∃ a vs, v = .ref a ∧ (SqL c.K H a vs ∨ SqT c.K H a vs) ∧ Reps c H vs ds := by
  cases d with
  | lst l => obtain ⟨a, vs, h1, h2, h3⟩ := rep_list M r (show listOf m (.lst l) = some ds from e); exact ⟨a, vs, h1, .inl (SqL.of h2), h3⟩
  | cell n => obtain ⟨a, vs, h1, h2, h3⟩ := rep_list M r (show listOf m (.cell n) = some ds from e); exact ⟨a, vs, h1, .inl (SqL.of h2), h3⟩
  | tup l => cases e; obtain ⟨a, vs, h1, _, h2, h3⟩ := rep_tup r; exact ⟨a, vs, h1, .inr (SqT.of h2), h3⟩
  | scr l => cases e; obtain ⟨a, h1, h2⟩ := rep_scr r; exact ⟨a, _, h1, .inl h2, reps_ints l⟩
  | _ => cases e
theorem Reps.atI {c : Ct} {H : Hp} {vs : List V} {ds : List D} {i : Int} {d : D} (r : Reps c H vs ds) (e : L2.atI ds i = some d) : ∃ v, L2.atI vs i = some v ∧ Rep c H v d := by
  unfold L2.atI at e ⊢
  rw [r.length]
  cases q : ixN ds.length i with
  | none => rw [q] at e; cases e
  | some j =>
    rw [q, Option.bind_some] at e
    rw [Option.bind_some]
    exact r.getD e
def fIx (d e : D) (m : Mu) : Out D := match seqOf m d, e with
  | some l, .int i => (match L2.atI l i with
    | some x => .ok x m
    | none => .stuck)
  | _, _ => .stuck
def rIxA (K : PySem.W.Frag) : R2 := fun x y H Q => rIxL K x y H Q ∨ rIxT K x y H Q
theorem ix_A {X : Cx} : IxR X (rIxA X.K) := ix_list.or ix_tup
theorem rel_ix : RelO K W b (rIxA K) fIx := by
  intro c H σ μ v w d e hK M rv rw_ Q p
  subst hK
  unfold fIx at p
  cases e1 : seqOf μ d with
  | none => rw [e1] at p; exact p.elim
  | some l =>
    rw [e1] at p
    cases e with
    | int i =>
      have p' : Post false c σ H W (match L2.atI l i with | some x => .ok x μ | none => .stuck) Q := p
      cases e2 : L2.atI l i with
      | none => rw [e2] at p'; exact p'.elim
      | some x =>
        rw [e2] at p'
        obtain ⟨a, vs, h1, h2, h3⟩ := rep_seq M rv e1
        obtain ⟨y, h4, h5⟩ := h3.atI e2
        rcases h2 with h2 | h2
        · exact .inl ⟨a, vs, i, y, h1, rep_int rw_, h2, h4, post_val M h5 p'⟩
        · exact .inr ⟨a, vs, i, y, h1, rep_int rw_, h2, h4, post_val M h5 p'⟩
    | _ => exact p.elim

/-! ### calls of what is built in -/
theorem repsF_one {c : Ct} {H : Hp} {vs : List V} {d : D} (r : RepsF b c H vs [d]) : ∃ v, vs = [v] ∧ RepF b c H v d := by
  cases r with
  | cons h t => cases t; exact ⟨_, rfl, h⟩
theorem repsF_two {c : Ct} {H : Hp} {vs : List V} {d e : D} (r : RepsF b c H vs [d, e]) : ∃ v w, vs = [v, w] ∧ RepF b c H v d ∧ RepF b c H w e := by
  cases r with
  | cons h t =>
    cases t with
    | cons h2 t2 => cases t2; exact ⟨_, _, rfl, h, h2⟩
def fLen : List D → Mu → Out D
  | [.str x], m => if line x.length = true then .ok (.int x.length) m else .stuck
  | [d], m => (match seqOf m d with
    | some l => .ok (.int l.length) m
    | none => .stuck)
  | _, _ => .stuck
def rLenA (K : PySem.W.Frag) : List V → Hp → VK → Prop := fun xs H Q => (∃ p ys, xs = [.ref p] ∧ (SqL K H p ys ∨ SqT K H p ys) ∧ Q (.int ys.length) H) ∨ (∃ z, xs = [.str z] ∧ z.length ≤ sizeLine ∧ Q (.int z.length) H)
theorem call_lenA {X : Cx} : CallR X (.builtin "len") (rLenA X.K) := call_len_seq.or call_len_str
theorem rel_len : RelL K W b (rLenA K) fLen := by
  intro c H σ μ vs ds hK M r Q p
  subst hK
  cases ds with
  | nil => exact p.elim
  | cons d t =>
    cases t with
    | cons _ _ => cases d <;> exact p.elim
    | nil =>
      obtain ⟨v, rfl, rv⟩ := repsF_one r
      have seq : ∀ l, seqOf μ d = some l → Post false c σ H W (.ok (.int l.length) μ) Q → rLenA c.K [v] H Q := fun l e q => by
        obtain ⟨a, vs, h1, h2, h3⟩ := rep_seq M rv e
        subst h1
        refine .inl ⟨a, vs, rfl, h2, ?_⟩
        rw [h3.length]
        exact post_int M q
      cases d with
      | str x =>
        have p' : Post false c σ H W (if line x.length = true then .ok (.int x.length) μ else .stuck) Q := p
        by_cases hc : line x.length = true
        · rw [if_pos hc] at p'
          rw [rep_str rv]
          exact .inr ⟨x, rfl, line_ok hc, post_int M p'⟩
        · rw [if_neg hc] at p'
          exact p'.elim
      | lst l => exact seq l rfl p
      | tup l => exact seq l rfl p
      | scr l => exact seq _ rfl p
      | cell n =>
        cases e : μ[n]? with
        | none =>
          have p' : Post false c σ H W (match μ[n]? with | some l => .ok (.int l.length) μ | none => .stuck) Q := p
          rw [e] at p'
          exact p'.elim
        | some l =>
          have p' : Post false c σ H W (match μ[n]? with | some l => .ok (.int l.length) μ | none => .stuck) Q := p
          rw [e] at p'
          exact seq l e p'
      | _ => exact p.elim
def fAbs : List D → Mu → Out D
  | [.int i], m => .ok (.int (if i < 0 then -i else i)) m
  | _, _ => .stuck
theorem rel_abs : RelL K W b (fun xs H Q => ∃ i, xs = [.int i] ∧ Q (.int (if i < 0 then -i else i)) H) fAbs := by
  intro c H σ μ vs ds hK M r Q p
  cases ds with
  | nil => exact p.elim
  | cons d t =>
    cases t with
    | cons _ _ => cases d <;> exact p.elim
    | nil =>
      obtain ⟨v, rfl, rv⟩ := repsF_one r
      cases d with
      | int i => rw [rep_int rv]; exact ⟨i, rfl, post_int M p⟩
      | _ => exact p.elim
def fInt : List D → Mu → Out D
  | [.int i], m => .ok (.int i) m
  | [.bl k], m => .ok (.int (if k then 1 else 0)) m
  | _, _ => .stuck
theorem rel_int : RelL K W b (fun xs H Q => (∃ i, xs = [.int i] ∧ Q (.int i) H) ∨ ∃ k, xs = [.bl k] ∧ Q (.int (if k then 1 else 0)) H) fInt := by
  intro c H σ μ vs ds hK M r Q p
  cases ds with
  | nil => exact p.elim
  | cons d t =>
    cases t with
    | cons _ _ => cases d <;> exact p.elim
    | nil =>
      obtain ⟨v, rfl, rv⟩ := repsF_one r
      cases d with
      | int i => rw [rep_int rv]; exact .inl ⟨i, rfl, post_int M p⟩
      | bl i => rw [rep_bl rv]; exact .inr ⟨i, rfl, post_int M p⟩
      | _ => exact p.elim
/-- tuple(x), list(x) -/
def fTuple : List D → Mu → Out D
  | [d], m => (match seqOf m d with
    | some l => .ok (.tup l) m
    | none => .stuck)
  | _, _ => .stuck
def fList : List D → Mu → Out D
  | [d], m => (match seqOf m d with
    | some l => .ok (.lst l) m
    | none => .stuck)
  | _, _ => .stuck
theorem rel_tuple : RelL K W b (fun xs H Q => ∃ p ys, xs = [.ref p] ∧ ((SqL K H p ys ∧ ∀ l, H l = none → Q (.ref l) (upd H l (.tup ys))) ∨ (SqT K H p ys ∧ Q (.ref p) H))) fTuple := by
  intro c H σ μ vs ds hK M r Q p
  subst hK
  cases ds with
  | nil => exact p.elim
  | cons d t =>
    cases t with
    | cons _ _ => exact p.elim
    | nil =>
      obtain ⟨v, rfl, rv⟩ := repsF_one r
      have p' : Post false c σ H W (match seqOf μ d with | some l => .ok (.tup l) μ | none => .stuck) Q := p
      cases e : seqOf μ d with
      | none => rw [e] at p'; exact p'.elim
      | some l =>
        rw [e] at p'
        cases d with
        | tup l' =>
          cases e
          obtain ⟨a, vs, rfl, h1, h2, h3⟩ := rep_tup rv
          exact ⟨a, vs, rfl, .inr ⟨SqT.of h2, post_val M (.tup h1 h2 h3) p'⟩⟩
        | lst l' =>
          obtain ⟨a, vs, rfl, h2, h3⟩ := rep_list M rv (show listOf μ (.lst l') = some l from e)
          exact ⟨a, vs, rfl, .inl ⟨SqL.of h2, fun q hq => post_tup M h3 hq p'⟩⟩
        | cell l' =>
          obtain ⟨a, vs, rfl, h2, h3⟩ := rep_list M rv (show listOf μ (.cell l') = some l from e)
          exact ⟨a, vs, rfl, .inl ⟨SqL.of h2, fun q hq => post_tup M h3 hq p'⟩⟩
        | scr l' =>
          cases e
          obtain ⟨a, rfl, h2⟩ := rep_scr rv
          exact ⟨a, _, rfl, .inl ⟨h2, fun q hq => post_tup M (reps_ints l') hq p'⟩⟩
        | _ => cases e
theorem rel_list : RelL K W b (fun xs H Q => ∃ p ys, xs = [.ref p] ∧ (SqL K H p ys ∨ SqT K H p ys) ∧ ∀ l, H l = none → Q (.ref l) (upd H l (.lst ys))) fList := by
  intro c H σ μ vs ds hK M r Q p
  subst hK
  cases ds with
  | nil => exact p.elim
  | cons d t =>
    cases t with
    | cons _ _ => exact p.elim
    | nil =>
      obtain ⟨v, rfl, rv⟩ := repsF_one r
      have p' : Post false c σ H W (match seqOf μ d with | some l => .ok (.lst l) μ | none => .stuck) Q := p
      cases e : seqOf μ d with
      | none => rw [e] at p'; exact p'.elim
      | some l =>
        rw [e] at p'
        obtain ⟨a, vs, rfl, h2, h3⟩ := rep_seq M rv e
        exact ⟨a, vs, rfl, h2, fun q hq => post_lst M h3 hq p'⟩
end

/-! ### rules for expressions -/
section
variable {X : Cx} {W : WX} {b b' : Bool} {e f : Expr} {es : List Expr} {ma mb : SE} {mr : SA} {pos : Pos}
theorem pd_add (ha : PD X W true e ma) (hb : PD X W true f mb) : PD X W b (.BinOp e .Add f pos) (mOp fAdd ma mb) := pd_op op_addA rel_add ha hb
theorem pd_sub (ha : PD X W true e ma) (hb : PD X W true f mb) : PD X W b (.BinOp e .Sub f pos) (mOp fSub ma mb) := pd_op op_sub rel_I0 ha hb
theorem pd_mul (ha : PD X W true e ma) (hb : PD X W true f mb) : PD X W b (.BinOp e .Mult f pos) (mOp (fI cMul fun i j => i * j) ma mb) := pd_op op_mul (rel_I cMul_ok) ha hb
theorem pd_div (ha : PD X W true e ma) (hb : PD X W true f mb) : PD X W b (.BinOp e .FloorDiv f pos) (mOp fDiv ma mb) := pd_op op_fdiv (rel_I cDiv_ok) ha hb
theorem pd_mod (ha : PD X W true e ma) (hb : PD X W true f mb) : PD X W b (.BinOp e .Mod f pos) (mOp fMod ma mb) := pd_op op_mod (rel_I fun i j h => of_decide_eq_true h) ha hb
theorem pd_pow (ha : PD X W true e ma) (hb : PD X W true f mb) : PD X W b (.BinOp e .Pow f pos) (mOp fPow ma mb) := pd_op op_pow (rel_I cPow_ok) ha hb
theorem pd_lt (ha : PD X W true e ma) (hb : PD X W true f mb) : PD X W b (.Compare e [.Lt] [f] pos) (mOp fLt ma mb) := pd_cmp op_lt rel_B ha hb
theorem pd_le (ha : PD X W true e ma) (hb : PD X W true f mb) : PD X W b (.Compare e [.LtE] [f] pos) (mOp fLe ma mb) := pd_cmp op_le rel_B ha hb
theorem pd_gt (ha : PD X W true e ma) (hb : PD X W true f mb) : PD X W b (.Compare e [.Gt] [f] pos) (mOp fGt ma mb) := pd_cmp op_gt rel_B ha hb
theorem pd_ge (ha : PD X W true e ma) (hb : PD X W true f mb) : PD X W b (.Compare e [.GtE] [f] pos) (mOp fGe ma mb) := pd_cmp op_ge rel_B ha hb
theorem pd_eq (hu : X.A.units + 64 < cLine) (ha : PD X W true e ma) (hb : PD X W true f mb) : PD X W b (.Compare e [.Eq] [f] pos) (mOp fEq ma mb) := pd_cmp (op_eqD hu) rel_eq ha hb
theorem pd_ne (hu : X.A.units + 64 < cLine) (ha : PD X W true e ma) (hb : PD X W true f mb) : PD X W b (.Compare e [.NotEq] [f] pos) (mOp fNe ma mb) := pd_cmp (op_neD hu) rel_ne ha hb
theorem pd_in (hu : X.A.units + 65 < cLine) (ha : PD X W true e ma) (hb : PD X W true f mb) (hm : behindInMarks .In f = false := by rfl) : PD X W b (.Compare e [.In] [f] pos) (mOp (fInG false) ma mb) := pd_cmp (op_inA hu) (rel_in false) ha hb hm
theorem pd_notIn (hu : X.A.units + 65 < cLine) (ha : PD X W true e ma) (hb : PD X W true f mb) (hm : behindInMarks .NotIn f = false := by rfl) : PD X W b (.Compare e [.NotIn] [f] pos) (mOp (fInG true) ma mb) := pd_cmp (op_notInA hu) (rel_in true) ha hb hm
theorem pd_isN (ha : PD X W true e ma) (hb : PD X W true f mb) : PD X W b (.Compare e [.Is] [f] pos) (mOp fIsN ma mb) := pd_cmp op_isN rel_isN ha hb
theorem pd_notN (ha : PD X W true e ma) (hb : PD X W true f mb) : PD X W b (.Compare e [.IsNot] [f] pos) (mOp fNotN ma mb) := pd_cmp op_notN rel_notN ha hb
theorem pd_ix (ha : PD X W true e ma) (hb : PD X W true f mb) (hs : PlainIx f := by exact fun _ _ => rfl) : PD X W b (.Subscript e f pos) (mOp fIx ma mb) := by
  obtain ⟨t, h1, h2⟩ := ha
  obtain ⟨u, h3, h4⟩ := hb
  exact ⟨_, pe_ix ix_A h1 h3 hs, sim_op rel_ix h2 h4⟩
/-- written tuples, lists -/
def fTup (ds : List D) (m : Mu) : Out D := if line ds.length = true then .ok (.tup ds) m else .stuck
def fLst (ds : List D) (m : Mu) : Out D := if line ds.length = true then .ok (.lst ds) m else .stuck
theorem rel_tup : RelL X.K W false (fun xs H Q => xs.length ≤ sizeLine ∧ ∀ p, H p = none → Q (.ref p) (upd H p (.tup xs))) fTup := by
  intro c H σ μ vs ds hK M r Q p
  unfold fTup at p
  by_cases hc : line ds.length = true
  · rw [if_pos hc] at p
    exact ⟨by rw [r.length]; exact line_ok hc, fun q hq => post_tup M r.reps hq p⟩
  · rw [if_neg hc] at p
    exact p.elim
theorem rel_lst : RelL X.K W false (fun xs H Q => xs.length ≤ sizeLine ∧ ∀ p, H p = none → Q (.ref p) (upd H p (.lst xs))) fLst := by
  intro c H σ μ vs ds hK M r Q p
  unfold fLst at p
  by_cases hc : line ds.length = true
  · rw [if_pos hc] at p
    exact ⟨by rw [r.length]; exact line_ok hc, fun q hq => post_lst M r.reps hq p⟩
  · rw [if_neg hc] at p
    exact p.elim
theorem pd_tup {x1} (ha : PDA X W false es mr) : PD X W b (.Tuple es x1 pos) (mApp fTup mr) := by
  obtain ⟨t, h1, h2⟩ := ha
  exact ⟨_, pe_tup h1, sim_app rel_tup h2⟩
theorem pd_lst (ha : PDA X W false es mr) : PD X W b (.List es pos) (mApp fLst mr) := by
  obtain ⟨t, h1, h2⟩ := ha
  exact ⟨_, pe_lst h1, sim_app rel_lst h2⟩
end
end DL
/-! # DL, tests and statements -/
namespace DL
open PySem PySem.Spec L2
open PyProof.Rows hiding St

/-! ### tests -/
def isB : D → Mu → Out Bool
  | .bl k, m => .ok k m
  | _, _ => .stuck
def mTest (m : SE) : ST' := fun ρ μ => (m ρ μ).bnd isB
def mAnd (t u : ST') : ST' := fun ρ μ => (t ρ μ).bnd fun k μ1 => if k = true then u ρ μ1 else .ok false μ1
def mOr (t u : ST') : ST' := fun ρ μ => (t ρ μ).bnd fun k μ1 => if k = true then .ok true μ1 else u ρ μ1
def mNot (t : ST') : ST' := fun ρ μ => (t ρ μ).bnd fun k μ1 => .ok (!k) μ1
def mIf (t : ST') (ma mb : SE) : SE := fun ρ μ => (t ρ μ).bnd fun k μ1 => if k = true then ma ρ μ1 else mb ρ μ1
def mB (t : ST') : SE := fun ρ μ => (t ρ μ).bnd fun k μ1 => .ok (.bl k) μ1
section
variable {K : PySem.W.Frag} {W : WX} {b : Bool}
theorem postB_of {c : Ct} {σ : St} {H : Hp} {m : Mu} {k : Bool} {Q : Bool → Hp → Prop} (M : MRel c H m) (p : PostB c σ H W (.ok k m) Q) : Q k H := p k c H (Stp.refl c H) M rfl
theorem sim_test {t : TE} {m : SE} (h : SimE K W b t m) : SimT K W (fun σ H Q => t σ H fun x H' => ∃ k, x = .bl k ∧ Q k H') (mTest m) := by
  intro c H σ ρ μ hK k Q p
  refine h c H σ ρ μ hK k _ (PostG.bnd p fun d μ1 v c1 H1 s1 M1 r1 p1 => ?_)
  cases d with
  | bl q => exact ⟨q, rep_bl r1, postB_of M1 p1⟩
  | _ => exact p1.elim
theorem sim_and {t u : TT} {mt mu : ST'} (h1 : SimT K W t mt) (h2 : SimT K W u mu) : SimT K W (tAnd t u) (mAnd mt mu) := by
  intro c H σ ρ μ hK k Q p
  refine h1 c H σ ρ μ hK k _ (PostG.bnd p fun d μ1 v c1 H1 s1 M1 r1 p1 => ?_)
  subst r1
  cases v with
  | true => rw [if_pos rfl]; exact h2 c1 H1 σ ρ μ1 (s1.K.trans hK) (k.step s1 M1) Q (by rw [if_pos rfl] at p1; exact p1)
  | false => rw [if_neg Bool.false_ne_true]; exact postB_of M1 (by rw [if_neg Bool.false_ne_true] at p1; exact p1)
theorem sim_or {t u : TT} {mt mu : ST'} (h1 : SimT K W t mt) (h2 : SimT K W u mu) : SimT K W (tOr t u) (mOr mt mu) := by
  intro c H σ ρ μ hK k Q p
  refine h1 c H σ ρ μ hK k _ (PostG.bnd p fun d μ1 v c1 H1 s1 M1 r1 p1 => ?_)
  subst r1
  cases v with
  | false => rw [if_neg Bool.false_ne_true]; exact h2 c1 H1 σ ρ μ1 (s1.K.trans hK) (k.step s1 M1) Q (by rw [if_neg Bool.false_ne_true] at p1; exact p1)
  | true => rw [if_pos rfl]; exact postB_of M1 (by rw [if_pos rfl] at p1; exact p1)
theorem sim_not {t : TT} {mt : ST'} (h1 : SimT K W t mt) : SimT K W (tNot t) (mNot mt) := by
  intro c H σ ρ μ hK k Q p
  refine h1 c H σ ρ μ hK k _ (PostG.bnd p fun d μ1 v c1 H1 s1 M1 r1 p1 => ?_)
  subst r1
  exact postB_of M1 p1
theorem sim_if {t : TT} {mt : ST'} {ta tb : TE} {ma mb : SE} (h1 : SimT K W t mt) (h2 : SimE K W b ta ma) (h3 : SimE K W b tb mb) : SimE K W b (tIf t ta tb) (mIf mt ma mb) := by
  intro c H σ ρ μ hK k Q p
  refine h1 c H σ ρ μ hK k _ (PostG.bnd p fun d μ1 v c1 H1 s1 M1 r1 p1 => ?_)
  subst r1
  cases v with
  | true => rw [if_pos rfl]; exact h2 c1 H1 σ ρ μ1 (s1.K.trans hK) (k.step s1 M1) Q (by rw [if_pos rfl] at p1; exact p1)
  | false => rw [if_neg Bool.false_ne_true]; exact h3 c1 H1 σ ρ μ1 (s1.K.trans hK) (k.step s1 M1) Q (by rw [if_neg Bool.false_ne_true] at p1; exact p1)
end
section
variable {X : Cx} {W : WX} {b : Bool} {e f g : Expr} {es : List Expr} {ma mb mc : SE} {mt mu : ST'} {pos : Pos}
/-- a test by its value: a call, a name, an item -/
theorem pdt_val (h : PD X W true e ma) (he : ∀ whole, isTrue e X.env whole = (do let v ← whole; standAt e.pos; holding [v] (truthy v)) := by intro _; rfl) : PDT X W e (mTest ma) := by
  obtain ⟨t, h1, h2⟩ := h
  exact ⟨_, pt_val h1 he, sim_test h2⟩
theorem pdt_cmp {op : CmpOp} {r : R2} {gg : D → D → Mu → Out D} (ho : OpR X (compareOp op) r) (hr : RelO X.K W true r gg) (ha : PD X W true e ma) (hb : PD X W true f mb) (hm : behindInMarks op f = false := by first | exact nomark _ | rfl) : PDT X W (.Compare e [op] [f] pos) (mTest (mOp gg ma mb)) := by
  obtain ⟨t, h1, h2⟩ := ha
  obtain ⟨u, h3, h4⟩ := hb
  exact ⟨_, pt_cmpR ho h1 h3 hm, sim_test (b := true) (sim_op hr h2 h4)⟩
theorem pdt_lt (ha : PD X W true e ma) (hb : PD X W true f mb) : PDT X W (.Compare e [.Lt] [f] pos) (mTest (mOp fLt ma mb)) := pdt_cmp op_lt rel_B ha hb
theorem pdt_le (ha : PD X W true e ma) (hb : PD X W true f mb) : PDT X W (.Compare e [.LtE] [f] pos) (mTest (mOp fLe ma mb)) := pdt_cmp op_le rel_B ha hb
theorem pdt_gt (ha : PD X W true e ma) (hb : PD X W true f mb) : PDT X W (.Compare e [.Gt] [f] pos) (mTest (mOp fGt ma mb)) := pdt_cmp op_gt rel_B ha hb
theorem pdt_ge (ha : PD X W true e ma) (hb : PD X W true f mb) : PDT X W (.Compare e [.GtE] [f] pos) (mTest (mOp fGe ma mb)) := pdt_cmp op_ge rel_B ha hb
theorem pdt_eq (hu : X.A.units + 64 < cLine) (ha : PD X W true e ma) (hb : PD X W true f mb) : PDT X W (.Compare e [.Eq] [f] pos) (mTest (mOp fEq ma mb)) := pdt_cmp (op_eqD hu) rel_eq ha hb
theorem pdt_ne (hu : X.A.units + 64 < cLine) (ha : PD X W true e ma) (hb : PD X W true f mb) : PDT X W (.Compare e [.NotEq] [f] pos) (mTest (mOp fNe ma mb)) := pdt_cmp (op_neD hu) rel_ne ha hb
theorem pdt_in (hu : X.A.units + 65 < cLine) (ha : PD X W true e ma) (hb : PD X W true f mb) (hm : behindInMarks .In f = false := by rfl) : PDT X W (.Compare e [.In] [f] pos) (mTest (mOp (fInG false) ma mb)) := pdt_cmp (op_inA hu) (rel_in false) ha hb hm
theorem pdt_notIn (hu : X.A.units + 65 < cLine) (ha : PD X W true e ma) (hb : PD X W true f mb) (hm : behindInMarks .NotIn f = false := by rfl) : PDT X W (.Compare e [.NotIn] [f] pos) (mTest (mOp (fInG true) ma mb)) := pdt_cmp (op_notInA hu) (rel_in true) ha hb hm
theorem pdt_isN (ha : PD X W true e ma) (hb : PD X W true f mb) : PDT X W (.Compare e [.Is] [f] pos) (mTest (mOp fIsN ma mb)) := pdt_cmp op_isN rel_isN ha hb
theorem pdt_notN (ha : PD X W true e ma) (hb : PD X W true f mb) : PDT X W (.Compare e [.IsNot] [f] pos) (mTest (mOp fNotN ma mb)) := pdt_cmp op_notN rel_notN ha hb
theorem pdw_and1 (ha : PDT X W e mt) : PDW X W (.BoolOp .And [e] pos) mt := by
  obtain ⟨t, h1, h2⟩ := ha
  exact ⟨_, pw_and1 h1, h2⟩
theorem pdw_or1 (ha : PDT X W e mt) : PDW X W (.BoolOp .Or [e] pos) mt := by
  obtain ⟨t, h1, h2⟩ := ha
  exact ⟨_, pw_or1 h1, h2⟩
theorem pdw_and (ha : PDT X W e mt) (hb : PDW X W (.BoolOp .And (f :: es) pos) mu) : PDW X W (.BoolOp .And (e :: f :: es) pos) (mAnd mt mu) := by
  obtain ⟨t, h1, h2⟩ := ha
  obtain ⟨u, h3, h4⟩ := hb
  exact ⟨_, pw_and h1 h3, sim_and h2 h4⟩
theorem pdw_or (ha : PDT X W e mt) (hb : PDW X W (.BoolOp .Or (f :: es) pos) mu) : PDW X W (.BoolOp .Or (e :: f :: es) pos) (mOr mt mu) := by
  obtain ⟨t, h1, h2⟩ := ha
  obtain ⟨u, h3, h4⟩ := hb
  exact ⟨_, pw_or h1 h3, sim_or h2 h4⟩
theorem PDW.pdt (h : PDW X W e mt) : PDT X W e mt := by
  obtain ⟨t, h1, h2⟩ := h
  exact ⟨_, h1.pt, h2⟩
theorem pdt_not (ha : PDT X W e mt) : PDT X W (.UnaryOp .Not e pos) (mNot mt) := by
  obtain ⟨t, h1, h2⟩ := ha
  exact ⟨_, pt_not h1, sim_not h2⟩
theorem pd_if (ht : PDT X W g mt) (ha : PD X W b e ma) (hb : PD X W b f mb) : PD X W b (.IfExp g e f pos) (mIf mt ma mb) := by
  obtain ⟨t, h1, h2⟩ := ht
  obtain ⟨u, h3, h4⟩ := ha
  obtain ⟨w, h5, h6⟩ := hb
  exact ⟨_, pe_ifExp h1 h3 h5, sim_if h2 h4 h6⟩
/-- and, or, not as values: truth values all but the last -/
def mAndV (ma mb : SE) : SE := mIf (mTest ma) mb (mC (.bl false))
def mOrV (ma mb : SE) : SE := mIf (mTest ma) (mC (.bl true)) mb
theorem sim_andV {ta tb : TE} (h2 : SimE X.K W true ta ma) (h3 : SimE X.K W b tb mb) : SimE X.K W b (tAndV ta tb) (mAndV ma mb) := by
  intro c H σ ρ μ hK k Q p
  unfold mAndV mIf mTest at p
  refine h2 c H σ ρ μ hK k _ ?_
  cases e : ma ρ μ with
  | stuck => rw [e] at p; exact p
  | exn x fs m => rw [e] at p; exact p
  | ok d μ1 =>
    rw [e, bnd_ok] at p
    intro v c1 H1 s1 M1 r1
    have p := PostG.step s1 p
    cases d with
    | bl q =>
      refine ⟨q, rep_bl r1, ?_⟩
      have p' : Post b c1 σ H1 W (if q = true then mb ρ μ1 else .ok (.bl false) μ1) Q := p
      cases q with
      | true => rw [if_pos rfl]; exact h3 c1 H1 σ ρ μ1 (s1.K.trans hK) (k.step s1 M1) Q (by rw [if_pos rfl] at p'; exact p')
      | false => rw [if_neg Bool.false_ne_true]; exact post_bl M1 (by rw [if_neg Bool.false_ne_true] at p'; exact p')
    | _ => exact p.elim
theorem sim_orV {ta tb : TE} (h2 : SimE X.K W true ta ma) (h3 : SimE X.K W b tb mb) : SimE X.K W b (tOrV ta tb) (mOrV ma mb) := by
  intro c H σ ρ μ hK k Q p
  unfold mOrV mIf mTest at p
  refine h2 c H σ ρ μ hK k _ ?_
  cases e : ma ρ μ with
  | stuck => rw [e] at p; exact p
  | exn x fs m => rw [e] at p; exact p
  | ok d μ1 =>
    rw [e, bnd_ok] at p
    intro v c1 H1 s1 M1 r1
    have p := PostG.step s1 p
    cases d with
    | bl q =>
      refine ⟨q, rep_bl r1, ?_⟩
      have p' : Post b c1 σ H1 W (if q = true then .ok (.bl true) μ1 else mb ρ μ1) Q := p
      cases q with
      | false => rw [if_neg Bool.false_ne_true]; exact h3 c1 H1 σ ρ μ1 (s1.K.trans hK) (k.step s1 M1) Q (by rw [if_neg Bool.false_ne_true] at p'; exact p')
      | true => rw [if_pos rfl]; exact post_bl M1 (by rw [if_pos rfl] at p'; exact p')
    | _ => exact p.elim
theorem pd_and1 {op} (h : PD X W b e ma) : PD X W b (.BoolOp op [e] pos) ma := by
  obtain ⟨t, h1, h2⟩ := h
  exact ⟨_, pe_one h1, h2⟩
theorem pd_and (ha : PD X W true e ma) (hb : PD X W b (.BoolOp .And (f :: es) pos) mb) : PD X W b (.BoolOp .And (e :: f :: es) pos) (mAndV ma mb) := by
  obtain ⟨t, h1, h2⟩ := ha
  obtain ⟨u, h3, h4⟩ := hb
  exact ⟨_, pe_and h1 h3, sim_andV h2 h4⟩
theorem pd_or (ha : PD X W true e ma) (hb : PD X W b (.BoolOp .Or (f :: es) pos) mb) : PD X W b (.BoolOp .Or (e :: f :: es) pos) (mOrV ma mb) := by
  obtain ⟨t, h1, h2⟩ := ha
  obtain ⟨u, h3, h4⟩ := hb
  exact ⟨_, pe_or h1 h3, sim_orV h2 h4⟩
def mNotV (ma : SE) : SE := fun ρ μ => (mTest ma ρ μ).bnd fun k μ1 => .ok (.bl (!k)) μ1
theorem pd_not (ha : PD X W true e ma) : PD X W b (.UnaryOp .Not e pos) (mNotV ma) := by
  obtain ⟨t, h1, h2⟩ := ha
  refine ⟨_, pe_not h1, fun c H σ ρ μ hK k Q p => ?_⟩
  unfold mNotV mTest at p
  refine h2 c H σ ρ μ hK k _ ?_
  cases e : ma ρ μ with
  | stuck => rw [e] at p; exact p
  | exn x fs m => rw [e] at p; exact p
  | ok d μ1 =>
    rw [e, bnd_ok] at p
    intro v c1 H1 s1 M1 r1
    have p := PostG.step s1 p
    cases d with
    | bl q => exact ⟨q, rep_bl r1, post_bl M1 p⟩
    | _ => exact p.elim
/-- a < b < c -/
def mChain (g1 g2 : D → D → Mu → Out D) (ma mb mc : SE) : SE := fun ρ μ => (ma ρ μ).bnd fun x μ1 => (mb ρ μ1).bnd fun y μ2 => (g1 x y μ2).bnd fun z μ3 => match z with
  | .bl true => (mc ρ μ3).bnd fun w μ4 => g2 y w μ4
  | .bl false => .ok (.bl false) μ3
  | _ => .stuck
end

/-! ### the frame's way from its entry -/
/-- the entry: its place, its heap; values that are held besides (what a loop walks) -/
structure Bs where
  c : Ct
  H : Hp
  zs : List V
  zd : List D
structure FrR (B : Bs) (c : Ct) (H : Hp) (σ : St) (ρ : Env) (μ : Mu) : Prop where
  ok : Ok c H σ ρ μ
  stp : Stp B.c ⟨c.K, c.cs, B.c.br⟩ B.H H
  br : ∃ more, c.br = more ++ B.c.br
  own0 : ∀ (i : Nat) (ds : List D) (a : Addr), ρ[i]? = some (some (.own ds)) → σ[i]? = some (some (.ref a)) → B.H a = none
  held : Reps c H B.zs B.zd
theorem Stp.lessB {c c' : Ct} {H H' : Hp} (s : Stp c c' H H') (br : List Addr) : Stp ⟨c.K, c.cs, br⟩ ⟨c'.K, c'.cs, br⟩ H H' := ⟨s.K, rfl, s.cs, s.keep, s.there⟩
theorem FrR.step {B : Bs} {c c' : Ct} {H H' : Hp} {σ : St} {ρ : Env} {μ μ' : Mu} (f : FrR B c H σ ρ μ) (s : Stp c c' H H') (M : MRel c' H' μ') : FrR B c' H' σ ρ μ' :=
  ⟨f.ok.step s M, f.stp.trans (s.lessB B.c.br), by rw [s.br]; exact f.br, f.own0, f.held.step s⟩
mutual
theorem Rep.lessB {c : Ct} {H : Hp} {br : List Addr} (h : ∀ a ∈ br, a ∈ c.br) : ∀ {v : V} {d : D}, Rep c H v d → Rep ⟨c.K, c.cs, br⟩ H v d
  | _, _, .non => .non
  | _, _, .bl b => .bl b
  | _, _, .int i => .int i
  | _, _, .str x => .str x
  | _, _, .ty n => .ty n
  | _, _, .tup h1 h2 h3 => .tup h1 h2 (Reps.lessB h h3)
  | _, _, .lst h1 h0 h2 h3 => .lst h1 (fun q => h0 (h _ q)) h2 (Reps.lessB h h3)
  | _, _, .scr h1 h2 => .scr h1 h2
  | _, _, .scrK h => .scrK h
  | _, _, .cell h => .cell h
  | _, _, .fn h => .fn h
theorem Reps.lessB {c : Ct} {H : Hp} {br : List Addr} (h : ∀ a ∈ br, a ∈ c.br) : ∀ {vs : List V} {ds : List D}, Reps c H vs ds → Reps ⟨c.K, c.cs, br⟩ H vs ds
  | _, _, .nil => .nil
  | _, _, .cons q t => .cons (Rep.lessB h q) (Reps.lessB h t)
end
theorem MRel.lessB {c : Ct} {H : Hp} {br : List Addr} {m : Mu} (h : ∀ a ∈ br, a ∈ c.br) (M : MRel c H m) : MRel ⟨c.K, c.cs, br⟩ H m := ⟨M.len, M.nd, fun n a ds e1 e2 => by
  obtain ⟨h1, vs, h2, h3⟩ := M.at_ n a ds e1 e2
  exact ⟨fun q => h1 (h _ q), vs, h2, h3.lessB h⟩, fun a q => M.br a (h a q)⟩
/-- what a def hands back -/
def Fin (c0 : Ct) (H0 : Hp) (H' : Hp) (μ' : Mu) (v : V) (d : D) : Prop := ∃ c', Stp c0 c' H0 H' ∧ MRel c' H' μ' ∧ Rep c' H' v d
theorem FrR.fin {B : Bs} {c : Ct} {H : Hp} {σ : St} {ρ : Env} {μ : Mu} {v : V} {d : D} (f : FrR B c H σ ρ μ) (r : Rep c H v d) : Fin B.c B.H H μ v d := by
  obtain ⟨more, e⟩ := f.br
  have h : ∀ a ∈ B.c.br, a ∈ c.br := fun a q => by rw [e]; exact List.mem_append_right _ q
  exact ⟨⟨c.K, c.cs, B.c.br⟩, f.stp, f.ok.m.lessB h, r.lessB h⟩

inductive SOut where
  | nx (ρ : Env) (m : Mu) | rt (d : D) (m : Mu) | bk (ρ : Env) (m : Mu) | ct (ρ : Env) (m : Mu) | exn (x : Str) (fs : List (Str × D)) (ρ : Env) (m : Mu) | stuck
abbrev SS := Env → Mu → SOut
def Out.go {α : Type} (o : Out α) (ρ : Env) (f : α → Mu → SOut) : SOut := match o with
  | .ok a m => f a m
  | .exn x fs m => .exn x fs ρ m
  | .stuck => .stuck
def SOut.seq (o : SOut) (f : SS) : SOut := match o with
  | .nx ρ m => f ρ m
  | o => o
@[simp] theorem go_ok {α : Type} (a : α) (m : Mu) (ρ : Env) (f : α → Mu → SOut) : (Out.ok a m).go ρ f = f a m := rfl
@[simp] theorem go_exn {α : Type} (x : Str) (fs : List (Str × D)) (m : Mu) (ρ : Env) (f : α → Mu → SOut) : (Out.exn x fs m : Out α).go ρ f = .exn x fs ρ m := rfl
@[simp] theorem go_stuck {α : Type} (ρ : Env) (f : α → Mu → SOut) : (Out.stuck : Out α).go ρ f = .stuck := rfl
@[simp] theorem seq_nx (ρ : Env) (m : Mu) (f : SS) : (SOut.nx ρ m).seq f = f ρ m := rfl
@[simp] theorem seq_rt (d : D) (m : Mu) (f : SS) : (SOut.rt d m).seq f = .rt d m := rfl
@[simp] theorem seq_bk (ρ : Env) (m : Mu) (f : SS) : (SOut.bk ρ m).seq f = .bk ρ m := rfl
@[simp] theorem seq_ct (ρ : Env) (m : Mu) (f : SS) : (SOut.ct ρ m).seq f = .ct ρ m := rfl
@[simp] theorem seq_exn (x : Str) (fs : List (Str × D)) (ρ : Env) (m : Mu) (f : SS) : (SOut.exn x fs ρ m).seq f = .exn x fs ρ m := rfl
@[simp] theorem seq_stuck (f : SS) : SOut.stuck.seq f = .stuck := rfl
def PostS (B : Bs) (W : WX) (o : SOut) (D : Ends) : Prop := match o with
  | .nx ρ m => ∀ c H σ, FrR B c H σ ρ m → D.nx σ H
  | .bk ρ m => ∀ c H σ, FrR B c H σ ρ m → D.bk σ H
  | .ct ρ m => ∀ c H σ, FrR B c H σ ρ m → D.ct σ H
  | .rt d m => ∀ H v, Fin B.c B.H H m v d → D.rt v H
  | .exn x fs ρ m => ∀ c H σ cls dd, FrR B c H σ ρ m → ExR c H cls dd x fs → W cls dd σ H
  | .stuck => False
def SimS (K : PySem.W.Frag) (W : WX) (t : TS) (m : SS) : Prop := ∀ B c H σ ρ μ, c.K = K → FrR B c H σ ρ μ → ∀ D, PostS B W (m ρ μ) D → t D σ H
def PSD (X : Cx) (W : WX) (s : Stmt) (m : SS) : Prop := ∃ t, PS X s t ∧ SimS X.K W t m
def PSDs (X : Cx) (W : WX) (s : List Stmt) (m : SS) : Prop := ∃ t, PSs X s t ∧ SimS X.K W t m

/-- from an expression's end on -/
theorem FrR.go {α β : Type} {G : Ct → Hp → β → α → Prop} {B : Bs} {c : Ct} {H : Hp} {σ : St} {ρ : Env} {μ : Mu} {W : WX} {o : Out α} {k : α → Mu → SOut} {D : Ends} {R : β → Hp → Prop} (f : FrR B c H σ ρ μ) (p : PostS B W (o.go ρ k) D)
    (h : ∀ d m v c' H', Stp c c' H H' → FrR B c' H' σ ρ m → G c' H' v d → PostS B W (k d m) D → R v H') : PostG G c σ H W o R := by
  cases o with
  | ok d m => exact fun v c' H' s M r => h d m v c' H' s (f.step s M) r p
  | exn x fs m => exact fun cls dd c' H' s M r => p c' H' σ cls dd (f.step s M) r
  | stuck => exact p

section
variable {X : Cx} {W : WX} {b : Bool} {e : Expr} {ma : SE} {mt : ST'} {s : Stmt} {rest : List Stmt} {m n : SS} {pos : Pos}
def sNx : SS := fun ρ μ => .nx ρ μ
def sSeq (m n : SS) : SS := fun ρ μ => (m ρ μ).seq n
theorem psd_nil : PSDs X W [] sNx := ⟨_, pss_nil, fun B c H σ ρ μ hK f D p => p c H σ f⟩
theorem FrR.K {B : Bs} {c : Ct} {H : Hp} {σ : St} {ρ : Env} {μ : Mu} (f : FrR B c H σ ρ μ) : c.K = B.c.K := f.stp.K
theorem psd_cons (h1 : PSD X W s m) (h2 : PSDs X W rest n) : PSDs X W (s :: rest) (sSeq m n) := by
  obtain ⟨t, h1, s1⟩ := h1
  obtain ⟨u, h2, s2⟩ := h2
  refine ⟨_, pss_cons h1 h2, fun B c H σ ρ μ hK f D p => ?_⟩
  refine s1 B c H σ ρ μ hK f _ ?_
  unfold sSeq at p
  cases q : m ρ μ with
  | nx ρ1 μ1 => rw [q] at p; exact fun c1 H1 σ1 f1 => s2 B c1 H1 σ1 ρ1 μ1 (f1.K.trans (f.K.symm.trans hK)) f1 D p
  | rt d m => rw [q] at p; exact p
  | bk ρ m => rw [q] at p; exact p
  | ct ρ m => rw [q] at p; exact p
  | exn x fs ρ m => rw [q] at p; exact p
  | stuck => rw [q] at p; exact p
theorem psd_one (h1 : PSD X W s m) : PSDs X W [s] m := by
  obtain ⟨t, h1, s1⟩ := h1
  exact ⟨_, pss_one h1, s1⟩
theorem psd_pass : PSD X W (.Pass pos) sNx := ⟨_, ps_pass, fun B c H σ ρ μ hK f D p => p c H σ f⟩
def sBk : SS := fun ρ μ => .bk ρ μ
def sCt : SS := fun ρ μ => .ct ρ μ
theorem psd_break : PSD X W (.Break pos) sBk := ⟨_, ps_break, fun B c H σ ρ μ hK f D p => p c H σ f⟩
theorem psd_continue : PSD X W (.Continue pos) sCt := ⟨_, ps_continue, fun B c H σ ρ μ hK f D p => p c H σ f⟩
def sRet (m : SE) : SS := fun ρ μ => (m ρ μ).go ρ fun d μ1 => .rt d μ1
theorem psd_ret (h : PD X W false e ma) : PSD X W (.Return (some e) pos) (sRet ma) := by
  obtain ⟨t, h1, s1⟩ := h
  refine ⟨_, ps_ret h1, fun B c H σ ρ μ hK f D p => ?_⟩
  exact s1 c H σ ρ μ hK f.ok _ (f.go p fun d m v c' H' s f' r p' => p' H' v (f'.fin r.rep))
/-- return of a list that the frame owns (or of any value): nothing of the frame lives on -/
def sRetN : SS := fun _ μ => .rt .non μ
theorem psd_retN : PSD X W (.Return none pos) sRetN := ⟨_, ps_retN, fun B c H σ ρ μ hK f D p => p H .non (f.fin .non)⟩
def sExpr (m : SE) : SS := fun ρ μ => (m ρ μ).go ρ fun _ μ1 => .nx ρ μ1
theorem psd_expr (h : PD X W true e ma) (hs : swapsWith e none pos.line X.env = pure false := by rfl) : PSD X W (.Expr e pos) (sExpr ma) := by
  obtain ⟨t, h1, s1⟩ := h
  refine ⟨_, ps_expr h1 hs, fun B c H σ ρ μ hK f D p => ?_⟩
  exact s1 c H σ ρ μ hK f.ok _ (f.go p fun d m v c' H' s f' r p' => p' c' H' σ f')
def sIf (t : ST') (m n : SS) : SS := fun ρ μ => (t ρ μ).go ρ fun k μ1 => if k = true then m ρ μ1 else n ρ μ1
theorem psd_if {c : Expr} {A A' : List Stmt} (ht : PDT X W c mt) (ha : PSDs X W A m) (hb : PSDs X W A' n) : PSD X W (.If c A A' pos) (sIf mt m n) := by
  obtain ⟨t, h1, s1⟩ := ht
  obtain ⟨u, h2, s2⟩ := ha
  obtain ⟨v, h3, s3⟩ := hb
  refine ⟨_, ps_if h1 h2 h3, fun B c H σ ρ μ hK f D p => ?_⟩
  refine s1 c H σ ρ μ hK f.ok _ (f.go p fun k m q c' H' s f' r p' => ?_)
  subst r
  cases q with
  | true => rw [if_pos rfl]; rw [if_pos rfl] at p'; exact s2 B c' H' σ ρ m (s.K.trans hK) f' D p'
  | false => rw [if_neg Bool.false_ne_true]; rw [if_neg Bool.false_ne_true] at p'; exact s3 B c' H' σ ρ m (s.K.trans hK) f' D p'

/-! ### names are stored -/
theorem set_get {α : Type} {l : List α} {i j : Nat} {x y : α} (h : (l.set i x)[j]? = some y) : (i = j ∧ i < l.length ∧ x = y) ∨ (i ≠ j ∧ l[j]? = some y) := by
  by_cases e : i = j
  · subst e
    obtain ⟨hl, q⟩ := List.getElem?_eq_some_iff.mp h
    rw [List.length_set] at hl
    rw [List.getElem?_set_self hl] at h
    exact .inl ⟨rfl, hl, Option.some.inj h⟩
  · rw [List.getElem?_set_ne e] at h
    exact .inr ⟨e, h⟩
theorem set_same {α : Type} {l : List α} {i : Nat} {x : α} (h : i < l.length) : (l.set i x)[i]? = some x := List.getElem?_set_self h
theorem set_other {α : Type} {l : List α} {i j : Nat} {x : α} (h : i ≠ j) : (l.set i x)[j]? = l[j]? := List.getElem?_set_ne h
theorem Ok.setv {c : Ct} {H : Hp} {σ : St} {ρ : Env} {μ : Mu} {i : Nat} {v : V} {d : D} (k : Ok c H σ ρ μ) (r : Rep c H v d) : Ok c H (σ.set i (some v)) (ρ.set i (some (.val d))) μ := by
  refine ⟨⟨fun j e h => ?_, fun j ds h => ?_, fun j j' ds es a ne h h' q => ?_⟩, k.m, by simp [k.len]⟩
  · rcases set_get h with ⟨rfl, hl, q⟩ | ⟨ne, q⟩
    · cases q
      rw [k.len] at hl
      exact ⟨v, set_same hl, r⟩
    · rw [set_other ne]
      exact k.e.val j e q
  · rcases set_get h with ⟨rfl, hl, q⟩ | ⟨ne, q⟩
    · cases q
    · rw [set_other ne]
      exact k.e.own j ds q
  · rcases set_get h with ⟨rfl, hl, z⟩ | ⟨ne1, z⟩
    · cases z
    · rcases set_get h' with ⟨rfl, hl', z'⟩ | ⟨ne2, z'⟩
      · cases z'
      · rw [set_other ne1] at q
        rw [set_other ne2]
        exact k.e.apart j j' ds es a ne z z' q
theorem FrR.setv {B : Bs} {c : Ct} {H : Hp} {σ : St} {ρ : Env} {μ : Mu} {i : Nat} {v : V} {d : D} (f : FrR B c H σ ρ μ) (r : Rep c H v d) : FrR B c H (σ.set i (some v)) (ρ.set i (some (.val d))) μ := by
  refine ⟨f.ok.setv r, f.stp, f.br, fun j ds a h q => ?_, f.held⟩
  rcases set_get h with ⟨rfl, hl, z⟩ | ⟨ne, z⟩
  · cases z
  · rw [set_other ne] at q
    exact f.own0 j ds a z q
def setE (ρ : Env) (i : Nat) (d : D) : Env := ρ.set i (some (.val d))
def sSet (i : Nat) (m : SE) : SS := fun ρ μ => (m ρ μ).go ρ fun d μ1 => .nx (setE ρ i d) μ1
theorem psd_set {i : Nat} {x : Str} {pos' : Pos} (hN : X.N.Nodup) (h : PD X W false e ma) (hi : X.N[i]? = some x := by rfl) (hx : Loc X.env.scope x := by first | exact Or.inl rfl | exact Or.inr rfl) (hs : swapsWith e (some (.Name x pos')) pos.line X.env = pure false := by rfl)
    (hf : X.fn x = true ∨ X.env.scope.names.lookup x = some .local := by first | exact .inl rfl | exact .inr rfl | assumption) : PSD X W (.Assign [.Name x pos'] e pos) (sSet i ma) := by
  obtain ⟨t, h1, s1⟩ := h
  refine ⟨_, ps_set hN hi hx h1 hs hf, fun B c H σ ρ μ hK f D p => ?_⟩
  exact s1 c H σ ρ μ hK f.ok _ (f.go p fun d m v c' H' s f' r p' => p' c' H' _ (f'.setv r.rep))
end
end DL
/-! # Dg: promises of defs that also know that nothing is being shown (no repr is under way): so they may call repr of a list or a tuple -/
namespace DL
open PySem PySem.Spec L2
open PyProof.Rows hiding St

/-- room, and no repr is under way -/
structure Rm (k : Nat) (A : Around) : Prop where
  r : Room k A
  g : A.guards = some []
theorem Rm.mono {j k : Nat} {A : Around} (q : Rm k A) (h : j ≤ k) : Rm j A := ⟨q.r.mono h, q.g⟩
theorem Rm.deeper {k : Nat} {A : Around} (q : Rm (k + 1) A) (env : PySem.Env) : Rm k (A.deeper env) := ⟨q.r.deeper env, q.g⟩
theorem rm_caller : Rm 40 callerA := ⟨⟨rfl, by decide, by decide⟩, rfl⟩

structure FnG (P : Program) (w : World) (K : PySem.W.Frag) (mg : Str → Option Value) (base : Heap) (CX : CXT) (k : Nat) (f : Addr)
    (fd : FuncData) (ps : List Str) (sp : Sp) : Prop where
  len : ∀ vs H Q E, sp vs H Q E → vs.length = ps.length
  run : ∀ (A : Around) (outer : List PySem.Env) (s : Shared) (H : Hp) (args : Args) (us : List Value) (vs : List V) (Q : VK) (E : XK),
    Rm k A → Env0 P w K mg base A outer s H → BindsTo s fd args (ps.zip us) → Vals vs us → sp vs H Q E →
    codeAny (model P w) A (.call (.ref f) args) (CR CX outer P w H s Q E) s

section
variable {P : Program} {w : World} {K : PySem.W.Frag} {mg : Str → Option Value} {base : Heap} {x qual : Str} {params : Arguments}
  {body : List Stmt} {scope : Scope} {dvs : List V} {kws : List (Str × V)} {f : Addr} {fd : FuncData} {CX : CXT} {N ps : List Str} {k : Nat} {sp : Sp}
/-- by the body; what the frame says of its place is written out -/
theorem fnG_of (F : FunD K x qual params body scope dvs kws f fd) (S : FnScope N ps scope) (ln : ∀ vs H Q E, sp vs H Q E → vs.length = ps.length)
    (hb : ∀ (cdv : Value) (A : Around) (outer : List PySem.Env) (s : Shared) (H : Hp) (vs : List V) (Q : VK) (E : XK),
      Rm k (A.deeper (envOfC qual scope s.heap.objs.size f cdv)) → sp vs H Q E →
      ∃ t, PSs (cxOf CX P w K mg base N qual scope f cdv A outer s H E) body t ∧ t { rt := Q, nx := fun _ H' => Q .non H' } (L2.start N vs) H) :
    FnG P w K mg base CX (k + 1) f fd ps sp := by
  obtain ⟨oc, od, dV, kV, doc, pm, an, cdv, ct, osl, rfl, atF, inCode, _, _⟩ := F.ex
  refine ⟨ln, ?_⟩
  intro A outer s H args us vs Q E room e0 bound rel said
  have sameLen := ln _ _ _ _ said
  have kin : K.In s.heap := e0.mod.kin.keeps (fun b o e => (e0.bs b o e).1)
  have nolim : s.heap.NoLimit := e0.mod.nolimit.keeps (fun b o e => (e0.bs b o e).1)
  have kinds : ∀ y ∈ ps.zip us, scope.names.lookup y.1 = some .local ∨
      (scope.names.lookup y.1 = some .cell ∧ ((cellsFrom (s.heap.objs.size + 1) scope.names []).lookup y.1).isSome = true) := by
    rintro ⟨n, v⟩ hy
    have q := S.par n (List.of_mem_zip hy).1
    rcases q with q | q
    · left; exact q
    · right; exact ⟨q, PySem.W.cellsFrom_some _ _ _ (.inl q)⟩
  refine codeAny_call_function room.r.depth (kin _ _ atF) rfl S.co S.gen rfl (PySem.W.codeRec_of kin inCode) (bound _ _ _ _ ?_)
  refine wpAny_newFunctionEnv_cells S.kind kinds ?_
  intro env henv s1 x1
  subst henv
  refine ⟨nolim.keeps x1.toInCall.keep, codeAny_func ?_⟩
  obtain ⟨t, body1, wish⟩ := hb cdv A outer s H vs Q E (room.deeper _) said
  have I := inv_start (CX := CX) (P := P) (w := w) (qual := qual) (f := f) (cd := cdv) (E := E) S room.r.hd e0 sameLen rel x1
  refine wpAny_mono (body1.run [] s1 (L2.start N vs) H _ I wish) ?_ fun e s' hs => hs
  intro fl s' hs
  cases fl with
  | ret u =>
    obtain ⟨v, σ', H', J, rv, q⟩ := hs
    exact ⟨v, H', J.os, J.bare, J.base, J.hok, rv, q⟩
  | next =>
    obtain ⟨σ', H', J, q⟩ := hs
    exact ⟨V.non, H', J.os, J.bare, J.base, J.hok, rfl, q⟩
  | brk => obtain ⟨_, _, _, q⟩ := hs; exact q.elim
  | cont => obtain ⟨_, _, _, q⟩ := hs; exact q.elim
end

section
variable {X : Cx} {W : WX} {CX : CXT} {k : Nat} {f : Addr} {fd : FuncData} {ps : List Str} {sp : Sp} {E : St → XK}
/-- it runs -/
theorem run_fnG {pins : List (Addr × Obj)} {σ : St} {H : Hp} {s : Shared} {Q : VK} {us : List Value} {vs : List V} (G : FnG X.prog X.w X.K X.mg X.base CX k f fd ps sp)
    (room : Rm k X.A) (hb : Binds X.K fd ps []) (hx : PassesAt CX X σ (E σ)) (I : Inv X pins σ H s) (r : Vals vs us) (h : sp vs H Q (E σ)) :
    wpAny (model X.prog X.w) X.A (call (.ref f) us) (EP X pins σ Q) X.xe s := by
  have sameLen : us.length = ps.length := r.length ▸ G.len _ _ _ _ h
  have bound := hb s us I.kIn (by simpa using sameLen)
  rw [List.append_nil] at bound
  refine wpAny_call (codeAny_mono (G.run X.A X.stack s H ⟨us, []⟩ us vs Q (E σ) room I.env0 bound r h) ?_)
  intro res s' ends
  cases res with
  | error e => exact hx pins H s e s' I ends
  | ok fl =>
    cases fl with
    | ret u => exact I.after ends
    | next => exact ends.elim
    | brk => exact ends.elim
    | cont => exact ends.elim
theorem pe_callG {x : Str} {p pos : Pos} {e : Expr} {es : List Expr} {t : TA} (G : FnG X.prog X.w X.K X.mg X.base CX k f fd ps sp) (room : Rm k X.A) (hg : Gl X x) (hm : X.mg x = some (.ref f))
    (hk : PySem.W.keepIn X.K (.ref f) = true) (hb : Binds X.K fd ps []) (hx : ∀ σ, PassesAt CX X σ (E σ)) (ha : PA X (e :: es) t) (hdb : (x == ("__debug__" : Str)) = false := by decide)
    (he : starEach (e :: es) X.env = (false, eval e X.env) :: starEach es X.env := by rfl) (hpl : (backTo pos (starEach es X.env)).any (·.1) = false := by rfl) :
    PE X (.Call (.Name x p) (e :: es) [] pos) (tCallS sp E t) := by
  constructor
  intro pins s σ H Q I h
  refine wpAny_Call_Name_kw (ld_glob I hg hm ?_ hdb)
  refine PySem.W.callWith_K (h₀ := X.base) I.ok.mod.kin hk (thn (ha.run pos pins s σ H _ I h) ?_) he hpl
  rintro us s1 ⟨vs, H1, I1, r, q⟩
  exact ⟨I1.kIn, run_fnG G room hb (hx σ) I1 r q⟩
/-- without arguments -/
theorem pe_callG0 {x : Str} {p pos : Pos} (G : FnG X.prog X.w X.K X.mg X.base CX k f fd ps sp) (room : Rm k X.A) (hg : Gl X x) (hm : X.mg x = some (.ref f))
    (hk : PySem.W.keepIn X.K (.ref f) = true) (hb : Binds X.K fd ps []) (hx : ∀ σ, PassesAt CX X σ (E σ)) (hdb : (x == ("__debug__" : Str)) = false := by decide) :
    PE X (.Call (.Name x p) [] [] pos) (tCallS sp E tNil) := by
  constructor
  intro pins s σ H Q I h
  refine wpAny_Call_Name_kw (ld_glob I hg hm ?_ hdb)
  exact PySem.W.callWith_K0 I.kIn hk (run_fnG (us := []) G room hb (hx σ) I .nil h)
end

/-! ### the end -/
theorem lawG_call {P : Program} {w : World} {K : PySem.W.Frag} {mg mb : Str → Option Value} {CX : CXT} {k : Nat} {fa a : Addr} {fd : FuncData} {x : Str} {sp : Sp} {s₁ : Shared} {vs : List Value} {ns : List Int}
    (kin : K.In s₁.heap) (glob : s₁.heap.Ns mainGlobals mg) (blt : s₁.heap.Ns builtinsNs mb) (boot : ∀ x : Str, x ≠ "__name__" → mb x = bootBuiltins x) (nolim : s₁.heap.NoLimit) (nogens : s₁.gens = #[])
    (atA : s₁.heap.get? a = some { cls := .type "list", data := .seq vs.toArray }) (allI : IntsAre vs ns) (short : ns.length ≤ sizeLine) (room : Rm k callerA)
    (F : ∀ base : Heap, K.In base → base.Ns mainGlobals mg → FnG P w K mg base CX k fa fd [x] sp) (bound : ∀ (s : Shared) (u : Value), BindsTo s fd ⟨[u], []⟩ [(x, u)])
    (hsp : ∀ H : Hp, Only H → SqL K H a (ns.map V.int) → sp [.ref a] H (fun v _ => v = .bl true) fun _ _ _ => False)
    (noexc : ∀ H e s', CX [] H s₁ (fun _ _ _ => False) e s' → False) :
    codeAny (model P w) callerA (.call (.ref fa) ⟨[.ref a], []⟩) (fun r s' => r = .ok (.ret (.bool true)) ∧ OldK s₁.heap s'.heap ∧ s'.os = s₁.os ∧ AllBare s'.gens) s₁ := by
  have rv := vals_ints allI
  have lenV := allI.length
  have core : ∀ H : Hp, Only H → SqL K H a (ns.map V.int) → HOk P w H s₁.heap → (∀ b, H b ≠ none → b = a) → (H a ≠ none → K.lookup a = none) →
      codeAny (model P w) callerA (.call (.ref fa) ⟨[.ref a], []⟩) (fun r s' => r = .ok (.ret (.bool true)) ∧ OldK s₁.heap s'.heap ∧ s'.os = s₁.os ∧ AllBare s'.gens) s₁ := by
    intro H only sq hok onlyA notK
    have noDict : ∀ {b : Addr} {o : Obj} {es : Array DictEntry} {ep : Nat}, s₁.heap.get? b = some o → o.data = .dict es ep → H b = none := by
      intro b o es ep e d
      rcases hq : H b with _ | u
      · rfl
      · have hb : b = a := onlyA b (by rw [hq]; exact nofun)
        subst hb
        rw [atA] at e
        cases e
        cases (show Data.seq vs.toArray _ = Data.dict es ep from d)
    have nsK : ∀ {b : Addr} {m : Str → Option Value}, s₁.heap.Ns b m → (hidT s₁.heap H).Ns b m := by
      rintro b m ⟨o, es, ep, e, d, r⟩
      exact ⟨o, es, ep, hidT_get e (noDict e d), d, r⟩
    have kinB : K.In (hidT s₁.heap H) := by
      intro b o e
      refine hidT_get (kin b o e) ?_
      rcases hq : H b with _ | u
      · rfl
      · have hb : b = a := onlyA b (by rw [hq]; exact nofun)
        subst hb
        rw [notK (by rw [hq]; exact nofun)] at e
        cases e
    obtain ⟨mc, c1, c2⟩ := nolim
    have mod : Mod K mg (hidT s₁.heap H) := ⟨kinB, nsK glob, ⟨mb, nsK blt, boot⟩, mc, nsK c1, c2⟩
    have e0 : Env0 P w K mg (hidT s₁.heap H) callerA [] s₁ H :=
      ⟨rfl, mod, fun b o e => of_hidT e, Nat.le_of_eq (hidT_size _ _), trivial, fun b hb => absurd (show b ∈ ([] : List Addr) from hb) (by simp), hok, .of_eq nogens⟩
    refine codeAny_mono ((F _ kinB (nsK glob)).run callerA [] s₁ H ⟨[.ref a], []⟩ [.ref a] [.ref a] _ _ room e0 (bound s₁ (.ref a)) (.cons rfl .nil) (hsp H only sq)) ?_
    intro r s' ends
    cases r with
    | error e => exact (noexc H e s' ends).elim
    | ok fl =>
      cases fl with
      | next => exact ends.elim
      | brk => exact ends.elim
      | cont => exact ends.elim
      | ret u =>
        obtain ⟨v, H', os, bare, un, hok', r', q⟩ := ends
        obtain rfl : v = .bl true := q
        obtain rfl : u = Value.bool true := r'
        refine ⟨rfl, OldK.of_keep ?_, os, bare⟩
        intro b o e
        rcases hq : H b with _ | u
        · exact un.keep b o e hq (fun z => absurd (show b ∈ ([] : List Addr) from z) (by simp)) (by simp)
        · rcases only b with z | ⟨ob, xs, z⟩
          · rw [hq] at z; cases z
          · obtain ⟨e1, _⟩ := hok b _ z
            obtain ⟨e2, _⟩ := hok' b _ (un.frzs b ob _ z)
            rw [e] at e1
            cases e1
            exact e2
  rcases hk : K.lookup a with _ | o
  · refine core (fun b => if b = a then some (.frz { cls := .type "list", data := .seq vs.toArray } (.lst (ns.map V.int))) else none) (fun b => ?_) (.inl (.inr ⟨{ cls := .type "list", data := .seq vs.toArray }, if_pos rfl⟩)) (fun b u z => ?_) (fun b z => ?_) fun _ => hk
    · rcases Decidable.em (b = a) with hb | hb
      · right; exact ⟨_, _, if_pos hb⟩
      · left; exact if_neg hb
    · rcases Decidable.em (b = a) with hb | hb
      · have z' := (if_pos hb).symm.trans z
        cases z'
        subst hb
        exact ⟨atA, by rw [List.length_map]; exact short, vs, _, rv, atA⟩
      · have z' := (if_neg hb).symm.trans z
        cases z'
    · rcases Decidable.em (b = a) with hb | hb
      · exact hb
      · exact absurd (if_neg hb) z
  · have e := kin a o hk
    rw [atA] at e
    cases e
    exact core (fun _ => none) (fun _ => .inl rfl) (.inr ⟨_, vs.toArray, _, hk, rfl, rfl, rfl, by rw [List.size_toArray, lenV]; exact short, by simpa using rv⟩)
      (fun b u z => by cases (show (none : Option HO) = some u from z)) (fun b z => absurd rfl z) (fun z => absurd rfl z)

/-- the end of a walk -/
theorem walkG_of {l : PySem.W.OpenLaw} {n k : Nat} {q : Program} {loose : List Str} {XP : (Str → Option Value) → Heap → Prop} {YP : World → Heap → Prop} {d : DefRec} {K : Params → PySem.W.Frag} {CX : World → CXT} {sp : World → Sp} {x : Str}
    (most : l.most = some n) (short : n ≤ sizeLine) (nodef : d.params.defaults = []) (room : Rm k callerA) (hY : ∀ (w : World) (h : Heap), YP w h → (K w.params).In h)
    (F : ∀ (w : World) (mg : Str → Option Value) (fa : Addr) (h : Heap), (K w.params).In h → h.Ns mainGlobals mg → mg d.name = some (.ref fa) →
      ∃ fd : FuncData, (∀ (s : Shared) (u : Value), BindsTo s fd ⟨[u], []⟩ [(x, u)]) ∧
        ∀ base : Heap, (K w.params).In base → base.Ns mainGlobals mg → FnG l.prog w (K w.params) mg base (CX w) k fa fd [x] (sp w))
    (hsp : ∀ (w : World) (H : Hp) (a : Addr) (ns : List Int), ns.length ≤ n → (∀ z ∈ ns, Builtin.Int.intBits z ≤ 1048576) → Only H → SqL (K w.params) H a (ns.map V.int) → sp w [.ref a] H (fun v _ => v = .bl true) fun _ _ _ => False)
    (noexc : ∀ (w : World) (H : Hp) (s : Shared) (e : Value) (s' : Shared), CX w [] H s (fun _ _ _ => False) e s' → False) :
    PySem.W.WalkO q loose XP YP l.row.toRowW d [] (fun f vs => PySem.call f vs) := by
  refine Att.attach_callB most nodef ?_
  intro w s₀ s₁ mg mb fa o pm cd doc a vs ns G Y ho hd hcd hmg hobj hints hlen hbits hg
  have kin := hY w _ Y
  obtain ⟨fd, bound, hF⟩ := F w mg fa _ kin G.T.g hmg
  exact lawG_call kin G.T.g G.T.b G.T.builtins G.T.nolimit hg hobj hints (Nat.le_trans hlen short) room hF bound (fun H only sq => hsp w H a ns hlen hbits only sq) (fun H e s' => noexc w H s₁ e s')
end DL
/-! # DL, defs, loops, the store -/
namespace DL
open PySem PySem.Spec L2
open PyProof.Rows hiding St

/-! ### what a def promises, told of data -/
abbrev FD := List D → Mu → Out D
def PostF (c : Ct) (H : Hp) (o : Out D) (Q : VK) (E : XK) : Prop := match o with
  | .ok d m => ∀ v H', Fin c H H' m v d → Q v H'
  | .exn x fs m => ∀ cls dd c' H', Stp c c' H H' → MRel c' H' m → ExR c' H' cls dd x fs → E cls dd H'
  | .stuck => False
def spOf (K : PySem.W.Frag) (n : Nat) (F : FD) : Sp := fun vs H Q E => ∃ c μ ds, c.K = K ∧ MRel c H μ ∧ Reps c H vs ds ∧ ds.length = n ∧ PostF c H (F ds μ) Q E
def SOut.out : SOut → Out D
  | .nx _ m => .ok .non m
  | .rt d m => .ok d m
  | .exn x fs _ m => .exn x fs m
  | _ => .stuck
/-- the names at the entry -/
def env0 (N : Nat) (ds : List D) : Env := ds.map (fun d => some (.val d)) ++ List.replicate (N - ds.length) none
/-- a def of n parameters and N names -/
def mFn (n N : Nat) (m : SS) : FD := fun ds μ => if ds.length = n then (m (env0 N ds) μ).out else .stuck

theorem start_get {N : List Str} {vs : List V} {i : Nat} {v : V} (h : vs[i]? = some v) : (L2.start N vs)[i]? = some (some v) := by
  unfold L2.start
  obtain ⟨hl, _⟩ := List.getElem?_eq_some_iff.mp h
  rw [List.getElem?_append_left (by rw [List.length_map]; exact hl), List.getElem?_map, h]
  rfl
theorem env0_get {N : Nat} {ds : List D} {i : Nat} {s : Slot} (h : (env0 N ds)[i]? = some (some s)) : ∃ d, ds[i]? = some d ∧ s = .val d := by
  unfold env0 at h
  by_cases hl : i < ds.length
  · rw [List.getElem?_append_left (by rw [List.length_map]; exact hl), List.getElem?_map, List.getElem?_eq_getElem hl] at h
    cases h
    exact ⟨_, List.getElem?_eq_getElem hl, rfl⟩
  · rw [List.getElem?_append_right (by rw [List.length_map]; omega)] at h
    obtain ⟨_, q⟩ := List.getElem?_eq_some_iff.mp h
    rw [List.getElem_replicate] at q
    cases q
theorem frR_start {c : Ct} {H : Hp} {μ : Mu} {N : List Str} {vs : List V} {ds : List D} (M : MRel c H μ) (r : Reps c H vs ds) (hl : vs.length ≤ N.length) : FrR ⟨c, H, [], []⟩ c H (L2.start N vs) (env0 N.length ds) μ := by
  refine ⟨⟨⟨fun i d h => ?_, fun i l h => ?_, fun i j l l' a _ h => ?_⟩, M, ?_⟩, ⟨rfl, rfl, ⟨[], by simp, by simp⟩, fun _ _ h _ => h, fun _ o h => ⟨o, h⟩⟩, ⟨[], rfl⟩, fun i l a h => ?_, .nil⟩
  · obtain ⟨e, h1, h2⟩ := env0_get h
    cases h2
    obtain ⟨v, h3, h4⟩ := r.getD h1
    exact ⟨v, start_get h3, h4⟩
  · obtain ⟨e, h1, h2⟩ := env0_get h
    cases h2
  · obtain ⟨e, h1, h2⟩ := env0_get h
    cases h2
  · unfold env0 L2.start
    rw [List.length_append, List.length_append, List.length_map, List.length_map, List.length_replicate, List.length_replicate, r.length]
  · obtain ⟨e, h1, h2⟩ := env0_get h
    cases h2

section
variable {P : Program} {w : World} {K : PySem.W.Frag} {mg : Str → Option Value} {base : Heap}
abbrev WE' (E : XK) : WX := fun cls d _ H => E cls d H
/-- a def by its body -/
theorem fn_data {x qual : Str} {params : Arguments} {body : List Stmt} {scope : Scope} {dvs : List V} {kws : List (Str × V)} {f : Addr} {fd : FuncData} {N ps : List Str} {k : Nat} {m : SS} (F : FunD K x qual params body scope dvs kws f fd) (S : FnScope N ps scope) (hNp : ps.length ≤ N.length)
    (hb : ∀ (cdv : Value) (A : Around) (outer : List PySem.Env) (s : Shared) (H : Hp) (E : XK), Rm k (A.deeper (envOfC qual scope s.heap.objs.size f cdv)) →
      PSDs (cxOf (L2.CX P w) P w K mg base N qual scope f cdv A outer s H E) (WE' E) body m) : FnG P w K mg base (L2.CX P w) (k + 1) f fd ps (spOf K ps.length (mFn ps.length N.length m)) := by
  refine fnG_of F S (fun vs H Q E h => ?_) (fun cdv A outer s H vs Q E hr h => ?_)
  · obtain ⟨c, μ, ds, _, _, r, e, _⟩ := h
    rw [r.length, e]
  · obtain ⟨c, μ, ds, hK, M, r, e, p⟩ := h
    obtain ⟨t, h1, h2⟩ := hb cdv A outer s H E hr
    refine ⟨t, h1, h2 ⟨c, H, [], []⟩ c H (L2.start N vs) (env0 N.length ds) μ hK (frR_start M r (by rw [r.length, e]; exact hNp)) _ ?_⟩
    unfold mFn at p
    rw [if_pos e] at p
    cases q : m (env0 N.length ds) μ with
    | nx ρ' μ' =>
      rw [q] at p
      exact fun c' H' σ' f' => p .non H' (f'.fin .non)
    | rt d μ' => rw [q] at p; exact fun H' v f' => p v H' f'
    | exn y fs ρ' μ' =>
      rw [q] at p
      intro c' H' σ' cls dd f' r'
      obtain ⟨more, eb⟩ := f'.br
      have hbr : ∀ a ∈ c.br, a ∈ c'.br := fun a z => by rw [eb]; exact List.mem_append_right _ z
      refine p cls dd ⟨c'.K, c'.cs, c.br⟩ H' f'.stp (f'.ok.m.lessB hbr) ⟨r'.cls, ?_⟩
      rcases r'.fs with z | ⟨d, ff, v, e', z1, z2, z3, z4, z5⟩
      · exact .inl z
      · exact .inr ⟨d, ff, v, e', z1, z2, z3, z4, z5.lessB hbr⟩
    | bk ρ' μ' => rw [q] at p; exact p.elim
    | ct ρ' μ' => rw [q] at p; exact p.elim
    | stuck => rw [q] at p; exact p.elim

/-- a def of the module that may be called by its name -/
structure Cal (P : Program) (w : World) (K : PySem.W.Frag) (mg : Str → Option Value) (base : Heap) (k : Nat) (x : Str) (n : Nat) (F : FD) : Prop where
  ex : ∃ f fd ps, mg x = some (.ref f) ∧ PySem.W.keepIn K (.ref f) = true ∧ FnG P w K mg base (L2.CX P w) k f fd ps (spOf K n F) ∧ Binds K fd ps [] ∧ ps.length = n
end

section
variable {X : Cx} {W : WX} {b : Bool} {e : Expr} {es : List Expr} {mr : SA} {x : Str} {p pos : Pos} {k j n : Nat} {F : FD}
/-- with the number of arguments looked at -/
def mCall (n : Nat) (F : FD) (mr : SA) : SE := fun ρ μ => (mr ρ μ).bnd fun ds μ1 => if ds.length = n then F ds μ1 else .stuck
theorem fin_post {c c1 : Ct} {H H1 : Hp} {m : Mu} {v : V} {d : D} {σ : St} {Q : VK} (p : Post b c σ H W (.ok d m) Q) (s : Stp c c1 H H1) {H2 : Hp} (f : Fin c1 H1 H2 m v d) : Q v H2 := by
  obtain ⟨c2, s2, M2, r2⟩ := f
  exact p v c2 H2 (s.trans s2) M2 r2.f
theorem pd_call (c : Cal X.prog X.w X.K X.mg X.base k x n F) (hr : Rm j X.A) (hk : k ≤ j) (tk : Takes X W) (ha : PDA X W false (e :: es) mr) (hg : Gl X x := by rfl) (hdb : (x == ("__debug__" : Str)) = false := by decide)
    (he : starEach (e :: es) X.env = (false, eval e X.env) :: starEach es X.env := by rfl) (hpl : (backTo pos (starEach es X.env)).any (·.1) = false := by rfl) : PD X W b (.Call (.Name x p) (e :: es) [] pos) (mCall n F mr) := by
  obtain ⟨f, fd, ps, hm, hkp, G, hb, hn⟩ := c.ex
  obtain ⟨t, h1, h2⟩ := ha
  refine ⟨_, pe_callG G (hr.mono hk) hg hm hkp hb (fun σ => passAt tk σ) h1 hdb he hpl, fun c0 H σ ρ μ hK k Q p => ?_⟩
  refine h2 c0 H σ ρ μ hK k _ (PostG.bnd p fun ds μ1 vs c1 H1 s1 M1 r1 p1 => ?_)
  by_cases hl : ds.length = n
  · rw [if_pos hl] at p1
    refine ⟨c1, μ1, ds, s1.K.trans hK, M1, r1.reps, hl, ?_⟩
    cases q : F ds μ1 with
    | ok d m => rw [q] at p1; exact fun v H' f' => fin_post p1 (Stp.refl _ _) f'
    | exn y fs m => rw [q] at p1; exact fun cls dd c' H' s M r => p1 cls dd c' H' s M r
    | stuck => rw [q] at p1; exact p1
  · rw [if_neg hl] at p1
    exact p1.elim
end

/-! ### loops: for x in range(..) -/
def rngL (lo : Int) (n : Nat) : List D := (List.range n).map fun (i : Nat) => D.int (lo + (i : Int))
/-- a target: what it does to the names -/
abbrev TgD := D → Env → Option Env
/-- the body for each item; nx: what stands behind the loop -/
def forL (tg : TgD) (m : SS) : List D → SS
  | [], ρ, μ => .nx ρ μ
  | d :: r, ρ, μ => match tg d ρ with
    | none => .stuck
    | some ρ1 => (match m ρ1 μ with
      | .nx ρ2 μ2 => forL tg m r ρ2 μ2
      | .ct ρ2 μ2 => forL tg m r ρ2 μ2
      | .bk ρ2 μ2 => .nx ρ2 μ2
      | o => o)
def sFor (mi : Env → Mu → Out (List D)) (tg : TgD) (m : SS) : SS := fun ρ μ => (mi ρ μ).go ρ fun ds μ1 => forL tg m ds ρ μ1
/-- a target's reading bears it -/
def SimG (K : PySem.W.Frag) (g : TG) (tg : TgD) : Prop := ∀ (B : Bs) (c : Ct) (H : Hp) (σ : St) (ρ : Env) (μ : Mu) (v : V) (d : D), c.K = K → FrR B c H σ ρ μ → Rep c H v d → ∀ ρ1, tg d ρ = some ρ1 → ∀ Q : St → Hp → Prop, (∀ σ1, FrR B c H σ1 ρ1 μ → Q σ1 H) → g v σ H Q
def PGD (X : Cx) (e : Expr) (tg : TgD) : Prop := ∃ g, PG X e g ∧ SimG X.K g tg
def tgName (i : Nat) : TgD := fun d ρ => some (setE ρ i d)
theorem pgd_name {X : Cx} {i : Nat} {x : Str} {pos : Pos} (hN : X.N.Nodup) (hi : X.N[i]? = some x := by rfl) (hx : Loc X.env.scope x := by first | exact Or.inl rfl | exact Or.inr rfl) (hf : X.fn x = true ∨ X.env.scope.names.lookup x = some .local := by first | exact .inl rfl | exact .inr rfl | assumption) : PGD X (.Name x pos) (tgName i) :=
  ⟨_, pg_name hN hi hx hf, fun B c H σ ρ μ v d hK f r ρ1 e Q q => by cases e; exact q _ (f.setv r)⟩
/-- several targets of a tuple's items -/
def tgNil : List D → Env → Option Env
  | [], ρ => some ρ
  | _, _ => none
def tgCons (t : TgD) (u : List D → Env → Option Env) : List D → Env → Option Env
  | d :: r, ρ => (t d ρ).bind fun ρ1 => u r ρ1
  | [], _ => none
def tgTup (u : List D → Env → Option Env) : TgD
  | .tup l, ρ => u l ρ
  | _, _ => none
def SimGs (K : PySem.W.Frag) (g : TGs) (tg : List D → Env → Option Env) : Prop := ∀ (B : Bs) (c : Ct) (H : Hp) (σ : St) (ρ : Env) (μ : Mu) (vs : List V) (ds : List D), c.K = K → FrR B c H σ ρ μ → Reps c H vs ds → ∀ ρ1, tg ds ρ = some ρ1 → ∀ Q : St → Hp → Prop, (∀ σ1, FrR B c H σ1 ρ1 μ → Q σ1 H) → g vs σ H Q
def PGDs (X : Cx) (es : List Expr) (n : Nat) (tg : List D → Env → Option Env) : Prop := ∃ g, PGs X es g ∧ SimGs X.K g tg ∧ ∀ ds ρ ρ1, tg ds ρ = some ρ1 → ds.length = n
theorem sim_gnil {K : PySem.W.Frag} : SimGs K gNil tgNil := by
  intro B c H σ ρ μ vs ds hK f r ρ1 e Q q
  cases ds with
  | nil => cases e; cases r; exact ⟨rfl, q _ f⟩
  | cons _ _ => cases e
theorem pgds_nil {X : Cx} : PGDs X [] 0 tgNil := ⟨_, pgs_nil, sim_gnil, fun ds ρ ρ1 e => by
  cases ds with
  | nil => rfl
  | cons _ _ => cases e⟩
theorem sim_gcons {K : PySem.W.Frag} {g : TG} {gs : TGs} {t : TgD} {u : List D → Env → Option Env} (h1 : SimG K g t) (h2 : SimGs K gs u) : SimGs K (gCons g gs) (tgCons t u) := by
  intro B c H σ ρ μ vs ds hK f r ρ1 e Q q
  cases ds with
  | nil => cases e
  | cons d rest =>
    cases r with
    | cons r rr =>
      have e' : (t d ρ).bind (fun ρ1 => u rest ρ1) = some ρ1 := e
      cases e1 : t d ρ with
      | none => rw [e1] at e'; cases e'
      | some ρ2 =>
        rw [e1, Option.bind_some] at e'
        exact ⟨_, _, rfl, h1 B c H σ ρ μ _ d hK f r ρ2 e1 _ fun σ1 f1 => h2 B c H σ1 ρ2 μ _ rest hK f1 rr ρ1 e' Q q⟩
theorem pgds_cons {X : Cx} {e : Expr} {es : List Expr} {n : Nat} {t : TgD} {u : List D → Env → Option Env} (h1 : PGD X e t) (h2 : PGDs X es n u) (hs : (assignEach (e :: es) X.env).map (·.2) = assign e X.env :: (assignEach es X.env).map (·.2) := by rfl) : PGDs X (e :: es) (n + 1) (tgCons t u) := by
  obtain ⟨g, a1, a2⟩ := h1
  obtain ⟨gs, b1, b2, b3⟩ := h2
  refine ⟨_, pgs_cons a1 b1 hs, sim_gcons a2 b2, fun ds ρ ρ1 e => ?_⟩
  cases ds with
  | nil => cases e
  | cons d rest =>
    have e' : (t d ρ).bind (fun ρ1 => u rest ρ1) = some ρ1 := e
    cases e1 : t d ρ with
    | none => rw [e1] at e'; cases e'
    | some ρ2 =>
      rw [e1, Option.bind_some] at e'
      rw [List.length_cons, b3 rest ρ2 ρ1 e']
theorem pgd_tup {X : Cx} {es : List Expr} {k n : Nat} {u : List D → Env → Option Env} {pos : Pos} (hc : X.calm = true) (h : PGDs X es n u) (hn : (assignEach es X.env).length = n := by rfl) (hst : (assignEach es X.env).findIdx? (·.1) = none := by rfl) : PGD X (.Tuple es k pos) (tgTup u) := by
  obtain ⟨gs, b1, b2, b3⟩ := h
  refine ⟨_, pg_tup hc b1 hn hst, fun B c H σ ρ μ v d hK f r ρ1 e Q q => ?_⟩
  cases d with
  | tup l =>
    obtain ⟨a, vs, rfl, h1, h2, h3⟩ := rep_tup (b := false) r.f
    exact ⟨a, vs, rfl, SqT.of h2, by rw [h3.length]; exact b3 l ρ ρ1 e, b2 B c H σ ρ μ vs l hK f h3 ρ1 e Q q⟩
  | _ => cases e

/-! ### what is walked -/
/-- J walks the data ds wherever G stands -/
structure Wlk (J : It) (G : Ct → Hp → Prop) (ds : List D) : Prop where
  go : ∀ i c H, i < ds.length → G c H → J.go i H
  stop : ∀ c H, G c H → J.stop ds.length H
  yld : ∀ i c H x H', G c H → i < ds.length → J.yld i H x H' → Same H H' ∧ ∃ d, ds[i]? = some d ∧ Rep c H' x d
/-- what is walked is held (v as d), or hangs on nothing -/
inductive Hld (J : It) (ds : List D) : List V → List D → Prop
  | free (h : Wlk J (fun _ _ => True) ds) : Hld J ds [] []
  | one {v : V} {d : D} (h : Wlk J (fun c H => Rep c H v d) ds) : Hld J ds [v] [d]
  | two {v v' : V} {d d' : D} (h : Wlk J (fun c H => Rep c H v d ∧ Rep c H v' d') ds) : Hld J ds [v, v'] [d, d']
theorem Hld.wlk {J : It} {ds : List D} {vs : List V} {es : List D} (h : Hld J ds vs es) : Wlk J (fun c H => Reps c H vs es) ds := by
  cases h with
  | free h => exact ⟨fun i c H hi _ => h.go i c H hi trivial, fun c H _ => h.stop c H trivial, fun i c H x H' _ => h.yld i c H x H' trivial⟩
  | one h =>
    rename_i v d
    have q : ∀ {c H}, Reps c H [v] [d] → Rep c H v d := fun r => by cases r with | cons r _ => exact r
    exact ⟨fun i c H hi r => h.go i c H hi (q r), fun c H r => h.stop c H (q r), fun i c H x H' r => h.yld i c H x H' (q r)⟩
  | two h =>
    rename_i v v' d d'
    have q : ∀ {c H}, Reps c H [v, v'] [d, d'] → Rep c H v d ∧ Rep c H v' d' := fun r => by
      cases r with
      | cons r t => cases t with | cons r' _ => exact ⟨r, r'⟩
    exact ⟨fun i c H hi r => h.go i c H hi (q r), fun c H r => h.stop c H (q r), fun i c H x H' r => h.yld i c H x H' (q r)⟩
abbrev SI := Env → Mu → Out (List D)
abbrev PostI := PostG (α := List D) (β := It) (fun c H J ds => ∃ vs es, Hld J ds vs es ∧ Reps c H vs es)
def SimI (K : PySem.W.Frag) (W : WX) (wi : TI) (m : SI) : Prop := ∀ c H σ ρ μ, c.K = K → Ok c H σ ρ μ → ∀ R, PostI c σ H W (m ρ μ) R → wi σ H R
def PID (X : Cx) (W : WX) (tg iter : Expr) (m : SI) : Prop := ∃ wi, PI X tg iter wi ∧ SimI X.K W wi m

/-- the entry with values held besides -/
def Bs.hold (B : Bs) (vs : List V) (es : List D) : Bs := ⟨B.c, B.H, vs ++ B.zs, es ++ B.zd⟩
theorem Reps.split {c : Ct} {H : Hp} {zs : List V} {zd : List D} : ∀ {vs : List V} {es : List D}, vs.length = es.length → Reps c H (vs ++ zs) (es ++ zd) → Reps c H vs es ∧ Reps c H zs zd
  | [], [], _, r => ⟨.nil, r⟩
  | v :: vs, e :: es, h, .cons r t => let ⟨a, b⟩ := Reps.split (by simpa using h) t; ⟨.cons r a, b⟩
theorem FrR.hold {B : Bs} {c : Ct} {H : Hp} {σ : St} {ρ : Env} {μ : Mu} {vs : List V} {es : List D} (f : FrR B c H σ ρ μ) (r : Reps c H vs es) : FrR (B.hold vs es) c H σ ρ μ := ⟨f.ok, f.stp, f.br, f.own0, r.append f.held⟩
theorem FrR.drop {B : Bs} {c : Ct} {H : Hp} {σ : St} {ρ : Env} {μ : Mu} {vs : List V} {es : List D} (f : FrR (B.hold vs es) c H σ ρ μ) (h : vs.length = es.length) : FrR B c H σ ρ μ ∧ Reps c H vs es :=
  ⟨⟨f.ok, f.stp, f.br, f.own0, (Reps.split h f.held).2⟩, (Reps.split h f.held).1⟩
section
variable {X : Cx} {W : WX} {m : SS} {mi : SI} {tg : TgD} {target iter : Expr} {body : List Stmt} {pos : Pos}
theorem sim_for {K : PySem.W.Frag} {wi : TI} {g : TG} {tb : TS} (h1 : SimI K W wi mi) (h2 : SimG K g tg) (h3 : SimS K W tb m) : SimS K W (tFor wi g tb) (sFor mi tg m) := by
  intro B c H σ ρ μ hK f D p
  refine h1 c H σ ρ μ hK f.ok _ (f.go p fun ds μ1 J c1 H1 s1 f1 r p1 => ?_)
  obtain ⟨vs, es, hl, r⟩ := r
  have wk := hl.wlk
  have el : vs.length = es.length := r.length
  refine ⟨fun i mm σ' H' => mm + i = ds.length ∧ ∃ c' ρ' μ', FrR (B.hold vs es) c' H' σ' ρ' μ' ∧ PostS B W (forL tg m (ds.drop i) ρ' μ') D, ⟨ds.length, by omega, c1, ρ, μ1, f1.hold r, p1⟩, ?_⟩
  rintro i mm σ' H' ⟨em, c', ρ', μ', f', p'⟩
  obtain ⟨fB, rB⟩ := f'.drop el
  by_cases hi : i < ds.length
  · refine .inr ⟨wk.go i c' H' hi rB, fun σ2 H2 => ∃ c2 ρ2 μ2, FrR (B.hold vs es) c2 H2 σ2 ρ2 μ2 ∧ PostS B W (forL tg m (ds.drop (i + 1)) ρ2 μ2) D, fun σ2 H2 ⟨c2, ρ2, μ2, q1, q2⟩ => ⟨mm - 1, by omega, by omega, c2, ρ2, μ2, q1, q2⟩, fun x H2 y => ?_⟩
    obtain ⟨sm, d, hd, rd⟩ := wk.yld i c' H' x H2 rB hi y
    have e1 : ds.drop i = d :: ds.drop (i + 1) := by
      obtain ⟨hl2, q⟩ := List.getElem?_eq_some_iff.mp hd
      rw [← q]
      exact (List.drop_eq_getElem_cons hl2)
    rw [e1] at p'
    have f2 : FrR (B.hold vs es) c' H2 σ' ρ' μ' := f'.step (Stp.same sm) (f'.ok.m.same sm)
    have p2 : PostS B W (match tg d ρ' with
      | none => .stuck
      | some ρ1 => (match m ρ1 μ' with
        | .nx ρ2 μ2 => forL tg m (ds.drop (i + 1)) ρ2 μ2
        | .ct ρ2 μ2 => forL tg m (ds.drop (i + 1)) ρ2 μ2
        | .bk ρ2 μ2 => .nx ρ2 μ2
        | o => o)) D := p'
    cases et : tg d ρ' with
    | none => rw [et] at p2; exact p2.elim
    | some ρ1 =>
      rw [et] at p2
      refine h2 (B.hold vs es) c' H2 σ' ρ' μ' x d (f'.K.trans (f.K.symm.trans hK)) f2 rd ρ1 et _ fun σ1 f3 => ?_
      refine h3 (B.hold vs es) c' H2 σ1 ρ1 μ' (f'.K.trans (f.K.symm.trans hK)) f3 _ ?_
      have p3 : PostS B W (match m ρ1 μ' with
        | .nx ρ2 μ2 => forL tg m (ds.drop (i + 1)) ρ2 μ2
        | .ct ρ2 μ2 => forL tg m (ds.drop (i + 1)) ρ2 μ2
        | .bk ρ2 μ2 => .nx ρ2 μ2
        | o => o) D := p2
      clear p2
      have p2 := p3
      clear p3
      cases eo : m ρ1 μ' with
      | nx ρ2 μ2 => rw [eo] at p2; exact fun c3 H3 σ3 f4 => ⟨c3, ρ2, μ2, f4, p2⟩
      | ct ρ2 μ2 => rw [eo] at p2; exact fun c3 H3 σ3 f4 => ⟨c3, ρ2, μ2, f4, p2⟩
      | bk ρ2 μ2 => rw [eo] at p2; exact fun c3 H3 σ3 f4 => p2 c3 H3 σ3 (f4.drop el).1
      | rt d2 μ2 => rw [eo] at p2; exact fun H3 v3 f4 => p2 H3 v3 f4
      | exn y fs ρ2 μ2 => rw [eo] at p2; exact fun c3 H3 σ3 cls dd f4 r4 => p2 c3 H3 σ3 cls dd (f4.drop el).1 r4
      | stuck => rw [eo] at p2; exact p2.elim
  · have e : i = ds.length := by omega
    subst e
    rw [List.drop_length] at p'
    exact .inl ⟨wk.stop c' H' rB, p' c' H' σ' fB⟩
theorem psd_for (hp : PassesOwn (model X.prog X.w) X.A X.env X.xe) (hc : X.calm = true) (hi : PID X W target iter mi) (hg : PGD X target tg) (hb : PSDs X W body m) (hs : ∀ x, foldedSetIterable iter X.env x = pure x := by intro _; rfl) : PSD X W (.For target iter body [] pos) (sFor mi tg m) := by
  obtain ⟨wi, a1, a2⟩ := hi
  obtain ⟨g, b1, b2⟩ := hg
  obtain ⟨t, c1, c2⟩ := hb
  exact ⟨_, ps_for hp hc a1 b1 c1 hs, sim_for a2 b2 c2⟩

/-! ### range, lists, tuples -/
theorem wlk_range (lo : Int) (n : Nat) : Wlk (Itr lo n) (fun _ _ => True) (rngL lo n) := by
  have hl : (rngL lo n).length = n := by simp [rngL]
  refine ⟨fun i c H hi _ => ?_, fun c H _ => ?_, fun i c H x H' _ hi y => ?_⟩
  · rw [hl] at hi; exact hi
  · rw [hl]; exact Nat.le_refl _
  · obtain ⟨e1, e2⟩ := y
    subst e1 e2
    rw [hl] at hi
    exact ⟨Same.refl _, .int (lo + i), by simp [rngL, hi], .int _⟩
def in62 (j : Int) : Bool := decide (-(2 ^ 62) ≤ j) && decide (j < 2 ^ 62)
theorem in62_ok {j : Int} (h : in62 j = true) : -(2 ^ 62) ≤ j ∧ j < 2 ^ 62 := by
  obtain ⟨a, b⟩ := Bool.and_eq_true_iff.mp h
  exact ⟨of_decide_eq_true a, of_decide_eq_true b⟩
def fRng1 : List D → Mu → Out (List D)
  | [.int j], m => if in62 j = true then .ok (rngL 0 j.toNat) m else .stuck
  | _, _ => .stuck
def fRng2 : List D → Mu → Out (List D)
  | [.int i, .int j], m => if in62 i = true ∧ in62 j = true then .ok (rngL i (j - i).toNat) m else .stuck
  | _, _ => .stuck
def mRng (f : List D → Mu → Out (List D)) (ma : SA) : SI := fun ρ μ => (ma ρ μ).bnd f
theorem pid_range1 {a : Expr} {p : Pos} {ma : SA} (hm : X.mg "range" = none) (ha : PDA X W true [a] ma) (hg : Gl X "range" := by rfl) (hs : starEach [a] X.env = [(false, eval a X.env)] := by rfl) : PID X W target (.Call (.Name "range" p) [a] [] pos) (mRng fRng1 ma) := by
  obtain ⟨t, h1, h2⟩ := ha
  refine ⟨_, pi_range1 hg hm h1 hs, fun c H σ ρ μ hK k R q => ?_⟩
  refine h2 c H σ ρ μ hK k _ (PostG.bnd q fun ds μ1 vs c1 H1 s1 M1 r1 p1 => ?_)
  unfold fRng1 at p1
  split at p1
  · rename_i m j
    split at p1
    · rename_i hj
      obtain ⟨v, rfl, rv⟩ := repsF_one r1
      exact ⟨j, by rw [rep_int rv], (in62_ok hj).1, (in62_ok hj).2, p1 _ c1 H1 (Stp.refl _ _) M1 ⟨[], [], .free (wlk_range 0 j.toNat), .nil⟩⟩
    · exact p1.elim
  · exact p1.elim
theorem pid_range2 {a b : Expr} {p : Pos} {ma : SA} (hm : X.mg "range" = none) (ha : PDA X W true [a, b] ma) (hg : Gl X "range" := by rfl) (hs : starEach [a, b] X.env = [(false, eval a X.env), (false, eval b X.env)] := by rfl) (hs2 : starEach [b] X.env = [(false, eval b X.env)] := by rfl) : PID X W target (.Call (.Name "range" p) [a, b] [] pos) (mRng fRng2 ma) := by
  obtain ⟨t, h1, h2⟩ := ha
  refine ⟨_, pi_range2 hg hm h1 hs hs2, fun c H σ ρ μ hK k R q => ?_⟩
  refine h2 c H σ ρ μ hK k _ (PostG.bnd q fun ds μ1 vs c1 H1 s1 M1 r1 p1 => ?_)
  unfold fRng2 at p1
  split at p1
  · rename_i m i j
    split at p1
    · rename_i hj
      obtain ⟨v, w, rfl, rv, rw_⟩ := repsF_two r1
      exact ⟨i, j, by rw [rep_int rv, rep_int rw_], ⟨(in62_ok hj.1).1, (in62_ok hj.1).2, (in62_ok hj.2).1, (in62_ok hj.2).2⟩, p1 _ c1 H1 (Stp.refl _ _) M1 ⟨[], [], .free (wlk_range i (j - i).toNat), .nil⟩⟩
    · exact p1.elim
  · exact p1.elim
end
end DL
/-! # Dk: an own error class called with keywords -/
namespace PySem
namespace EX
open PySem.W PySem.Calls PyProof.Rows PySem.HandSPX
section
variable {prog : Program} {w : World} {A : Around} {M : Model} {E : Value → Shared → Prop} {R : Result → Shared → Prop} {h : Heap} {g : Array GenState} {d : Drawn} {t : Nat} {os : OsState}
variable {nm q : Str} {C N : Addr} {bs bm bmB : List Value} {hdct : Bool} {sn : List Str} {sub : List Value} {ab : Bool} {col : Option Bool} {dd : Option Addr} {k0 k1 k2 k3 k5 : Option Value} {B newId initId : String}
  {rest : List Value} {kw : List (Str × Value)} {fI : Addr}
/-- with keywords: the look at the arguments of __new__ -/
theorem check_newK (F : ExcBaseFacts B newId initId bmB) (hT : ∀ X : String, bm.contains (.type X) = bmB.contains (.type X)) {Q : Unit → Shared → Prop}
    (hC : h.get? C = some (excClassObj nm q C N bs bm hdct sn sub ab col dd k0 k1 k2 k3 k5 newId)) (hq : Q () ⟨h, g, d, t, os⟩) : wpAny M A (checkBuiltinCall newId ⟨.ref C :: rest, kw⟩) Q E ⟨h, g, d, t, os⟩ := by
  have has : (Value.ref C :: bm).contains (.type B) = true := by
    rw [List.contains_cons, hT, F.hasB]
    exact Bool.or_true _
  have short := F.noStar
  simp only [checkBuiltinCall, F.newKind, F.newSplit, F.newRow]
  repeat (first
    | refine wpAny_loadPart_at hC ?_
    | (refine wpAny_isSubtype_exc hC ?_; rw [has])
    | refine wpAny_staticBase_exc hC ?_
    | refine wpAny_madeBy_exc hC ?_
    | simp only [bne_self_eq_false, Bool.false_eq_true, if_false]
    | wp_step)
  exact hq
theorem newK (F : ExcBaseFacts B newId initId bmB) (hT : ∀ X : String, bm.contains (.type X) = bmB.contains (.type X))
    (hC : h.get? C = some (excClassObj nm q C N bs bm hdct sn sub ab col dd k0 k1 k2 k3 k5 newId))
    (fin : R (.ok (.ret (.ref (h.objs.size + 1)))) ⟨(h.push (W.kdv_tup rest)).push (excO C h.objs.size), g, d, t, os⟩) (short : rest.length ≤ sizeLine) :
    codeAny (model prog w) A (.builtin newId ⟨.ref C :: rest, kw⟩) R ⟨h, g, d, t, os⟩ := by
  have ends := F.ends
  have c1 : (Value.ref C :: bm).contains (.type B) = true := by
    rw [List.contains_cons, hT, F.hasB]
    exact Bool.or_true _
  have c2 : (Value.ref C :: bm).contains (.type "AttributeError") = false := by
    rw [List.contains_cons, hT, F.noAttr]
    rfl
  have c3 : (Value.ref C :: bm).contains (.type "NameError") = false := by
    rw [List.contains_cons, hT, F.noName]
    rfl
  refine codeAny_builtinAt F.entry ?_
  unfold Builtin.«BaseException.__new__»
  refine wpAt_bind ?_
  show wpAt _ _ _ (stack >>= _) _ _ _
  refine wpAt_bind (wpAt_stack fun p below => wpAt_of_wpAny ?_)
  wp_walk
  refine wpAt_of_wpAny ?_
  rw [F.owner]
  repeat (first
    | with_reducible refine wpAny_madeHere_exc F.canon hC ?_
    | with_reducible refine wpAny_loadPart_at hC ?_
    | (with_reducible refine wpAny_isSubtype_exc hC ?_; first | rw [c1] | rw [c2] | rw [c3])
    | wp_step)
  show R _ _
  rw [Heap.size_push]
  exact fin
theorem typeCallK (F : ExcBaseFacts B newId initId bmB) (hT : ∀ X : String, bm.contains (.type X) = bmB.contains (.type X)) {Q : Fin → Shared → Prop}
    (hC : h.get? C = some (excClassObj nm q C N bs bm hdct sn sub ab col dd k0 k1 k2 k3 k5 newId))
    (hi : W.Looks (model prog w) h (typeLookup (.ref C) "__init__") (some (.ref fI))) (hb : ∀ self, W.Looks (model prog w) h (bindSpecial (.ref fI) self) (.ref fI, [self])) (short : rest.length ≤ sizeLine)
    (fin : codeAny (model prog w) A (.call (.ref fI) ⟨.ref (h.objs.size + 1) :: rest, kw⟩)
      (fun r s' => match r with | .ok (.ret v) => v = .none ∧ Q (.done (.ret (.ref (h.objs.size + 1)))) s' | .ok _ => False | .error e => E e s')
      ⟨(h.push (W.kdv_tup rest)).push (excO C h.objs.size), g, d, t, os⟩) :
    wpAny (model prog w) A (Builtin.«type.__call__» ⟨.ref C :: rest, kw⟩) Q E ⟨h, g, d, t, os⟩ := by
  repeat (first
    | with_reducible refine wpAny_loadPart_at hC ?_
    | with_reducible refine wpAny_madeBy_exc hC ?_
    | wp_step)
  refine codeAny_call_builtin_code (Code.quiet_builtin _ F.quiet) (check_newK F hT hC ?_)
  refine newK F hT hC ?_ short
  show wpAny _ _ _ _ _ _
  have keep : ∀ b o, h.get? b = some o → ((h.push (W.kdv_tup rest)).push (excO C h.objs.size)).get? b = some o := fun b o e => Heap.get?_push_of_some _ (Heap.get?_push_of_some _ e)
  have hC1 := keep _ _ hC
  have there : ((h.push (W.kdv_tup rest)).push (excO C h.objs.size)).get? (h.objs.size + 1) = some (excO C h.objs.size) := by heap_get
  have own : (Value.ref C :: bm).contains (.ref C) = true := by simp
  have look := hi.keeps keep
  have bound := (hb (.ref (h.objs.size + 1))).keeps keep
  unfold isInstance
  repeat (first
    | with_reducible refine wpAny_loadPart_at there ?_
    | (with_reducible refine wpAny_isSubtype_exc hC1 ?_; rw [own])
    | wp_step)
  show wpAny _ _ (typeLookup (.ref C) _) _ _ _
  refine look.at ?_
  refine wpAny_holding (wpAny_bind (bound.at ?_))
  refine wpAny_bind (wpAny_call (codeAny_mono fin ?_))
  intro r s' z
  rcases r with e | (v | _ | _ | _)
  · exact z
  all_goals first | exact z.elim | skip
  obtain ⟨rfl, z⟩ := z
  first
    | exact wpAny_pure (wpAny_pure z)
    | (wp_walk; exact z)
theorem callK (F : ExcBaseFacts B newId initId bmB) (hT : ∀ X : String, bm.contains (.type X) = bmB.contains (.type X))
    (hC : h.get? C = some (excClassObj nm q C N bs bm hdct sn sub ab col dd k0 k1 k2 k3 k5 newId))
    (hi : W.Looks (model prog w) h (typeLookup (.ref C) "__init__") (some (.ref fI))) (hb : ∀ self, W.Looks (model prog w) h (bindSpecial (.ref fI) self) (.ref fI, [self])) (short : rest.length ≤ sizeLine)
    (fin : codeAny (model prog w) (A.under (.builtin "type.__call__" ⟨.ref C :: rest, kw⟩)) (.call (.ref fI) ⟨.ref (h.objs.size + 1) :: rest, kw⟩) (W.InitBack (h.objs.size + 1) R)
      ⟨(h.push (W.kdv_tup rest)).push (excO C h.objs.size), g, d, t, os⟩) :
    codeAny (model prog w) A (.call (.ref C) ⟨rest, kw⟩) R ⟨h, g, d, t, os⟩ := by
  have f1 := tc_lookup
  have f2 := tc_bind (.ref C)
  have isTy : (⟨h, g, d, t, os⟩ : Shared).TypeIs (.ref C) "type" := ⟨_, hC, rfl⟩
  refine codeAny_of_tree ?_
  show wpAny _ _ (callAny (.ref C) _) _ _ _
  repeat (any_goals (first
    | assumption
    | with_reducible refine wpAny_loadPart_at hC ?_
    | wp_step))
  refine ⟨rfl, ?_⟩
  have chk : ∀ {Q : Unit → Shared → Prop} {E : Value → Shared → Prop} {A : Around}, Q () ⟨h, g, d, t, os⟩ → wpAny (model prog w) A (checkBuiltinCall "type.__call__" ⟨.ref C :: rest, kw⟩) Q E ⟨h, g, d, t, os⟩ := by
    intro Q E A hq
    exact wpAny_check_type_call_sub hC hq
  refine codeAny_call_builtin_at (Code.quiet_builtin _ (by decide +kernel)) entry_typeCall (chk (typeCallK F hT hC hi hb short ?_))
  refine codeAny_mono fin fun r s' z => ?_
  rcases r with e | (v | _ | _ | _) <;> exact z
end
end EX
end PySem
/-! # DL, errors: an own error class, two classes above Exception, whose __init__ says super().__init__(text) and stores one field (or none) -/
namespace PySem
namespace EX
open PySem.W PySem.Calls PyProof.Rows PySem.HandSPX
abbrev exTail : List Value := [.type "Exception", .type "BaseException", .type "object"]
abbrev iA (f : Str) (p1 p2 : Pos) : Arguments := { posonlyargs := [], args := [{ arg := "self", annotation := none, pos := p1 }, { arg := f, annotation := none, pos := p2 }], vararg := none, kwonlyargs := [], kw_defaults := [], kwarg := none, defaults := [] }
abbrev iS (f : Str) : Scope := { kind := .function, names := [(PySem.Str.ofString "self", .local), (f, .local), (PySem.Str.ofString "__class__", .free), (PySem.Str.ofString "super", .globalImplicit)], isGenerator := false, isCoroutine := false, more := [] }
abbrev iB (f tx : Str) (j : Nat) (p0 p1 p2 p3 p4 p5 p6 p7 p8 p9 : Pos) : List Stmt :=
  [.Expr (.Call (.Attribute (.Call (.Name "super" p0) [] [] p1) "__init__" p2) [.Constant (.str tx) j p3] [] p4) p5, .Assign [.Attribute (.Name "self" p6) f p7] (.Name f p8) p9]
theorem eval_meth {o : Expr} {name : Str} {q2 q4 : Pos} {args : List Expr} {env : Env} (h : (q2.endLine == q4.line) = true) (hf : methodCallForm (args.length + 0) (backTo q4 (starEach args env)) [] = true) : eval (.Call (.Attribute o name q2) args [] q4) env = (do
      let ov ← attributeBase o name env (eval o env)
      standAt q2.atName
      let (f, first) ← holding [ov] (getMethod ov name (do return (← importBound o env).getD true))
      callWith q4 f first (backTo q4 (starEach args env)) []) := by
  show (attributeBase o name env (eval o env) >>= fun ov => standAt q2.atName >>= fun _ => methodCall o name q2 q4 env ov (args.length + 0) (backTo q4 (starEach args env)) []) = _
  have hm : ∀ ov, methodCall o name q2 q4 env ov (args.length + 0) (backTo q4 (starEach args env)) [] = (do
      let (f, first) ← holding [ov] (getMethod ov name (do return (← importBound o env).getD true))
      callWith q4 f first (backTo q4 (starEach args env)) []) := by
    intro ov
    unfold methodCall methodCallPos calleeOf
    simp only [hf, h, Bool.or_true, if_true]
    rfl
  simp only [hm]

/-- what the written part tells of the class x at C -/
structure ErrT (P : Program) (K : Frag) (x : Str) (C fI cda cc : Addr) (f : Str) : Prop where
  gC : nsIn K mainGlobals x = some (some (.ref C))
  q : excInitIn K C exTail "Exception.__new__" = true
  ov : excOver K C exTail = true
  sa : findIn K (.ref C) "__setattr__" = some (some (.builtin "object.__setattr__"))
  tk : takerIn K C f = some none
  hd : hasDictIn K C = true
  ga : findIn K (.ref C) "__getattribute__" = some (some (.builtin "BaseException.__getattribute__"))
  gg : findIn K (.ref C) "__getattr__" = some none
  no : findIn K (.ref C) f = some none
  iC : findIn K (.ref C) "__init__" = some (some (.ref fI))
  isF : isFn K (.ref fI) = true
  kp : keepIn K (.ref C) = true
  sB : subIn K (.ref C) (.type "BaseException") = some true
  sE : subIn K (.ref C) (.type "Exception") = some true
  ty : typeIn K (.ref C) = some (.type "type")
  tp : nsIn K cStatics "thirdparty.any" = some none
  su : ks_superIn K C C "__init__" = some (some (.builtin "Exception.__init__"))
  mr : mroIn K C (.ref C) = some true
  isC : (clsIn K C).isSome = true
  sup : nsIn K mainGlobals "super" = some none
  fn : ∃ oc od kV doc pm an ct osl qual p1 p2 tx j q0 q1 q2 q3 q4 q5 q6 q7 q8 q9, K.lookup fI = some ⟨oc, od, .func (fnX "__init__" qual (iA f p1 p2) (iB f tx j q0 q1 q2 q3 q4 q5 q6 q7 q8 q9) (iS f) [("__class__", cc)] .none kV doc pm an (.ref cda) ct), osl⟩ ∧ codeIn K (.ref cda) qual = true ∧ (q2.endLine == q4.line) = true
  code : ∃ ccl cdd vs ccs file tf, K.lookup cda = some ⟨ccl, cdd, .fields vs, ccs⟩ ∧ vs[2]? = some (.str file tf) ∧ ((P.main.file : Str) == file) = true
  cell : ∃ cl cld csl, K.lookup cc = some ⟨cl, cld, .cell (some (.ref C)), csl⟩
  top : (P.main.scope.names.lookup ("super" : Str)).isSome = false
structure OkF (f : Str) : Prop where
  n1 : f ≠ PySem.Str.ofString "self"
  n2 : f ≠ PySem.Str.ofString "__class__"
  n3 : f ≠ PySem.Str.ofString "super"
  n4 : (f == ("__debug__" : Str)) = false
  bind : ∀ qual p1 p2 body cl kV doc pm an cd ct a v, bindArgs (fnX "__init__" qual (iA f p1 p2) body (iS f) cl .none kV doc pm an cd ct) ⟨[a, v], []⟩ = pure [((PySem.Str.ofString "self" : Str), a), (f, v)]
  bindK : ∀ qual p1 p2 body cl kV doc pm an cd ct a v, bindArgs (fnX "__init__" qual (iA f p1 p2) body (iS f) cl .none kV doc pm an cd ct) ⟨[a], [(f, v)]⟩ = pure [((PySem.Str.ofString "self" : Str), a), (f, v)]
theorem okF_at : OkF "at" := ⟨by decide +kernel, by decide +kernel, by decide +kernel, by decide +kernel, fun _ _ _ _ _ _ _ _ _ _ _ _ _ => rfl, fun _ _ _ _ _ _ _ _ _ _ _ _ _ => rfl⟩
theorem okF_word : OkF "word" := ⟨by decide +kernel, by decide +kernel, by decide +kernel, by decide +kernel, fun _ _ _ _ _ _ _ _ _ _ _ _ _ => rfl, fun _ _ _ _ _ _ _ _ _ _ _ _ _ => rfl⟩
/-- the arguments rest, kw give the field the value v -/
def Gives (f : Str) (rest : List Value) (kw : List (Str × Value)) (v : Value) : Prop := (rest = [v] ∧ kw = []) ∨ (rest = [] ∧ kw = [(f, v)])
theorem Gives.bind {f : Str} {rest : List Value} {kw : List (Str × Value)} {v : Value} (hf : OkF f) (h : Gives f rest kw v) : ∀ qual p1 p2 body cl kV doc pm an cd ct a,
    bindArgs (fnX "__init__" qual (iA f p1 p2) body (iS f) cl .none kV doc pm an cd ct) ⟨a :: rest, kw⟩ = pure [((PySem.Str.ofString "self" : Str), a), (f, v)] := by
  rcases h with ⟨rfl, rfl⟩ | ⟨rfl, rfl⟩
  · exact fun _ _ _ _ _ _ _ _ _ _ _ _ => hf.bind _ _ _ _ _ _ _ _ _ _ _ _ _
  · exact fun _ _ _ _ _ _ _ _ _ _ _ _ => hf.bindK _ _ _ _ _ _ _ _ _ _ _ _ _
theorem Gives.short {f : Str} {rest : List Value} {kw : List (Str × Value)} {v : Value} (h : Gives f rest kw v) : rest.length ≤ sizeLine := by
  rw [sizeLine_eq]
  rcases h with ⟨rfl, rfl⟩ | ⟨rfl, rfl⟩
  · exact (by decide : 1 ≤ 16777216)
  · exact (by decide : 0 ≤ 16777216)
/-- what a made error is -/
structure Made (h h' : Heap) (x C dx : Addr) (f : Str) (v : Value) : Prop where
  keep : ∀ b o, b ≠ x → h.get? b = some o → h'.get? b = some o
  obj : ∃ t1 : Addr, h'.get? x = some { cls := .ref C, dict := some dx, data := .fields #[.ref t1, .none, .none, .none, .bool false, .none] }
  dbig : h.objs.size ≤ dx
  dne : dx ≠ x
  ns : h'.Ns1 dx (fun y => if y = f then some v else none)
theorem ldL2 {M : Model} {A : Around} {E : Value → Shared → Prop} {s : Shared} {q : Str} {scope : Scope} {L a cc : Addr} {cd : Value} {h₀ : Heap} {m : Str → Option Value} {x : Str} {pos : Pos} {v : Value} {Q : Value → Shared → Prop} (F : Fr h₀ L s.heap m) (hv : m x = some v)
    (hl : scope.names.lookup x = some .local) (hd : (x == ("__debug__" : Str)) = false) (h : Q v s) (hk : scope.kind = .function := by rfl) : wpAny M A (eval (.Name x pos) (ksEnv q scope L a cd cc)) Q E s := wpAny_Name (wpAny_loadName_local hk hl F.ns hv h) hd
theorem ns_one {h : Heap} {dx : Addr} {f : Str} {v : Value} {hh : Int} {tk : Tok} {n : Nat} (e : h.get? dx = some (dictOf [⟨hh, .str f tk, v⟩] n)) : h.Ns1 dx (fun y => if y = f then some v else none) := by
  refine ⟨_, _, _, e, rfl, ?_, ?_, fun y => ?_⟩
  · intro z hz
    have q : z = ⟨hh, .str f tk, v⟩ := by simpa using hz
    exact ⟨f, tk, by rw [q]⟩
  · unfold UniqKeys
    simp
  · show _ = (if y = f then some v else none)
    by_cases h1 : y = f
    · rw [if_pos h1, h1]
      simp [nsFind, findBy, Value.isStr]
    · rw [if_neg h1]
      have q : (f == y) = false := beq_eq_false_iff_ne.mpr (fun z => h1 z.symm)
      simp [nsFind, findBy, Value.isStr, q]
section
variable {prog : Program} {w : World} {A : Around} {E : Value → Shared → Prop} {R : Result → Shared → Prop} {s : Shared} {K : Frag} {mg : Str → Option Value} {base : Heap} {x : Str} {C fI cda cc : Addr} {f : Str}
theorem sup_init (T : ErrT prog K x C fI cda cc f) (hf : OkF f) {e t0 : Addr} {v : Value} {rest : List Value} {kw : List (Str × Value)} (hG : Gives f rest kw v) (M : L2.Mod K mg base) (bk : ∀ b o, base.get? b = some o → s.heap.get? b = some o) (X : K.In s.heap) (hlim : s.heap.NoLimit) (he : s.heap.get? e = some (excO C t0)) (hne : K.lookup e = none) (hbe : base.get? e = none)
    (hroom : A.depth < recursionLimit) (hq : ∀ h' tk dx, Made s.heap h' e C dx f v → R (.ok (.ret .none)) { s with heap := h', toks := tk }) :
    codeAny (model prog w) A (.call (.ref fI) ⟨.ref e :: rest, kw⟩) R s := by
  have hbind := hG.bind hf
  obtain ⟨oc, od, kV, doc, pm, an, ct, osl, qual, p1, p2, tx, j, q0, q1, q2, q3, q4, q5, q6, q7, q8, q9, lk, hcd, hline⟩ := T.fn
  obtain ⟨ccl, cdd, vs, ccs, file, tf, lc, hvs, hfile⟩ := T.code
  obtain ⟨cl, cld, csl, lcell⟩ := T.cell
  obtain ⟨f1, f2, f3, f4, _, _⟩ := hf
  refine ks_codeAny_call_defAt (binds := [("self", .ref e), (f, v)]) hroom (X _ _ lk) rfl hlim (codeRec_of X hcd) rfl (BindsTo.of_eq (hbind _ _ _ _ _ _ _ _ _ _ _ _)) ?_ ?_ (fun h0 hns hk => ?_)
  · intro y hy
    simp only [List.mem_cons, List.not_mem_nil, or_false] at hy
    rcases hy with rfl | rfl | rfl | rfl <;> exact fun z => nomatch z
  · intro y hy
    simp only [List.mem_cons, List.not_mem_nil, or_false] at hy
    rcases hy with rfl | rfl
    · rfl
    · show List.lookup f [((PySem.Str.ofString "self" : Str), NameKind.local), (f, .local), (PySem.Str.ofString "__class__", .free), (PySem.Str.ofString "super", .globalImplicit)] = some .local
      have q : (f == (PySem.Str.ofString "self" : Str)) = false := beq_eq_false_iff_ne.mpr f1
      simp [List.lookup, q]
  have xL : s.heap.objs.size ≠ e := Nat.ne_of_gt (Heap.lt_size he)
  -- the ground: all but the new error
  have hG : ∀ b o, (hideAll s.heap [e]).get? b = some o → s.heap.get? b = some o := fun b o z => of_hideAll [e] z
  have hGe : (hideAll s.heap [e]).get? e = none := hideAll_none [e] (by simp)
  have XG : K.In (hideAll s.heap [e]) := fun b o z => hideAll_get [e] (X b o z) (by
    intro m
    rcases List.mem_singleton.mp m with rfl
    rw [hne] at z
    cases z)
  have F0 : Fr (hideAll s.heap [e]) s.heap.objs.size h0 (fun y => ([("self", Value.ref e), (f, v)] : List (Str × Value)).reverse.lookup y) := ⟨hns, fun b o z => hk b o (hG b o z), by rw [hideAll_size]; exact Nat.le_refl _⟩
  have N0 : News (hideAll s.heap [e]) s.heap.objs.size h0 [(e, excObj C t0 none .none)] := fun p hp => by
    rcases List.mem_singleton.mp hp with rfl
    exact ⟨hk _ _ he, fun z => xL z.symm, hGe⟩
  have kS : Str.ofString "self" ≠ f := fun z => f1 z.symm
  have mself : ([("self", Value.ref e), (f, v)] : List (Str × Value)).reverse.lookup (PySem.Str.ofString "self") = some (Value.ref e) := by
    show List.lookup (PySem.Str.ofString "self") [(f, v), ((PySem.Str.ofString "self" : Str), Value.ref e)] = some (Value.ref e)
    have q : ((PySem.Str.ofString "self" : Str) == f) = false := beq_eq_false_iff_ne.mpr kS
    simp [List.lookup, q]
  have mf : ([("self", Value.ref e), (f, v)] : List (Str × Value)).reverse.lookup f = some v := by
    show List.lookup f [(f, v), ((PySem.Str.ofString "self" : Str), Value.ref e)] = some v
    simp [List.lookup]
  have lf : List.lookup f (iS f).names = some .local := by
    have q : (f == (PySem.Str.ofString "self" : Str)) = false := beq_eq_false_iff_ne.mpr f1
    simp [List.lookup, q]
  obtain ⟨cdC, hcC⟩ := Option.isSome_iff_exists.mp T.isC
  obtain ⟨mb, hb1, hb2⟩ := M.blt
  show wpAt (model prog w) _ (.func _ (ksEnv qual (iS f) s.heap.objs.size fI (.ref cda) cc)) (execs (iB f tx j q0 q1 q2 q3 q4 q5 q6 q7 q8 q9) (ksEnv qual (iS f) s.heap.objs.size fI (.ref cda) cc)) _ _ _
  have kind : ∀ y, (ksEnv qual (iS f) s.heap.objs.size fI (.ref cda) cc).kindOf y = List.lookup y (iS f).names := fun y => rfl
  have ksup : List.lookup (PySem.Str.ofString "super") (iS f).names = some .globalImplicit := by
    have q : ((PySem.Str.ofString "super" : Str) == f) = false := beq_eq_false_iff_ne.mpr (fun z => f3 z.symm)
    simp [List.lookup, q]
    decide
  have kcls : List.lookup (PySem.Str.ofString "__class__") (iS f).names = some .free := by
    have q : ((PySem.Str.ofString "__class__" : Str) == f) = false := beq_eq_false_iff_ne.mpr (fun z => f2 z.symm)
    simp [List.lookup, q]
    decide
  have kself : List.lookup (PySem.Str.ofString "self") (iS f).names = some .local := rfl
  have IE : InstAt h0 e (excObj C t0 none .none) C none := ⟨hk _ _ he, rfl, rfl, trivial⟩
  obtain ⟨oC, hC1, hC2⟩ : ∃ oC, s.heap.get? C = some oC ∧ oC.data = .cls cdC := by
    unfold clsIn at hcC
    split at hcC
    · rename_i c d cd' sl ho
      cases hcC
      exact ⟨_, X _ _ ho, rfl⟩
    · cases hcC
  refine ks_wpAt_execs_cons (ks_wpAt_Expr_any (ks_wpAt_MethodCall (ks_wpAt_super_base ksup kcls (by decide +kernel) rfl (hk _ _ (X _ _ lk)) rfl rfl rfl (hk _ _ (X _ _ lc)) rfl hvs hfile T.top ?_) (eval_meth hline rfl)))
  refine ks_loadName_global rfl ksup (loadGlobal_builtin (M.glob.keeps fun b o z => hk b o (bk b o z)) (mg_none_of M.kin M.glob T.sup) (hb1.keeps fun b o z => hk b o (bk b o z)) ((hb2 _ (by decide)).trans (by decide +kernel)) ⟨rfl, ?_⟩)
  refine wpAny_loadName_free rfl kcls rfl ⟨_, hk _ _ (X _ _ lcell), rfl⟩ ?_
  refine wpAny_loadName_local rfl kself hns mself ?_
  refine ks_wpAny_isType_cls (hk _ _ hC1) hC2 ⟨rfl, ?_⟩
  refine ks_wpAny_call_super (hk _ _ hC1) hC2 IE.at_ rfl (fun c z => by cases z) (looks_mroIn (X.keeps hk) T.mr) (fun h1 e1 k1 => ?_)
  obtain ⟨F1, N1, l1⟩ := ks_newsPush (s := ⟨h0, s.gens, s.drawn, s.toks + [((PySem.Str.ofString "self" : Str), Value.ref e), (f, v)].length, s.os⟩) F0 N0 rfl e1 k1
  have IE1 : InstAt h1 e (excObj C t0 none .none) C none := ⟨k1 _ _ (hk _ _ he), rfl, rfl, trivial⟩
  refine kxs_method kxs_Exception F1 XG N1 (.head _) IE1 T.tp T.su T.sE (by decide +kernel) (fun u h2 F2 N2 l2 => ?_)
  refine kxs_callWith1 N2 (.head _) ?_
  show wpAny _ _ (spliced ((false, eval (.Constant (.str tx) j q3) (ksEnv qual (iS f) s.heap.objs.size fI (.ref cda) cc)) :: [])) _ _ _
  refine Calls.spliced_cons (Calls.Constant_str (Calls.spliced_nil ⟨kxs_at N2 (.head _), ?_⟩))
  have ue : u ≠ e := fun z => by
    have q := l2 (e, excObj C t0 none .none) (.tail _ (.head _))
    exact absurd (z ▸ q) (Nat.lt_irrefl _)
  have se : h0.objs.size ≠ e := fun z => by
    have q := l1 (e, excObj C t0 none .none) (.head _)
    exact absurd (z ▸ q) (Nat.lt_irrefl _)
  refine kxs_call F2 XG N2 PySem.F.excBase_Exception T.q (.head _) (.tail ue (.tail se (.head fun p hp => nomatch hp))) (by rw [sizeLine_eq]; exact (by decide : 1 ≤ 16777216)) (fun t1 h3 F3 N3 l3 => ?_)
  -- self.f = f
  have te : t1 ≠ e := fun z => by
    have q := l3 (e, excObj C t0 none .none) (.tail _ (.tail _ (.head _)))
    exact absurd (z ▸ q) (Nat.lt_irrefl _)
  refine ks_wpAt_execs_cons (wpAt_of_wpAny (plainObj_wpAny_Assign_Attribute ?_))
  refine ldL2 F3 mf lf f4 (ldL2 F3 mself kself (by decide +kernel) ?_)
  refine set_exc0 PySem.F.store_Exception F3 XG N3 (.tail _ (.tail _ (.tail _ (.head _)))) T.sa T.ov T.tk T.hd rfl (.tail te (.tail ue (.tail se (.head fun p hp => nomatch hp)))) (by show 1 ≤ 1000; decide) (fun dx h4 F4 N4 l4 => ?_)
  refine wpAt_of_wpAny (wpAny_execs_nil ?_)
  have m4 := N4 (dx, _) (.head _)
  refine hq h4 _ dx ⟨fun b o hb ho => ?_, ⟨t1, (N4 (e, excObj C t1 (some dx) .none) (.tail _ (.tail _ (.tail _ (.tail _ (.head _)))))).1⟩, ?_, ?_, ns_one m4.1⟩
  · exact F4.keep b o (hideAll_get [e] ho (by intro m; exact hb (List.mem_singleton.mp m)))
  · have q := l4 (t1, _) (.head _)
    have q3 := l3 (u, kxs_mw "Exception.__init__" e) (.head _)
    have q2 := l2 (h0.objs.size, ks_superObj C e C) (.head _)
    have hs : s.heap.objs.size ≤ h0.objs.size := by
      have := hns.lt
      exact Nat.le_of_lt this
    exact Nat.le_trans hs (Nat.le_of_lt (Nat.lt_trans q2 (Nat.lt_trans q3 q)))
  · intro z
    have q := l4 (e, excObj C t1 none .none) (.tail _ (.tail _ (.tail _ (.head _))))
    exact absurd (z ▸ q) (Nat.lt_irrefl _)
/-- the class is called: the new error, its own dict -/
structure MadeC (h h' : Heap) (e C dx : Addr) (f : Str) (v : Value) : Prop where
  keep : ∀ b o, h.get? b = some o → h'.get? b = some o
  new : h.objs.size ≤ e
  obj : ∃ t1 : Addr, h'.get? e = some { cls := .ref C, dict := some dx, data := .fields #[.ref t1, .none, .none, .none, .bool false, .none] }
  dbig : h.objs.size ≤ dx
  dne : dx ≠ e
  ns : h'.Ns1 dx (fun y => if y = f then some v else none)
theorem err_made (T : ErrT prog K x C fI cda cc f) (hf : OkF f) {v : Value} {rest : List Value} {kw : List (Str × Value)} (hG : Gives f rest kw v) (M : L2.Mod K mg base) (bk : ∀ b o, base.get? b = some o → s.heap.get? b = some o) (hlim : s.heap.NoLimit) (hroom : A.depth + 1 < recursionLimit)
    (hq : ∀ h' tk e dx, MadeC s.heap h' e C dx f v → R (.ok (.ret (.ref e))) { s with heap := h', toks := tk }) :
    codeAny (model prog w) A (.call (.ref C) ⟨rest, kw⟩) R s := by
  have X : K.In s.heap := M.kin.keeps bk
  obtain ⟨nm, N, qn, bs, bm, hdct, sn, sub, ab, col, dd, k0, k1, k2, k3, k5, hC, hT⟩ := excInit_of X T.q
  have tF : typeIn K (.ref fI) = some (.type "function") := beq_iff_eq.mp T.isF
  obtain ⟨hp, g, dr, tk, os⟩ := s
  have k : ∀ b o, hp.get? b = some o → ((hp.push (kdv_tup rest)).push (excO C hp.objs.size)).get? b = some o := fun b o e => Heap.get?_push_of_some _ (Heap.get?_push_of_some _ e)
  have hget : ((hp.push (kdv_tup rest)).push (excO C hp.objs.size)).get? (hp.objs.size + 1) = some (excO C hp.objs.size) := by heap_get
  have big : ∀ {b : Addr} {o : Obj}, hp.get? b = some o → b ≠ hp.objs.size + 1 := fun {b o} z => Nat.ne_of_lt (Nat.lt_succ_of_lt (Heap.lt_size z))
  have hnx : K.lookup (hp.objs.size + 1) = none := by
    cases e : K.lookup (hp.objs.size + 1) with
    | none => rfl
    | some o => exact absurd rfl (big (X _ _ e))
  have hbx : base.get? (hp.objs.size + 1) = none := by
    cases e : base.get? (hp.objs.size + 1) with
    | none => rfl
    | some o => exact absurd rfl (big (bk _ _ e))
  refine callK PySem.F.excBase_Exception hT hC (looks_findIn X T.iC) (fun self => bind_fn X self tF) hG.short ?_
  refine sup_init (s := ⟨(hp.push (kdv_tup rest)).push (excO C hp.objs.size), g, dr, tk, os⟩) T hf hG M (fun b o z => k b o (bk b o z)) (X.keeps k) (hlim.keeps k) hget hnx hbx hroom (fun h' tk' dx D => ?_)
  have sz : ((hp.push (kdv_tup rest)).push (excO C hp.objs.size)).objs.size = hp.objs.size + 1 + 1 := by rw [Heap.size_push, Heap.size_push]
  have dq := D.dbig
  have dq2 : hp.objs.size + 1 + 1 ≤ dx := by
    rw [← sz]
    exact dq
  exact ⟨rfl, hq h' tk' (hp.objs.size + 1) dx ⟨fun b o z => D.keep b o (big z) (k b o z), Nat.le_succ _, D.obj, Nat.le_trans (Nat.le_trans (Nat.le_succ _) (Nat.le_succ _)) dq2, D.dne, D.ns⟩⟩
end
end EX
end PySem

namespace DL
open PySem PySem.Spec L2
open PyProof.Rows hiding St
theorem relO_one {v : V} {v' : Value} (r : RelV v v') (f g : Str) : L2.RelO (List.lookup g [(f, v)]) (if g = f then some v' else none) := by
  by_cases h : g = f
  · subst h
    rw [if_pos rfl]
    have q : List.lookup g [(g, v)] = some v := by simp [List.lookup]
    rw [q]
    exact r
  · rw [if_neg h]
    have q : (g == f) = false := beq_eq_false_iff_ne.mpr h
    have q2 : List.lookup g [(f, v)] = none := by simp [List.lookup, q]
    rw [q2]
    trivial
section
variable {X : Cx} {x f : Str} {C fI cda cc : Addr}
/-- C(e): what is wanted of the error that is made -/
def tMkErr (C : Addr) (f : Str) (ta : TA) : St → Hp → XK → Prop := fun σ H Q => ta σ H fun vs H1 => ∃ v, vs = [v] ∧ ∀ d, H1 d = none → Q (.ref C) (some d) (upd H1 d (.xd [(f, v)]))
theorem pmk_err {a : Expr} {ta : TA} {p pos : Pos} {k : Nat} (T : PySem.EX.ErrT X.prog X.K x C fI cda cc f) (hf : PySem.EX.OkF f) (hr : Room k X.A) (hk : 1 ≤ k) (hm : X.mg x = some (.ref C)) (ha : PA X [a] ta) (hg : Gl X x) (hdb : (x == ("__debug__" : Str)) = false)
    (he : starEach (a :: []) X.env = (false, eval a X.env) :: starEach [] X.env) (hpl : (backTo pos (starEach [] X.env)).any (·.1) = false) :
    PMk X (.Call (.Name x p) [a] [] pos) (tMkErr C f ta) := by
  intro pins s σ H Q I h
  refine wpAny_Call_Name_kw (ld_glob I hg hm ?_ hdb)
  refine PySem.W.callWith_K (h₀ := X.base) I.ok.mod.kin T.kp (thn (ha.run pos pins s σ H _ I h) fun us s1 hh => ?_) he hpl
  obtain ⟨vs, H1, I1, r1, v, ev, q1⟩ := hh
  subst ev
  refine ⟨I1.kIn, ?_⟩
  cases r1 with
  | cons rv rn =>
    rename_i v' us'
    cases rn
    show wpAny _ _ (call (.ref C) [v']) _ _ _
    have hlim := I1.nolimit
    have I1' := I1
    obtain ⟨hp, g, dr, tk, os⟩ := s1
    refine wpAny_call (PySem.EX.err_made T hf (.inl ⟨rfl, rfl⟩) I1.mod I1.bk hlim (by have := hr.dp; omega) fun h' tk' e d M => ?_)
    show MkP X pins σ Q (.ref e) ⟨h', g, dr, tk', os⟩
    obtain ⟨t1, hoe⟩ := M.obj
    have hns := M.ns
    obtain ⟨G', g1, g2⟩ := restrict h' fun b => decide (b ≠ e)
    have gk : ∀ b, b ≠ e → G'.get? b = h'.get? b := fun b hb => g1 b (decide_eq_true hb)
    have ge : G'.get? e = none := g2 e (by simp)
    have old : ∀ b o, hp.get? b = some o → G'.get? b = some o := fun b o q => (gk b (Nat.ne_of_lt (Nat.lt_of_lt_of_le (Heap.lt_size q) M.new))).trans (M.keep b o q)
    have ob : ObjOk X.prog X.w (upd H1 d (.xd [(f, v)])) G' d (.xd [(f, v)]) :=
      ⟨_, hns.at (fun o q => (gk d M.dne).trans q), fun y => relO_one rv f y⟩
    have J : Inv X pins σ (upd H1 d (.xd [(f, v)])) ⟨G', g, dr, tk', os⟩ := I1.laid (t' := tk') old M.dbig ob
    refine ⟨e, _, _, ⟨G', g, dr, tk', os⟩, _, .ref C, some d, rfl, J, fun b o q => ?_, ge, hoe, ⟨rfl, rfl⟩, rfl, rfl, ?_, rfl, I1.bare, raises_own T.sB T.ty, q1 d (I1.hok.fresh M.dbig)⟩
    · by_cases hb : b = e
      · have q' : G'.get? b = some o := q
        rw [hb, ge] at q'
        cases q'
      · exact (gk b hb).symm.trans q
    · rw [upd_ne (Ne.symm M.dne)]
      exact I1.hok.fresh M.new
/-- an error class of the module: its name, its field -/
structure Err (P : Program) (K : PySem.W.Frag) (mg : Str → Option Value) (x f : Str) : Prop where
  ex : ∃ C fI cda cc, PySem.EX.ErrT P K x C fI cda cc f ∧ mg x = some (.ref C)
/-- raise X(e) -/
def sRaise (x f : Str) (m : SE) : SS := fun ρ μ => (m ρ μ).go ρ fun d μ1 => .exn x [(f, d)] ρ μ1
theorem psd_raise {W : WX} {a : Expr} {ma : SE} {p pos pos2 : Pos} {k : Nat} (T : Err X.prog X.K X.mg x f) (hf : PySem.EX.OkF f) (hc : X.calm = true) (hr : Room k X.A) (hk : 1 ≤ k) (tk : Takes X W) (ha : PD X W false a ma) (hg : Gl X x := by rfl) (hdb : (x == ("__debug__" : Str)) = false := by decide)
    (he : starEach (a :: []) X.env = (false, eval a X.env) :: starEach [] X.env := by rfl) (hpl : (backTo pos (starEach [] X.env)).any (·.1) = false := by rfl) :
    PSD X W (.Raise (some (.Call (.Name x p) [a] [] pos)) none pos2) (sRaise x f ma) := by
  obtain ⟨C, fI, cda, cc, T, hm⟩ := T.ex
  obtain ⟨t, h1, h2⟩ := ha
  refine ⟨_, ps_raise hc tk (pmk_err T hf hr hk hm (pa_cons h1 pa_nil he) hg hdb he hpl), fun B c H σ ρ μ hK fr D q => ?_⟩
  refine h2 c H σ ρ μ hK fr.ok _ (fr.go q fun d m v c' H' s' f' r p' => ?_)
  refine ⟨v, rfl, fun dx hd => ?_⟩
  have sm := same_upd (o := .xd [(f, v)]) hd
  have M' := f'.ok.m.same sm
  refine p' c' _ σ (.ref C) (some dx) (f'.step (Stp.same sm) M') ⟨⟨C, rfl, ?_⟩, .inr ⟨dx, f, v, d, rfl, rfl, upd_same, fresh_cs f'.ok.m hd, r.rep.step (Stp.same sm)⟩⟩
  rw [s'.K, hK]
  exact T.gC
end
end DL
/-! # DL, try .. except X as e: return .. -/
namespace DL
open PySem PySem.Spec L2
open PyProof.Rows hiding St

/-- does a clause that names c take an error of the class x -/
def catches (x c : Str) : Bool := x == c || c == "TwinError"
/-- the errors' classes: what an except clause asks of them -/
def Errs (K : PySem.W.Frag) (nm : List Str) : Prop := ∀ x ∈ nm, ∀ c ∈ ("TwinError" : Str) :: nm, ∀ X C, PySem.W.nsIn K mainGlobals x = some (some (.ref X)) → PySem.W.nsIn K mainGlobals c = some (some (.ref C)) → PySem.W.exmOne K (.ref X) (.ref C) = some (catches x c)
abbrev Cl := Str × (List (Str × D) → Env → Option D)
def catch_ (nm : List Str) (x : Str) (fs : List (Str × D)) (ρ : Env) (μ : Mu) : List Cl → SOut
  | [] => .exn x fs ρ μ
  | (c, g) :: r => if catches x c = true then (match g fs ρ with
    | some d => .rt d μ
    | none => .stuck) else catch_ nm x fs ρ μ r
def sTry (nm : List Str) (m : SS) (cl : List Cl) : SS := fun ρ μ => match m ρ μ with
  | .exn x fs ρ' μ' => if x ∈ nm then catch_ nm x fs ρ' μ' cl else .stuck
  | o => o

/-- in an except suite: a is the error (class cls, own dict dd), x and fs its data; i: its name's slot -/
structure Su where
  a : Addr
  cls : Value
  dd : Option Addr
  x : Str
  fs : List (Str × D)
  i : Option Nat
def Su.at (u : Su) (σ : St) : Prop := ∀ i, u.i = some i → σ[i]? = some (some (.ref u.a))
def PXD (X : Cx) (u : Su) (e : Expr) (g : Env → Option D) : Prop := ∃ t, PE X e t ∧ ∀ c H σ ρ μ, c.K = X.K → Ok c H σ ρ μ → ExR c H u.cls u.dd u.x u.fs → u.at σ → ∀ d, g ρ = some d → ∀ Q : VK, (∀ v c' H', Stp c c' H H' → MRel c' H' μ → Rep c' H' v d → Q v H') → t σ H Q
def PXA (X : Cx) (u : Su) (es : List Expr) (g : Env → Option (List D)) : Prop := ∃ t, PA X es t ∧ ∀ c H σ ρ μ, c.K = X.K → Ok c H σ ρ μ → ExR c H u.cls u.dd u.x u.fs → u.at σ → ∀ ds, g ρ = some ds → ∀ Q, (∀ vs c' H', Stp c c' H H' → MRel c' H' μ → Reps c' H' vs ds → Q vs H') → t σ H Q
theorem ExR.step {c c' : Ct} {H H' : Hp} {cls : Value} {dd : Option Addr} {x : Str} {fs : List (Str × D)} (s : Stp c c' H H') (r : ExR c H cls dd x fs) : ExR c' H' cls dd x fs := by
  refine ⟨by rw [s.K]; exact r.cls, ?_⟩
  rcases r.fs with z | ⟨d, f, v, e, z1, z2, z3, z4, z5⟩
  · exact .inl z
  · exact .inr ⟨d, f, v, e, z1, z2, s.keep _ _ z3 z4, s.notin z4 z3, z5.step s⟩
section
variable {X : Cx} {u : Su} {e : Expr} {es : List Expr} {g : Env → Option D} {gs : Env → Option (List D)} {pos : Pos}
def xC (d : D) : Env → Option D := fun _ => some d
theorem pxd_int {i j} : PXD X u (.Constant (.int i) j pos) (xC (.int i)) := ⟨_, pe_int, fun c H σ ρ μ _ k _ _ d e Q q => by cases e; exact q _ c H (Stp.refl c H) k.m (.int i)⟩
theorem pxd_str {i j} : PXD X u (.Constant (.str i) j pos) (xC (.str i)) := ⟨_, pe_str, fun c H σ ρ μ _ k _ _ d e Q q => by cases e; exact q _ c H (Stp.refl c H) k.m (.str i)⟩
theorem pxd_bl {i j} : PXD X u (.Constant (.bool i) j pos) (xC (.bl i)) := ⟨_, pe_bl, fun c H σ ρ μ _ k _ _ d e Q q => by cases e; exact q _ c H (Stp.refl c H) k.m (.bl i)⟩
theorem pxd_non {j} : PXD X u (.Constant .none j pos) (xC .non) := ⟨_, pe_non, fun c H σ ρ μ _ k _ _ d e Q q => by cases e; exact q _ c H (Stp.refl c H) k.m .non⟩
def xVal (i : Nat) : Env → Option D := fun ρ => match ρ[i]? with
  | some (some (.val d)) => some d
  | _ => none
theorem pxd_val (i : Nat) {x : Str} (hN : X.N[i]? = some x := by rfl) (hv : Vis X.env.scope x := by first | exact Or.inl rfl | exact Or.inr (Or.inl rfl) | exact Or.inr (Or.inr rfl)) (hd : (x == ("__debug__" : Str)) = false := by decide)
    (hcd : (x == ("__classdict__" : Str)) = false := by decide) : PXD X u (.Name x pos) (xVal i) := by
  refine ⟨_, pe_var hN hv hd hcd, fun c H σ ρ μ _ k _ _ d e Q q => ?_⟩
  unfold xVal at e
  split at e
  · rename_i z
    cases e
    obtain ⟨v, h1, h2⟩ := k.e.val i _ z
    exact ⟨v, h1, q v c H (Stp.refl c H) k.m h2⟩
  · cases e
def xNil : Env → Option (List D) := fun _ => some []
def xCons (g : Env → Option D) (gs : Env → Option (List D)) : Env → Option (List D) := fun ρ => match g ρ, gs ρ with
  | some d, some ds => some (d :: ds)
  | _, _ => none
theorem pxa_nil : PXA X u [] xNil := ⟨_, pa_nil, fun c H σ ρ μ _ k _ _ d e Q q => by cases e; exact q _ c H (Stp.refl c H) k.m .nil⟩
theorem pxa_cons (h1 : PXD X u e g) (h2 : PXA X u es gs) (hs : starEach (e :: es) X.env = (false, eval e X.env) :: starEach es X.env := by rfl) : PXA X u (e :: es) (xCons g gs) := by
  obtain ⟨t, a1, a2⟩ := h1
  obtain ⟨t', b1, b2⟩ := h2
  refine ⟨_, pa_cons a1 b1 hs, fun c H σ ρ μ hK k r ua ds e Q q => ?_⟩
  unfold xCons at e
  cases e1 : g ρ with
  | none => rw [e1] at e; cases e
  | some d =>
    cases e2 : gs ρ with
    | none => rw [e1, e2] at e; cases e
    | some ds' =>
      rw [e1, e2] at e
      cases e
      exact a2 c H σ ρ μ hK k r ua d e1 _ fun v c1 H1 s1 M1 r1 => b2 c1 H1 σ ρ μ (s1.K.trans hK) (k.step s1 M1) (r.step s1) ua ds' e2 _ fun vs c2 H2 s2 M2 r2 => q _ c2 H2 (s1.trans s2) M2 (.cons (r1.step s2) r2)
def xTup (gs : Env → Option (List D)) : Env → Option D := fun ρ => match gs ρ with
  | some ds => if line ds.length = true then some (.tup ds) else none
  | none => none
theorem pxd_tup {x1} (h : PXA X u es gs) : PXD X u (.Tuple es x1 pos) (xTup gs) := by
  obtain ⟨t, a1, a2⟩ := h
  refine ⟨_, pe_tup a1, fun c H σ ρ μ hK k r ua d e Q q => ?_⟩
  unfold xTup at e
  cases e1 : gs ρ with
  | none => rw [e1] at e; cases e
  | some ds =>
    rw [e1] at e
    have e' : (if line ds.length = true then some (D.tup ds) else none) = some d := e
    by_cases hl : line ds.length = true
    · rw [if_pos hl] at e'
      cases e'
      refine a2 c H σ ρ μ hK k r ua ds e1 _ fun vs c1 H1 s1 M1 r1 => ⟨by rw [r1.length]; exact line_ok hl, fun p hp => ?_⟩
      have sm := same_upd (o := .tup vs) hp
      exact q _ c1 _ (s1.trans (Stp.same sm)) (M1.same sm) (.tup (fresh_cs M1 hp) upd_same (r1.step (Stp.same sm)))
    · rw [if_neg hl] at e'
      cases e'
end

/-- e.f, e the error that the suite holds -/
def tByE (C : Addr) (f : Str) (a : Addr) (cls : Value) (d : Option Addr) (te : TE) : TE := fun σ H Q => te σ H fun x H1 => x = .ref a ∧ cls = .ref C ∧ ∃ (dd : Addr) (v : V), d = some dd ∧ H1 dd = some (.xd [(f, v)]) ∧ Q v H1
theorem pe_byE {X : Cx} {x f : Str} {C fI cda cc : Addr} {a : Addr} {oe : Obj} {cls : Value} {d : Option Addr} {pn : List (Addr × Obj)} {e : Expr} {te : TE} {pos : Pos} (T : PySem.EX.ErrT X.prog X.K x C fI cda cc f) (hz : Zc cls d oe) (hf : ∃ vs, oe.data = .fields vs) (he : PE (X.suite a ((a, oe) :: pn)) e te)
    (hb : attributeBase e f X.env (eval e X.env) = eval e X.env) : PE (X.suite a ((a, oe) :: pn)) (.Attribute e f pos) (tByE C f a cls d te) := by
  refine ⟨fun pins s σ H Q I h => ?_⟩
  refine attr_of hb (thn (he.run pins s σ H _ I h) fun u s1 hh => ?_)
  obtain ⟨y, H1, I1, rx, ex, ec, dd, v, ed, ea, q⟩ := hh
  subst ex
  obtain rfl : u = Value.ref a := rx
  subst ec
  subst ed
  obtain ⟨ha, _⟩ := I1.pin (a, oe) (List.mem_append_left _ List.mem_cons_self)
  obtain ⟨vs, hd⟩ := hf
  have hx : ObjOk X.prog X.w H1 s1.heap dd (.xd [(f, v)]) := I1.hok dd _ ea
  obtain ⟨mA, hns, hr⟩ := hx
  obtain ⟨od, ho, hl⟩ := lookIn_ns hns
  have l : List.lookup f [(f, v)] = some v := by simp [List.lookup]
  obtain ⟨u, hu, ru⟩ := RelO.some_of (v := v) (o := mA f) (by rw [← l]; exact hr f)
  have J : PySem.W.InstAt s1.heap a oe C (some od) := ⟨ha, hz.1, by unfold PySem.W.notCls; rw [hd] <;> rfl, by rw [hz.2]; exact ho⟩
  exact HandSPX.exc_get I1.kIn J T.ga T.gg T.sB (PySem.W.findObj_own T.hd T.no rfl (by rw [hl, hu])) (handed_of ru) ⟨v, H1, I1.tok _, ru, q⟩
def xFld (fs : List (Str × D)) (f : Str) : Env → Option D := fun _ => match fs with
  | [(g, d)] => if g = f then some d else none
  | _ => none
theorem pxd_fld {X : Cx} {u : Su} {c f n : Str} {i : Nat} {oe : Obj} {pn : List (Addr × Obj)} {p pos : Pos} (T : Err X.prog X.K X.mg c f) (hx : u.x = c) (hi : u.i = some i) (hz : Zc u.cls u.dd oe) (hf : ∃ vs, oe.data = .fields vs)
    (hN : X.N[i]? = some n) (hv : Vis X.env.scope n) (hd : (n == ("__debug__" : Str)) = false) (hcd : (n == ("__classdict__" : Str)) = false) (hb : attributeBase (.Name n p) f X.env (eval (.Name n p) X.env) = eval (.Name n p) X.env) :
    PXD (X.suite u.a ((u.a, oe) :: pn)) u (.Attribute (.Name n p) f pos) (xFld u.fs f) := by
  obtain ⟨C, fI, cda, cc, T, hm⟩ := T.ex
  refine ⟨_, pe_byE T hz hf (pe_var (X := X.suite u.a ((u.a, oe) :: pn)) (i := i) hN hv hd hcd) hb, fun c' H σ ρ μ hK k r ua d e Q q => ?_⟩
  refine ⟨_, ua i hi, rfl, ?_⟩
  obtain ⟨C', ec, en⟩ := r.cls
  have hK' : c'.K = X.K := hK
  rw [hK', hx, T.gC] at en
  cases en
  refine ⟨ec, ?_⟩
  unfold xFld at e
  rcases r.fs with ⟨z, _⟩ | ⟨d', g, v, e', z1, z2, z3, z4, z5⟩
  · rw [z] at e
    cases e
  · rw [z2] at e
    have e2 : (if g = f then some e' else none) = some d := e
    by_cases hg : g = f
    · rw [if_pos hg] at e2
      cases e2
      subst hg
      exact ⟨d', v, z1, z3, q v c' H (Stp.refl _ _) k.m z5⟩
    · rw [if_neg hg] at e2
      cases e2

/-- a clause: except c: return e | except c as n: return e -/
inductive HdsD (X : Cx) : List ExceptHandler → List Cl → Prop
  | nil : HdsD X [] []
  | plain {c : Str} {C : Addr} {e : Expr} {g : List (Str × D) → Env → Option D} {np rp pos : Pos} {hds : List ExceptHandler} {l : List Cl} (hg : Gl X c) (hd : (c == ("__debug__" : Str)) = false) (hm : X.mg c = some (.ref C)) (hC : PySem.W.nsIn X.K mainGlobals c = some (some (.ref C)))
      (hs : ∀ (u : Su) (oe : Obj) (pn : List (Addr × Obj)), u.i = none → Zc u.cls u.dd oe → (∃ vs, oe.data = .fields vs) → PXD (X.suite u.a ((u.a, oe) :: pn)) u e (g u.fs)) (r : HdsD X hds l) :
      HdsD X (.ExceptHandler (some (.Name c np)) none [.Return (some e) rp] pos :: hds) ((c, g) :: l)
  | as_ {c n : Str} {C : Addr} {i : Nat} {e : Expr} {g : List (Str × D) → Env → Option D} {np rp pos : Pos} {hds : List ExceptHandler} {l : List Cl} (hg : Gl X c) (hd : (c == ("__debug__" : Str)) = false) (hm : X.mg c = some (.ref C)) (hC : PySem.W.nsIn X.K mainGlobals c = some (some (.ref C)))
      (hi : X.N[i]? = some n) (hln : X.env.kindOf n = some .local)
      (hs : ∀ (u : Su) (oe : Obj) (pn : List (Addr × Obj)), u.i = some i → catches u.x c = true → Zc u.cls u.dd oe → (∃ vs, oe.data = .fields vs) → PXD (X.suite u.a ((u.a, oe) :: pn)) u e (fun ρ => g u.fs ρ)) (hgn : ∀ fs ρ d, g fs ρ = some d → g fs (ρ.set i none) = some d) (r : HdsD X hds l) :
      HdsD X (.ExceptHandler (some (.Name c np)) (some n) [.Return (some e) rp] pos :: hds) ((c, g) :: l)
theorem Ok.setn {c : Ct} {H : Hp} {σ : St} {ρ : Env} {μ : Mu} {i : Nat} {v : V} (k : Ok c H σ ρ μ) : Ok c H (σ.set i (some v)) (ρ.set i none) μ := by
  refine ⟨⟨fun j e h => ?_, fun j ds h => ?_, fun j j' ds es a ne h h' q => ?_⟩, k.m, by simp [k.len]⟩
  · rcases set_get h with ⟨rfl, hl, q⟩ | ⟨ne, q⟩
    · cases q
    · rw [set_other ne]
      exact k.e.val j e q
  · rcases set_get h with ⟨rfl, hl, q⟩ | ⟨ne, q⟩
    · cases q
    · rw [set_other ne]
      exact k.e.own j ds q
  · rcases set_get h with ⟨rfl, hl, z⟩ | ⟨ne1, z⟩
    · cases z
    · rcases set_get h' with ⟨rfl, hl', z'⟩ | ⟨ne2, z'⟩
      · cases z'
      · rw [set_other ne1] at q
        rw [set_other ne2]
        exact k.e.apart j j' ds es a ne z z' q
theorem FrR.fin2 {B : Bs} {c c' : Ct} {H H' : Hp} {σ : St} {ρ : Env} {μ μ' : Mu} {v : V} {d : D} (f : FrR B c H σ ρ μ) (s : Stp c c' H H') (M : MRel c' H' μ') (r : Rep c' H' v d) : Fin B.c B.H H' μ' v d := (f.step s M).fin r

section
variable {X : Cx} {W : WX} {m : SS} {body : List Stmt} {h₀ : ExceptHandler} {hds : List ExceptHandler} {l : List Cl} {nm : List Str} {pos : Pos}
theorem psd_try (hs : X.stack = X.env :: X.outer) (hf : X.env.frame = some X.env.locals) (hN : X.N.Nodup) (tk : Takes X W) (he : Errs X.K nm) (hl : ∀ p ∈ l, p.1 ∈ ("TwinError" : Str) :: nm)
    (hb : ∀ (W' : WX) (pn : List (Addr × Obj)) (xe : Value → Shared → Prop), Takes (X.tr pn xe) W' → PassesOwn (model X.prog X.w) X.A X.env xe → PSDs (X.tr pn xe) W' body m)
    (hh : HdsD X (h₀ :: hds) l) : PSD X W (.Try body (h₀ :: hds) [] [] pos) (sTry nm m l) := by
  refine ⟨fun D σ H => ∃ B c ρ μ, c.K = X.K ∧ FrR B c H σ ρ μ ∧ PostS B W (sTry nm m l ρ μ) D, ⟨fun pins s σ H D I h => ?_⟩, fun B c H σ ρ μ hK f D p => ⟨B, c, ρ, μ, hK, f, p⟩⟩
  obtain ⟨Bs', c0, ρ0, μ0, hK0, f0, p0⟩ := h
  have ok := I.ok
  have hfr : X.A.frames = some (X.env :: X.outer) := by rw [ok.frames, hs]
  refine wpAny_Try_except ?_
  have wish : ∃ W' : WX, W' = fun cls dd σ' H' => ∃ c' ρ' μ' x fs, FrR Bs' c' H' σ' ρ' μ' ∧ ExR c' H' cls dd x fs ∧ x ∈ nm ∧ PostS Bs' W (catch_ nm x fs ρ' μ' l) D := ⟨_, rfl⟩
  obtain ⟨W', eW⟩ := wish
  have tkk : Takes (X.tr (X.pn ++ pins) (fun e s₁ => wpAny (model X.prog X.w) X.A (noteFrame e X.env) (fun _ s₂ => wpAny (model X.prog X.w) X.A (setFlight e none) (fun _ s₃ =>
      wpAny (model X.prog X.w) X.A (handleBy e X.env (h₀ :: hds)) (SP X pins D) X.xe s₃) X.xe s₂) X.xe s₁)) W' := by
    intro u s' xx
    obtain ⟨a, B, sI, pins', σ', H', cls, d, rfl, J', nb, up, sky, na, os, ag, w⟩ := xx
    have J : Inv X pins σ' H' sI := J'.ofTry ok
    have sky' : Sky B (X.env :: X.outer) a (Zc cls d) X.env.locals s'.heap := by rw [← hs]; exact sky
    show wpAny (model X.prog X.w) X.A (noteFrame (.ref a) X.env) _ _ _
    refine Sky.land Zc.steady hfr hf sky' fun h3 fl3 up3 => ?_
    have J3 : Inv X pins σ' H' { s' with heap := h3 } := J.landed nb fl3.1 (up.trans up3) os ag
    obtain ⟨oe3, vs3, he3, hz3, hd3⟩ := fl3.there
    have nfr : a ∉ frs (X.env :: X.outer) := fun hm => by
      obtain ⟨_, o', e', hnf⟩ := fl3.2.2.1.mem hm
      rw [he3] at e'
      cases e'
      exact hnf _ hd3
    have nL : a ≠ X.env.locals := fun z => nfr (List.mem_filterMap.mpr ⟨X.env, List.mem_cons_self, by rw [hf, z]⟩)
    have nF : a ∉ X.fs := fun hm => by
      obtain ⟨e, he, q⟩ := List.mem_filterMap.mp hm
      exact nfr (List.mem_filterMap.mpr ⟨e, List.mem_cons_of_mem _ he, q⟩)
    have S3 := J3.suite he3 hd3 na nL nF
    rw [eW] at w
    obtain ⟨c', ρ', μ', x, fs, fr, er, hxn, pc⟩ := w
    have hK' : c'.K = X.K := fr.K.trans (f0.K.symm.trans hK0)
    obtain ⟨Cx', ecls, enx⟩ := er.cls
    rw [hK'] at enx
    -- the clauses, one by one
    have finish : ∀ {cc : Ct} {v : V} {dv : DL.D} {H6 : Hp}, PostS Bs' W (.rt dv μ') D → Stp c' cc H' H6 → MRel cc H6 μ' → Rep cc H6 v dv → D.rt v H6 := fun {cc v dv H6} p s M r => p H6 v (fr.fin2 s M r)
    have go : ∀ {hds' : List ExceptHandler} {l' : List Cl}, HdsD X hds' l' → (∀ p ∈ l', p.1 ∈ ("TwinError" : Str) :: nm) → PostS Bs' W (catch_ nm x fs ρ' μ' l') D →
        wpAny (model X.prog X.w) X.A (handleBy (.ref a) X.env hds') (SP X pins D) X.xe { s' with heap := h3 } := by
      intro hds' l' hk
      induction hk with
      | nil =>
        intro _ w
        refine wpAny_handleBy_nil ?_
        obtain ⟨k1, k2, k3, oe, vs, T, oT, ts', he', hz, hd, h1, hr⟩ := id fl3
        unfold PySem.passOn
        refine wpAny_bind (wpAny_field he' hd h1 ?_)
        rw [if_neg (show ¬ ((Value.ref T == Value.none) = true) from by simp)]
        have fin : wpAny (model X.prog X.w) X.A (setFlight (.ref a) X.env.frame) (fun _ s4 => wpAny (model X.prog X.w) X.A (throw (.ref a) : Sem Flow) (SP X pins D) X.xe s4) X.xe { s' with heap := h3 } := by
          rw [hf]
          refine HandSPX.setFlight_upZ fl3 fun h4 hh4 up4 => wpAny_throw (tk _ _ ?_)
          exact ⟨a, B, sI, pins, σ', H', cls, d, rfl, J, nb, (up.trans up3).trans up4, .inr (.inr (by rw [hs]; exact hh4)), na, os, ag, w c' H' σ' cls d fr er⟩
        first
          | exact wpAny_bind (wpAny_pure (wpAny_bind fin))
          | exact wpAny_bind fin
      | @plain c C e g np rp pos' hds2 l2 hg hdb hm hC hsu r ih =>
        intro hl' w
        have hb1 : PySem.W.exmOne X.K cls (.ref C) = some (catches x c) := by
          rw [ecls]
          exact he x hxn c (hl' _ List.mem_cons_self) _ _ enx hC
        refine wpAny_handleBy_cons (codeAny_handlers_test ?_) (by intro q; cases q)
        have LT : PySem.W.Looks (model X.prog X.w) h3 (typeOf (.ref a)) cls := fun A Q E s k q => wpAny_typeOf_ref (k _ _ he3) (by rw [hz3.1]; exact q)
        have LM := PySem.W.exm_one (M := model X.prog X.w) (J3.kIn) LT hb1
        refine (ld_glob (X := X.suite a ((a, oe3) :: (X.pn ++ pins))) S3 hg hm (LM.here ?_) hdb)
        have w2 : PostS Bs' W (if catches x c = true then (match g fs ρ' with | some d => .rt d μ' | none => .stuck) else catch_ nm x fs ρ' μ' l2) D := w
        cases hcx : catches x c with
        | true =>
          rw [hcx, if_pos rfl] at w2
          refine codeAny_handlers_suite ?_
          refine HandSPX.lands_againZ fl3 fun h4 fl4 up4 => ?_
          have J4 : Inv X pins σ' H' { s' with heap := h4 } := J.landed nb fl4.1 ((up.trans up3).trans up4) os ag
          obtain ⟨oe4, vs4, he4, hz4, hd4⟩ := fl4.there
          have S4 := J4.suite he4 hd4 na nL nF
          cases eg : g fs ρ' with
          | none => rw [eg] at w2; exact w2.elim
          | some dv =>
            rw [eg] at w2
            obtain ⟨t, ht1, ht2⟩ := hsu ⟨a, cls, d, x, fs, none⟩ oe4 (X.pn ++ pins) rfl hz4 ⟨_, hd4⟩
            refine wpAny_mono ((pss_one (ps_ret ht1)).run [] _ _ H' D S4 (ht2 c' H' σ' ρ' μ' hK' fr.ok er (fun i z => nomatch z) dv eg _ fun v c6 H6 s6 M6 r6 => finish w2 s6 M6 r6)) (fun f s6 hsp => ?_) (fun _ _ z => False.elim z)
            cases f with
            | next =>
              obtain ⟨σ6, H6, S6, q6⟩ := hsp
              exact ⟨_, _, S6.unsuite ok, q6⟩
            | brk =>
              obtain ⟨σ6, H6, S6, q6⟩ := hsp
              exact ⟨_, _, S6.unsuite ok, q6⟩
            | cont =>
              obtain ⟨σ6, H6, S6, q6⟩ := hsp
              exact ⟨_, _, S6.unsuite ok, q6⟩
            | ret u =>
              obtain ⟨v6, σ6, H6, S6, r6, q6⟩ := hsp
              exact ⟨_, _, _, S6.unsuite ok, r6, q6⟩
        | false =>
          rw [hcx, if_neg Bool.false_ne_true] at w2
          show wpAny _ X.A (handleBy (.ref a) X.env hds2) _ _ _
          exact ih (fun p hp => hl' p (List.mem_cons_of_mem _ hp)) w2
      | @as_ c n C i e g np rp pos' hds2 l2 hg hdb hm hC hi hln hsu hgn r ih =>
        intro hl' w
        have hloc : Loc X.env.scope n := .inl hln
        have hb1 : PySem.W.exmOne X.K cls (.ref C) = some (catches x c) := by
          rw [ecls]
          exact he x hxn c (hl' _ List.mem_cons_self) _ _ enx hC
        refine wpAny_handleBy_cons (codeAny_handlers_test ?_) (by intro q; cases q)
        have LT : PySem.W.Looks (model X.prog X.w) h3 (typeOf (.ref a)) cls := fun A Q E s k q => wpAny_typeOf_ref (k _ _ he3) (by rw [hz3.1]; exact q)
        have LM := PySem.W.exm_one (M := model X.prog X.w) (J3.kIn) LT hb1
        refine (ld_glob (X := X.suite a ((a, oe3) :: (X.pn ++ pins))) S3 hg hm (LM.here ?_) hdb)
        have w2 : PostS Bs' W (if catches x c = true then (match g fs ρ' with | some d => .rt d μ' | none => .stuck) else catch_ nm x fs ρ' μ' l2) D := w
        cases hcx : catches x c with
        | true =>
          rw [hcx, if_pos rfl] at w2
          refine codeAny_handlers_suite_as ?_
          refine HandSPX.lands_againZ fl3 fun h4 fl4 up4 => ?_
          have J4 : Inv X pins σ' H' { s' with heap := h4 } := J.landed nb fl4.1 ((up.trans up3).trans up4) os ag
          obtain ⟨oe4, vs4, he4, hz4, hd4⟩ := fl4.there
          have S4 := J4.suite he4 hd4 na nL nF
          refine store_ok (X := X.suite a ((a, oe4) :: (X.pn ++ pins))) (v := .ref a) S4 hN hi hloc rfl (fun s5 S5 => ?_) (.inr hln)
          cases eg : g fs ρ' with
          | none => rw [eg] at w2; exact w2.elim
          | some dv =>
            rw [eg] at w2
            obtain ⟨t, ht1, ht2⟩ := hsu ⟨a, cls, d, x, fs, some i⟩ oe4 (X.pn ++ pins) rfl hcx hz4 ⟨_, hd4⟩
            have hlen : i < σ'.length := by rw [J.len]; exact (List.getElem?_eq_some_iff.mp hi).1
            refine wpAny_mono ((pss_one (ps_ret ht1)).run [] s5 _ H' { nx := fun σ' H' => D.nx (σ'.set i none) H', rt := D.rt, bk := fun σ' H' => D.bk (σ'.set i none) H', ct := fun σ' H' => D.ct (σ'.set i none) H' } S5
              (ht2 c' H' (σ'.set i (some (.ref a))) (ρ'.set i none) μ' hK' fr.ok.setn er (fun j z => by cases z; exact set_same hlen) dv (hgn fs ρ' dv eg) _ fun v c6 H6 s6 M6 r6 => finish w2 s6 M6 r6)) (fun f s6 hsp => ?_) (fun _ _ z => False.elim z)
            have end_ : ∀ {σ6 : St} {H6 : Hp} {Q : Shared → Prop}, Inv (X.suite a ((a, oe4) :: (X.pn ++ pins))) [] σ6 H6 s6 → (∀ s7, Inv X pins (σ6.set i none) H6 s7 → Q s7) →
                wpAny (model X.prog X.w) X.A (do bindName X.env n .none; unbindBehindTheSuite X.env n pos') (fun _ s7 => Q s7) X.xe s6 := fun {σ6 H6 Q} S6 hq => gone_ok (S6.unsuite ok) hN hi hln hq
            cases f with
            | next =>
              obtain ⟨σ6, H6, S6, q6⟩ := hsp
              exact end_ S6 fun s7 J7 => ⟨_, _, J7, q6⟩
            | brk =>
              obtain ⟨σ6, H6, S6, q6⟩ := hsp
              exact end_ S6 fun s7 J7 => ⟨_, _, J7, q6⟩
            | cont =>
              obtain ⟨σ6, H6, S6, q6⟩ := hsp
              exact end_ S6 fun s7 J7 => ⟨_, _, J7, q6⟩
            | ret u =>
              obtain ⟨v6, σ6, H6, S6, r6, q6⟩ := hsp
              exact end_ S6 fun s7 J7 => ⟨_, _, _, J7, r6, q6⟩
        | false =>
          rw [hcx, if_neg Bool.false_ne_true] at w2
          show wpAny _ X.A (handleBy (.ref a) X.env hds2) _ _ _
          exact ih (fun p hp => hl' p (List.mem_cons_of_mem _ hp)) w2
    exact go hh hl pc
  obtain ⟨tb, hb1, hb2⟩ := hb W' _ _ tkk PassesOwn.looking
  refine wpAny_mono (hb1.run [] s σ H D (I.toTry _) (hb2 Bs' c0 H σ ρ0 μ0 hK0 f0 D ?_)) (fun f s1 hsp => ?_) (fun e s1 he => he)
  · unfold sTry at p0
    cases eo : m ρ0 μ0 with
    | exn x fs ρ' μ' =>
      rw [eo] at p0
      have p1 : PostS Bs' W (if x ∈ nm then catch_ nm x fs ρ' μ' l else .stuck) D := p0
      by_cases hx : x ∈ nm
      · rw [if_pos hx] at p1
        rw [eW]
        exact fun c' H' σ' cls dd f' r' => ⟨c', ρ', μ', x, fs, f', r', hx, p1⟩
      · rw [if_neg hx] at p1
        exact p1.elim
    | nx ρ' μ' => rw [eo] at p0; exact p0
    | rt d μ' => rw [eo] at p0; exact p0
    | bk ρ' μ' => rw [eo] at p0; exact p0
    | ct ρ' μ' => rw [eo] at p0; exact p0
    | stuck => rw [eo] at p0; exact p0
  · cases f with
    | next =>
      obtain ⟨σ', H', J', q⟩ := hsp
      exact wpAny_execs_nil ⟨σ', H', J'.ofTry ok, q⟩
    | brk =>
      obtain ⟨σ', H', J', q⟩ := hsp
      exact ⟨σ', H', J'.ofTry ok, q⟩
    | cont =>
      obtain ⟨σ', H', J', q⟩ := hsp
      exact ⟨σ', H', J'.ofTry ok, q⟩
    | ret u =>
      obtain ⟨v, σ', H', J', r, q⟩ := hsp
      exact ⟨v, σ', H', J'.ofTry ok, r, q⟩
end
end DL
/-! # Dr: repr of data -/
namespace DL
open PySem PySem.Spec L2
open PyProof.Rows hiding St

mutual
/-- data as repr reads them -/
def D.pd : D → PyData
  | .non => .none
  | .bl b => .bool b
  | .int i => .int i
  | .str x => .str x
  | .tup l => .tuple (pdAll l)
  | .lst l => .list (pdAll l)
  | _ => .none
def pdAll : List D → List PyData
  | [] => []
  | d :: l => d.pd :: pdAll l
end
mutual
/-- no number is too long for a text, nothing stands in it that has an address to show -/
def D.plain : D → Bool
  | .non => true
  | .bl _ => true
  | .int i => decide (i.natAbs.log2 < 1920)
  | .str _ => true
  | .tup l => plainAll l
  | .lst l => plainAll l
  | _ => false
def plainAll : List D → Bool
  | [] => true
  | d :: l => d.plain && plainAll l
end
mutual
theorem pd_depth_ok : ∀ (d : D), d.plain = true → d.pd.showable = true ∧ d.pd.hasDict = false
  | .non, _ => ⟨rfl, rfl⟩
  | .bl _, _ => ⟨rfl, rfl⟩
  | .int i, h => ⟨h, rfl⟩
  | .str _, _ => ⟨rfl, rfl⟩
  | .tup l, h => by
    obtain ⟨h1, h2⟩ := pdAll_ok l h
    exact ⟨by simpa only [D.pd, PyData.showable] using h1, by simpa only [D.pd, PyData.hasDict] using h2⟩
  | .lst l, h => by
    obtain ⟨h1, h2⟩ := pdAll_ok l h
    exact ⟨by simpa only [D.pd, PyData.showable] using h1, by simpa only [D.pd, PyData.hasDict] using h2⟩
  | .scr _, h => by cases h
  | .ty _, h => by cases h
  | .cell _, h => by cases h
  | .fn _, h => by cases h
  | .lam _, h => by cases h
  | .clo _ _, h => by cases h
theorem pdAll_ok : ∀ (l : List D), plainAll l = true → PyData.showableAll (pdAll l) = true ∧ PyData.hasDictAll (pdAll l) = false
  | [], _ => ⟨rfl, rfl⟩
  | d :: l, h => by
    have h' : (d.plain && plainAll l) = true := h
    rw [Bool.and_eq_true] at h'
    obtain ⟨a1, a2⟩ := pd_depth_ok d h'.1
    obtain ⟨b1, b2⟩ := pdAll_ok l h'.2
    exact ⟨by simp only [pdAll, PyData.showableAll, a1, b1, Bool.and_self], by simp only [pdAll, PyData.hasDictAll, a2, b2, Bool.or_self]⟩
end
section
variable {P : Program} {w : World} {c : Ct} {H : Hp} {h : Heap}
mutual
theorem reads_of (hok : HOk P w H h) : ∀ {v : V} {d : D} {u : Value}, Rep c H v d → RelV v u → d.plain = true → ∃ as, Reads h u d.pd as
  | _, _, _, .non, r, _ => by cases r; exact ⟨_, .none⟩
  | _, _, _, .bl b, r, _ => by cases r; exact ⟨_, .bool b⟩
  | _, _, _, .int i, r, _ => by obtain ⟨t, rfl⟩ := r; exact ⟨_, .int i t⟩
  | _, _, _, .str x, r, _ => by obtain ⟨t, rfl⟩ := r; exact ⟨_, .str x t⟩
  | _, _, _, .tup (a := a) h1 h2 h3, r, p => by
    cases r
    obtain ⟨_, its, rv, o, e1, e2, n, e3⟩ := hok a _ h2
    obtain ⟨as, q⟩ := reads_all hok h3 rv p
    exact ⟨_, .tuple e1 e2 e3 q⟩
  | _, _, _, .lst (a := a) h1 h0 h2 h3, r, p => by
    cases r
    obtain ⟨_, its, n, rv, e1⟩ := hok a _ h2
    obtain ⟨as, q⟩ := reads_all hok h3 rv p
    exact ⟨_, .list e1 rfl rfl q⟩
  | _, _, _, .scr _ _, _, p => by cases p
  | _, _, _, .scrK _, _, p => by cases p
  | _, _, _, .cell _, _, p => by cases p
  | _, _, _, .ty _, _, p => by cases p
  | _, _, _, .fn _, _, p => by cases p
theorem reads_all (hok : HOk P w H h) : ∀ {vs : List V} {ds : List D} {us : List Value}, Reps c H vs ds → Vals vs us → plainAll ds = true → ∃ as, ReadsAll h us (pdAll ds) as
  | _, _, _, .nil, .nil, _ => ⟨_, .nil⟩
  | _, _, _, .cons (d := d) (ds := ds) q t, .cons r rs, p => by
    have p' : (d.plain && plainAll ds) = true := p
    rw [Bool.and_eq_true] at p'
    obtain ⟨a, h1⟩ := reads_of hok q r p'.1
    obtain ⟨b, h2⟩ := reads_all hok t rs p'.2
    exact ⟨_, .cons h1 h2⟩
end
end
theorem reads_F {P : Program} {w : World} {c : Ct} {H : Hp} {h : Heap} (hok : HOk P w H h) {b : Bool} {v : V} {d : D} {u : Value} (q : RepF b c H v d) (r : RelV v u) (p : d.plain = true) : ∃ as, Reads h u d.pd as := by
  rcases q with q | ⟨_, a, vs, ds, rfl, rfl, _, _, h4, h5⟩
  · exact reads_of hok q r p
  · cases r
    obtain ⟨_, its, n, rv, e1⟩ := hok a _ h4
    obtain ⟨as, q⟩ := reads_all hok h5 rv p
    exact ⟨_, .list e1 rfl rfl q⟩

/-- what a repr may show -/
def D.fit (d : D) : Bool := d.plain && decide (d.pd.depth ≤ 100) && decide (d.pd.shown.length ≤ sizeLine)
def fRepr : List D → Mu → Out D
  | [d], μ => if d.fit then .ok (.str d.pd.shown) μ else .stuck
  | _, _ => .stuck
def rRepr (xs : List V) (H : Hp) (Q : VK) : Prop := ∃ (c : Ct) (v : V) (d : D), xs = [v] ∧ RepF true c H v d ∧ d.fit = true ∧ Q (.str d.pd.shown) H
theorem call_repr {X : Cx} (hg : X.A.guards = some []) (hu : X.A.units + 200 < cLine) : CallR X (.builtin "repr") rRepr := by
  intro pins s σ H xs us Q I r h
  obtain ⟨c, v, d, rfl, rep, fit, q⟩ := h
  obtain ⟨u, rfl, rv⟩ := vals1 r
  unfold D.fit at fit
  rw [Bool.and_eq_true, Bool.and_eq_true, decide_eq_true_eq, decide_eq_true_eq] at fit
  obtain ⟨⟨f1, f2⟩, f3⟩ := fit
  obtain ⟨ok1, ok2⟩ := pd_depth_ok d f1
  obtain ⟨as, rd⟩ := reads_F I.hok rep rv f1
  have fin : ∀ h' tk u', (∀ b o, s.heap.get? b = some o → h'.get? b = some o) → EP X pins σ Q (.str d.pd.shown u') { s with heap := h', toks := tk } := fun h' tk u' k => ⟨.str _, H, I.kept k, ⟨_, rfl⟩, q⟩
  have tok : ∀ tk u', EP X pins σ Q (.str d.pd.shown u') { s with toks := tk } := fun tk u' => ⟨.str _, H, I.tok _, ⟨_, rfl⟩, q⟩
  cases u with
  | ref a =>
    exact PySem.repr_of_reads' rd ok1 (PyData.noDict_hsm ok2) hg (by omega) (fun _ _ e => e) (fun h' u' tk k => fin h' tk u' k) f3
  | none => cases hd : d.pd <;> rw [hd] at rd <;> cases rd; rw [hd] at fin tok; exact PySem.P.repr_of_none (tok _ _)
  | bool b => cases hd : d.pd <;> rw [hd] at rd <;> cases rd; rw [hd] at fin tok; exact PySem.P.repr_of_bool (tok _ _)
  | int i t => cases hd : d.pd <;> rw [hd] at rd ok1 <;> cases rd; rw [hd] at fin tok; exact PySem.P.repr_of_int (by simpa [PyData.showable] using ok1) (tok _ _)
  | str x t => cases hd : d.pd <;> rw [hd] at rd f3 <;> cases rd; rw [hd] at fin tok; exact PySem.P.repr_of_str (tok _ _) f3
  | _ => cases hd : d.pd <;> rw [hd] at rd <;> cases rd
theorem rel_repr {K : PySem.W.Frag} {W : WX} : RelL K W true rRepr fRepr := by
  intro c H σ μ vs ds hK M r Q p
  cases r with
  | nil => exact p.elim
  | cons r t =>
    cases t with
    | cons _ _ => exact p.elim
    | nil =>
      rename_i v d
      have p' : Post false c σ H W (if d.fit then .ok (.str d.pd.shown) μ else .stuck) Q := p
      by_cases h : d.fit = true
      · rw [if_pos h] at p'
        exact ⟨c, v, d, rfl, r, h, p' _ c H (Stp.refl c H) M (Rep.str _).f⟩
      · rw [if_neg h] at p'
        exact p'.elim
theorem pd_repr {X : Cx} {W : WX} {b : Bool} {j : Nat} {e : Expr} {mr : SA} {p pos : Pos} (rm : Rm j X.A) (hm : X.mg "repr" = none) (ha : PDA X W true [e] mr) (hgl : Gl X "repr" := by rfl)
    (he : starEach [e] X.env = (false, eval e X.env) :: starEach [] X.env := by rfl) : PD X W b (.Call (.Name "repr" p) [e] [] pos) (mApp fRepr mr) :=
  pd_callB (call_repr rm.g (by have := rm.r.un; omega)) rel_repr hm rfl ha hgl (by decide) (by decide) he
end DL
/-! # De: an own error class without a field; the field of an error that is made by keyword; lists that are changed by others -/
namespace PySem
namespace EX
open PySem.W PySem.Calls PyProof.Rows PySem.HandSPX
abbrev iA0 (p1 : Pos) : Arguments := { posonlyargs := [], args := [{ arg := "self", annotation := none, pos := p1 }], vararg := none, kwonlyargs := [], kw_defaults := [], kwarg := none, defaults := [] }
abbrev iS0 : Scope := { kind := .function, names := [(PySem.Str.ofString "self", .local), (PySem.Str.ofString "__class__", .free), (PySem.Str.ofString "super", .globalImplicit)], isGenerator := false, isCoroutine := false, more := [] }
abbrev iB0 (tx : Str) (j : Nat) (p0 p1 p2 p3 p4 p5 : Pos) : List Stmt := [.Expr (.Call (.Attribute (.Call (.Name "super" p0) [] [] p1) "__init__" p2) [.Constant (.str tx) j p3] [] p4) p5]
structure ErrT0 (P : Program) (K : Frag) (x : Str) (C fI cda cc : Addr) : Prop where
  gC : nsIn K mainGlobals x = some (some (.ref C))
  q : excInitIn K C exTail "Exception.__new__" = true
  iC : findIn K (.ref C) "__init__" = some (some (.ref fI))
  isF : isFn K (.ref fI) = true
  kp : keepIn K (.ref C) = true
  sB : subIn K (.ref C) (.type "BaseException") = some true
  sE : subIn K (.ref C) (.type "Exception") = some true
  ty : typeIn K (.ref C) = some (.type "type")
  tp : nsIn K cStatics "thirdparty.any" = some none
  su : ks_superIn K C C "__init__" = some (some (.builtin "Exception.__init__"))
  mr : mroIn K C (.ref C) = some true
  isC : (clsIn K C).isSome = true
  sup : nsIn K mainGlobals "super" = some none
  fn : ∃ oc od kV doc pm an ct osl qual p1 tx j q0 q1 q2 q3 q4 q5, K.lookup fI = some ⟨oc, od, .func (fnX "__init__" qual (iA0 p1) (iB0 tx j q0 q1 q2 q3 q4 q5) iS0 [("__class__", cc)] .none kV doc pm an (.ref cda) ct), osl⟩ ∧ codeIn K (.ref cda) qual = true ∧ (q2.endLine == q4.line) = true
  code : ∃ ccl cdd vs ccs file tf, K.lookup cda = some ⟨ccl, cdd, .fields vs, ccs⟩ ∧ vs[2]? = some (.str file tf) ∧ ((P.main.file : Str) == file) = true
  cell : ∃ cl cld csl, K.lookup cc = some ⟨cl, cld, .cell (some (.ref C)), csl⟩
  top : (P.main.scope.names.lookup ("super" : Str)).isSome = false
abbrev ksEnv0 (q : Str) (L a : Addr) (cd : Value) (cc : Addr) := ksEnv q iS0 L a cd cc
section
variable {prog : Program} {w : World} {A : Around} {E : Value → Shared → Prop} {R : Result → Shared → Prop} {s : Shared} {K : Frag} {mg : Str → Option Value} {base : Heap} {x : Str} {C fI cda cc : Addr}
theorem sup_init0 (T : ErrT0 prog K x C fI cda cc) {e t0 : Addr} (M : L2.Mod K mg base) (bk : ∀ b o, base.get? b = some o → s.heap.get? b = some o) (X : K.In s.heap) (hlim : s.heap.NoLimit) (he : s.heap.get? e = some (excO C t0)) (hne : K.lookup e = none)
    (hroom : A.depth < recursionLimit) (hq : ∀ h' tk, (∀ b o, b ≠ e → s.heap.get? b = some o → h'.get? b = some o) → (∃ t1 : Addr, h'.get? e = some (excO C t1)) → R (.ok (.ret .none)) { s with heap := h', toks := tk }) :
    codeAny (model prog w) A (.call (.ref fI) ⟨[.ref e], []⟩) R s := by
  obtain ⟨oc, od, kV, doc, pm, an, ct, osl, qual, p1, tx, j, q0, q1, q2, q3, q4, q5, lk, hcd, hline⟩ := T.fn
  obtain ⟨ccl, cdd, vs, ccs, file, tf, lc, hvs, hfile⟩ := T.code
  obtain ⟨cl, cld, csl, lcell⟩ := T.cell
  refine ks_codeAny_call_defAt (binds := [("self", .ref e)]) hroom (X _ _ lk) rfl hlim (codeRec_of X hcd) rfl (BindsTo.of_eq rfl) ?_ ?_ (fun h0 hns hk => ?_)
  · intro y hy
    simp only [List.mem_cons, List.not_mem_nil, or_false] at hy
    rcases hy with rfl | rfl | rfl <;> exact fun z => nomatch z
  · intro y hy
    simp only [List.mem_cons, List.not_mem_nil, or_false] at hy
    rcases hy with rfl
    rfl
  have xL : s.heap.objs.size ≠ e := Nat.ne_of_gt (Heap.lt_size he)
  have under : ∀ b o, (hideAll s.heap [e]).get? b = some o → s.heap.get? b = some o := fun b o z => of_hideAll [e] z
  have gone : (hideAll s.heap [e]).get? e = none := hideAll_none [e] (by simp)
  have XG : K.In (hideAll s.heap [e]) := by
    intro b o z
    refine hideAll_get [e] (X b o z) ?_
    intro m
    rcases List.mem_singleton.mp m with rfl
    rw [hne] at z
    cases z
  have F0 : Fr (hideAll s.heap [e]) s.heap.objs.size h0 (fun y => ([("self", Value.ref e)] : List (Str × Value)).reverse.lookup y) := ⟨hns, fun b o z => hk b o (under b o z), by rw [hideAll_size]; exact Nat.le_refl _⟩
  have N0 : News (hideAll s.heap [e]) s.heap.objs.size h0 [(e, excObj C t0 none .none)] := by
    intro p hp
    rcases List.mem_singleton.mp hp with rfl
    exact ⟨hk _ _ he, fun z => xL z.symm, gone⟩
  obtain ⟨cdC, hcC⟩ := Option.isSome_iff_exists.mp T.isC
  obtain ⟨mb, hb1, hb2⟩ := M.blt
  show wpAt (model prog w) _ (.func _ (ksEnv0 qual s.heap.objs.size fI (.ref cda) cc)) (execs (iB0 tx j q0 q1 q2 q3 q4 q5) (ksEnv0 qual s.heap.objs.size fI (.ref cda) cc)) _ _ _
  have ksup : List.lookup (PySem.Str.ofString "super") iS0.names = some .globalImplicit := by decide +kernel
  have kcls : List.lookup (PySem.Str.ofString "__class__") iS0.names = some .free := by decide +kernel
  have kself : List.lookup (PySem.Str.ofString "self") iS0.names = some .local := rfl
  have IE : InstAt h0 e (excObj C t0 none .none) C none := ⟨hk _ _ he, rfl, rfl, trivial⟩
  obtain ⟨oC, hC1, hC2⟩ : ∃ oC, s.heap.get? C = some oC ∧ oC.data = .cls cdC := by
    unfold clsIn at hcC
    split at hcC
    · rename_i c d cd' sl ho
      cases hcC
      exact ⟨_, X _ _ ho, rfl⟩
    · cases hcC
  refine ks_wpAt_execs_cons (ks_wpAt_Expr_any (ks_wpAt_MethodCall (ks_wpAt_super_base ksup kcls (by decide +kernel) rfl (hk _ _ (X _ _ lk)) rfl rfl rfl (hk _ _ (X _ _ lc)) rfl hvs hfile T.top ?_) (eval_meth hline rfl)))
  refine ks_loadName_global rfl ksup (loadGlobal_builtin (M.glob.keeps fun b o z => hk b o (bk b o z)) (mg_none_of M.kin M.glob T.sup) (hb1.keeps fun b o z => hk b o (bk b o z)) ((hb2 _ (by decide)).trans (by decide +kernel)) ⟨rfl, ?_⟩)
  refine wpAny_loadName_free rfl kcls rfl ⟨_, hk _ _ (X _ _ lcell), rfl⟩ ?_
  refine wpAny_loadName_local rfl kself hns rfl ?_
  refine ks_wpAny_isType_cls (hk _ _ hC1) hC2 ⟨rfl, ?_⟩
  refine ks_wpAny_call_super (hk _ _ hC1) hC2 IE.at_ rfl (fun c z => by cases z) (looks_mroIn (X.keeps hk) T.mr) (fun h1 e1 k1 => ?_)
  obtain ⟨F1, N1, l1⟩ := ks_newsPush (s := ⟨h0, s.gens, s.drawn, s.toks + [((PySem.Str.ofString "self" : Str), Value.ref e)].length, s.os⟩) F0 N0 rfl e1 k1
  have IE1 : InstAt h1 e (excObj C t0 none .none) C none := ⟨k1 _ _ (hk _ _ he), rfl, rfl, trivial⟩
  refine kxs_method kxs_Exception F1 XG N1 (.head _) IE1 T.tp T.su T.sE (by decide +kernel) (fun u h2 F2 N2 l2 => ?_)
  refine kxs_callWith1 N2 (.head _) ?_
  show wpAny _ _ (spliced ((false, eval (.Constant (.str tx) j q3) (ksEnv0 qual s.heap.objs.size fI (.ref cda) cc)) :: [])) _ _ _
  refine Calls.spliced_cons (Calls.Constant_str (Calls.spliced_nil ⟨kxs_at N2 (.head _), ?_⟩))
  have ue : u ≠ e := fun z => by
    have q := l2 (e, excObj C t0 none .none) (.tail _ (.head _))
    exact absurd (z ▸ q) (Nat.lt_irrefl _)
  have se : h0.objs.size ≠ e := fun z => by
    have q := l1 (e, excObj C t0 none .none) (.head _)
    exact absurd (z ▸ q) (Nat.lt_irrefl _)
  refine kxs_call F2 XG N2 PySem.F.excBase_Exception T.q (.head _) (.tail ue (.tail se (.head fun p hp => nomatch hp))) (by rw [sizeLine_eq]; exact (by decide : 1 ≤ 16777216)) (fun t1 h3 F3 N3 l3 => ?_)
  refine wpAt_of_wpAny (wpAny_execs_nil ?_)
  refine hq h3 _ (fun b o hb ho => ?_) ⟨t1, (N3 (e, excObj C t1 none .none) (.tail _ (.tail _ (.tail _ (.head _))))).1⟩
  exact F3.keep b o (hideAll_get [e] ho (by intro m; exact hb (List.mem_singleton.mp m)))
theorem err_made0 (T : ErrT0 prog K x C fI cda cc) (M : L2.Mod K mg base) (bk : ∀ b o, base.get? b = some o → s.heap.get? b = some o) (hlim : s.heap.NoLimit) (hroom : A.depth + 1 < recursionLimit)
    (hq : ∀ h' tk e, (∀ b o, s.heap.get? b = some o → h'.get? b = some o) → s.heap.objs.size ≤ e → (∃ t1 : Addr, h'.get? e = some (excO C t1)) → R (.ok (.ret (.ref e))) { s with heap := h', toks := tk }) :
    codeAny (model prog w) A (.call (.ref C) ⟨[], []⟩) R s := by
  have X : K.In s.heap := M.kin.keeps bk
  obtain ⟨nm, N, qn, bs, bm, hdct, sn, sub, ab, col, dd, k0, k1, k2, k3, k5, hC, hT⟩ := excInit_of X T.q
  have tF : typeIn K (.ref fI) = some (.type "function") := beq_iff_eq.mp T.isF
  obtain ⟨hp, g, dr, tk, os⟩ := s
  have k : ∀ b o, hp.get? b = some o → ((hp.push (kdv_tup [])).push (excO C hp.objs.size)).get? b = some o := fun b o e => Heap.get?_push_of_some _ (Heap.get?_push_of_some _ e)
  have there : ((hp.push (kdv_tup [])).push (excO C hp.objs.size)).get? (hp.objs.size + 1) = some (excO C hp.objs.size) := by heap_get
  have big : ∀ {b : Addr} {o : Obj}, hp.get? b = some o → b ≠ hp.objs.size + 1 := fun {b o} z => Nat.ne_of_lt (Nat.lt_succ_of_lt (Heap.lt_size z))
  have notK : K.lookup (hp.objs.size + 1) = none := by
    cases e : K.lookup (hp.objs.size + 1) with
    | none => rfl
    | some o => exact absurd rfl (big (X _ _ e))
  refine callK PySem.F.excBase_Exception hT hC (looks_findIn X T.iC) (fun self => bind_fn X self tF) (by rw [sizeLine_eq]; exact (by decide : 0 ≤ 16777216)) ?_
  refine sup_init0 (s := ⟨(hp.push (kdv_tup [])).push (excO C hp.objs.size), g, dr, tk, os⟩) T M (fun b o z => k b o (bk b o z)) (X.keeps k) (hlim.keeps k) there notK hroom (fun h' tk' kk oo => ?_)
  exact ⟨rfl, hq h' tk' (hp.objs.size + 1) (fun b o z => kk b o (big z) (k b o z)) (Nat.le_succ _) oo⟩
end
end EX
end PySem

namespace DL
open PySem PySem.Spec L2
open PyProof.Rows hiding St
structure Err0 (P : Program) (K : PySem.W.Frag) (mg : Str → Option Value) (x : Str) : Prop where
  ex : ∃ C fI cda cc, PySem.EX.ErrT0 P K x C fI cda cc ∧ mg x = some (.ref C)
section
variable {X : Cx} {x f : Str} {C fI cda cc : Addr} {W : WX}
theorem pmk_err0 {p pos : Pos} {k : Nat} (T : PySem.EX.ErrT0 X.prog X.K x C fI cda cc) (hr : Room k X.A) (hk : 1 ≤ k) (hm : X.mg x = some (.ref C)) (hg : Gl X x) (hdb : (x == ("__debug__" : Str)) = false) :
    PMk X (.Call (.Name x p) [] [] pos) (fun σ H Q => Q (.ref C) none H) := by
  intro pins s σ H Q I h
  refine wpAny_Call_Name_kw (ld_glob I hg hm ?_ hdb)
  refine PySem.W.callWith_K0 I.kIn T.kp ?_
  show wpAny _ _ (call (.ref C) []) _ _ _
  have hlim := I.nolimit
  have room := hr.dp
  obtain ⟨hp, g, dr, tk, os⟩ := s
  refine wpAny_call (PySem.EX.err_made0 T I.mod I.bk hlim (by omega) fun h' tk' e keep new obj => ?_)
  show MkP X pins σ Q (.ref e) ⟨h', g, dr, tk', os⟩
  obtain ⟨t1, hoe⟩ := obj
  obtain ⟨G', g1, g2⟩ := restrict h' fun b => decide (b ≠ e)
  have gk : ∀ b, b ≠ e → G'.get? b = h'.get? b := fun b hb => g1 b (decide_eq_true hb)
  have ge : G'.get? e = none := g2 e (by simp)
  have old : ∀ b o, hp.get? b = some o → G'.get? b = some o := fun b o q => (gk b (Nat.ne_of_lt (Nat.lt_of_lt_of_le (Heap.lt_size q) new))).trans (keep b o q)
  have J : Inv X pins σ H ⟨G', g, dr, tk', os⟩ := I.kept (t' := tk') old
  refine ⟨e, _, _, ⟨G', g, dr, tk', os⟩, _, .ref C, none, rfl, J, fun b o q => ?_, ge, hoe, ⟨rfl, rfl⟩, rfl, rfl, I.hok.fresh new, rfl, I.bare, raises_own T.sB T.ty, h⟩
  by_cases hb : b = e
  · have q' : G'.get? b = some o := q
    rw [hb, ge] at q'
    cases q'
  · exact (gk b hb).symm.trans q
/-- raise X() -/
def sRaise0 (x : Str) : SS := fun ρ μ => .exn x [] ρ μ
theorem psd_raise0 {p pos pos2 : Pos} {k : Nat} (T : Err0 X.prog X.K X.mg x) (hc : X.calm = true) (hr : Room k X.A) (hk : 1 ≤ k) (tk : Takes X W) (hg : Gl X x := by rfl) (hdb : (x == ("__debug__" : Str)) = false := by decide) :
    PSD X W (.Raise (some (.Call (.Name x p) [] [] pos)) none pos2) (sRaise0 x) := by
  obtain ⟨C, fI, cda, cc, T, hm⟩ := T.ex
  refine ⟨_, ps_raise hc tk (pmk_err0 T hr hk hm hg hdb), fun B c H σ ρ μ hK fr D q => ?_⟩
  refine q c H σ (.ref C) none fr ⟨⟨C, rfl, ?_⟩, .inl ⟨rfl, rfl⟩⟩
  rw [hK]
  exact T.gC
/-- X(f=e).f -/
theorem pd_fresh {e : Expr} {ma : SE} {p pos kpos pos2 : Pos} {k : Nat} (T : Err X.prog X.K X.mg x f) (hf : PySem.EX.OkF f) (hr : Room k X.A) (hk : 1 ≤ k) (ha : PD X W false e ma) (hg : Gl X x := by rfl) (hdb : (x == ("__debug__" : Str)) = false := by decide)
    (hall : (backToKw pos (keywordEach [⟨some f, e, kpos⟩] X.env)).all (·.1.isSome) = true := by rfl) (hks : (backToKw pos (keywordEach [⟨some f, e, kpos⟩] X.env)).filterMap (·.1) = [f] := by rfl)
    (hpl : ((backTo pos (starEach [] X.env)).any (·.1) || (backToKw pos (keywordEach [⟨some f, e, kpos⟩] X.env)).any (·.1.isNone)) = false := by rfl)
    (hb : attributeBase (.Call (.Name x p) [] [⟨some f, e, kpos⟩] pos) f X.env (eval (.Call (.Name x p) [] [⟨some f, e, kpos⟩] pos) X.env) = eval (.Call (.Name x p) [] [⟨some f, e, kpos⟩] pos) X.env := by rfl) :
    PD X W false (.Attribute (.Call (.Name x p) [] [⟨some f, e, kpos⟩] pos) f pos2) ma := by
  obtain ⟨C, fI, cda, cc, T, hm⟩ := T.ex
  obtain ⟨t, h1, h2⟩ := ha
  have hK1 := pk_cons (nm := some f) (kpos := kpos) h1 pk_nil
  refine ⟨t, ⟨fun pins s σ H Q I h => ?_⟩, h2⟩
  refine attr_of hb ?_
  refine wpAny_Call_Name_kw (ld_glob I hg hm ?_ hdb)
  refine PySem.W.callWith_KW0 (h₀ := X.base) I.ok.mod.kin T.kp hall (thn (hK1.run pos pins s σ H (fun zs H1 => ∃ z, zs = [z] ∧ Q z H1) I ?_) fun ws s1 hh => ?_) hpl
  · show t σ H fun v H1 => _
    refine (show t σ H (fun v H1 => tNil σ H1 fun xs H2 => ∃ z, v :: xs = [z] ∧ Q z H2) from ?_)
    have e : (fun v H1 => tNil σ H1 fun xs H2 => ∃ z, v :: xs = [z] ∧ Q z H2) = Q := by
      funext v H1
      apply propext
      constructor
      · rintro ⟨z, ez, q⟩
        cases ez
        exact q
      · exact fun q => ⟨v, rfl, q⟩
    rw [e]
    exact h
  obtain ⟨zs, H1, I1, r1, z, ez, q⟩ := hh
  subst ez
  obtain ⟨u, rfl, ru⟩ := vals1 r1
  rw [hks]
  refine ⟨I1.kIn, ?_⟩
  show wpAny _ _ (call (.ref C) [] [(f, u)]) _ _ _
  have hlim := I1.nolimit
  have room := hr.dp
  obtain ⟨hp, g, dr, tk, os⟩ := s1
  refine wpAny_call (PySem.EX.err_made T hf (.inr ⟨rfl, rfl⟩) I1.mod I1.bk hlim (by omega) fun h' tk' e' d M => ?_)
  show wpAny _ _ (getAttr (.ref e') f true) _ _ ⟨h', g, dr, tk', os⟩
  obtain ⟨t1, hoe⟩ := M.obj
  obtain ⟨od, ho, hl⟩ := lookIn_ns M.ns
  have J : PySem.W.InstAt h' e' _ C (some od) := ⟨hoe, rfl, rfl, ho⟩
  have K' : Inv X pins σ H1 ⟨h', g, dr, tk', os⟩ := I1.kept (t' := tk') M.keep
  refine HandSPX.exc_get (s := ⟨h', g, dr, tk', os⟩) K'.kIn J T.ga T.gg T.sB (PySem.W.findObj_own T.hd T.no rfl (by rw [hl, if_pos rfl])) (handed_of ru) ⟨z, H1, K'.tok _, ru, q⟩
end
end DL
/-! # Dc: lists that are changed by others (a new one, an item stored) -/
namespace DL
open PySem PySem.Spec L2
open PyProof.Rows hiding St
section
variable {X : Cx} {W : WX} {b : Bool} {e f g : Expr} {es : List Expr} {mr : SA} {ma mb mc : SE} {pos : Pos}
/-- a list display: a list that others change -/
def mCell (mr : SA) : SE := fun ρ μ => (mr ρ μ).bnd fun ds μ1 => if line ds.length = true then .ok (.cell μ1.length) (μ1 ++ [ds]) else .stuck
theorem stp_new {c : Ct} {H : Hp} {p : Addr} {o : HO} (hp : H p = none) : Stp c ⟨c.K, c.cs ++ [p], c.br⟩ H (upd H p o) := by
  refine ⟨rfl, rfl, ⟨[p], rfl, ?_⟩, ?_, ?_⟩
  · intro a ha
    rw [List.mem_singleton.mp ha]
    exact hp
  · intro a u ha _
    rw [upd_ne (ne_of_none ha hp)]
    exact ha
  · intro a u ha
    exact ⟨u, by rw [upd_ne (ne_of_none ha hp)]; exact ha⟩
theorem mrel_new {c : Ct} {H : Hp} {μ : Mu} {p : Addr} {vs : List V} {ds : List D} (M : MRel c H μ) (hp : H p = none) (r : Reps c H vs ds) : MRel ⟨c.K, c.cs ++ [p], c.br⟩ (upd H p (.lst vs)) (μ ++ [ds]) := by
  have st := stp_new (c := c) (o := .lst vs) hp
  have np : p ∉ c.cs := fresh_cs M hp
  have nb : p ∉ c.br := fresh_br M hp
  refine ⟨by rw [List.length_append, List.length_append, M.len]; rfl, ?_, ?_, ?_⟩
  · refine List.nodup_append.mpr ⟨M.nd, by simp, ?_⟩
    intro a ha b' hb' e
    rw [List.mem_singleton.mp hb'] at e
    exact np (e ▸ ha)
  · intro n a l hn hl
    by_cases h : n < c.cs.length
    · rw [List.getElem?_append_left h] at hn
      rw [List.getElem?_append_left (by rw [← M.len]; exact h)] at hl
      obtain ⟨h1, ws, h2, h3⟩ := M.at_ n a l hn hl
      exact ⟨h1, ws, by rw [upd_ne (ne_of_none h2 hp)]; exact h2, h3.step st⟩
    · have hlen := (List.getElem?_eq_some_iff.mp hn).1
      rw [List.length_append, List.length_singleton] at hlen
      have en : n = c.cs.length := by omega
      subst en
      rw [List.getElem?_append_right (Nat.le_refl _), Nat.sub_self] at hn
      rw [M.len, List.getElem?_append_right (Nat.le_refl _), Nat.sub_self] at hl
      cases hn
      cases hl
      exact ⟨nb, vs, upd_same, r.step st⟩
  · intro a ha
    obtain ⟨o, ho⟩ := M.br a ha
    exact ⟨o, by rw [upd_ne (ne_of_none ho hp)]; exact ho⟩
theorem pd_cell (ha : PDA X W false es mr) : PD X W b (.List es pos) (mCell mr) := by
  obtain ⟨t, h1, h2⟩ := ha
  refine ⟨_, pe_lst h1, fun c H σ ρ μ hK k Q p => ?_⟩
  refine h2 c H σ ρ μ hK k _ (PostG.bnd p fun ds μ1 vs c1 H1 s1 M1 r1 p1 => ?_)
  by_cases hl : line ds.length = true
  · rw [if_pos hl] at p1
    refine ⟨by rw [r1.reps.length]; exact line_ok hl, fun a ha => ?_⟩
    refine p1 _ _ _ (stp_new ha) (mrel_new M1 ha r1.reps) (Rep.f (.cell ?_))
    show (c1.cs ++ [a])[μ1.length]? = some a
    rw [← M1.len, List.getElem?_append_right (Nat.le_refl _), Nat.sub_self]
    rfl
  · rw [if_neg hl] at p1
    exact p1.elim
/-- an item is stored into it -/
theorem stp_put {c : Ct} {H : Hp} {p : Addr} {o : HO} (hp : p ∈ c.cs) : Stp c c H (upd H p o) := by
  refine ⟨rfl, rfl, ⟨[], by simp, by simp⟩, ?_, ?_⟩
  · intro a u ha hn
    have ne : a ≠ p := fun e => hn (by rw [e]; exact hp)
    rw [upd_ne ne]
    exact ha
  · intro a u ha
    by_cases e : a = p
    · subst e
      exact ⟨_, upd_same⟩
    · exact ⟨u, by rw [upd_ne e]; exact ha⟩
theorem mrel_put {c : Ct} {H : Hp} {μ : Mu} {p : Addr} {n : Nat} {vs : List V} {ds : List D} (M : MRel c H μ) (hn : c.cs[n]? = some p) (r : Reps c H vs ds) : MRel c (upd H p (.lst vs)) (μ.set n ds) := by
  have st := stp_put (c := c) (H := H) (o := .lst vs) (List.mem_of_getElem? hn)
  refine ⟨by rw [List.length_set]; exact M.len, M.nd, ?_, ?_⟩
  · intro m a l hm hl
    have lm := (List.getElem?_eq_some_iff.mp hm).1
    by_cases e : m = n
    · subst e
      rw [hn] at hm
      cases hm
      rw [List.getElem?_set_self (by rw [← M.len]; exact lm)] at hl
      cases hl
      obtain ⟨h1, _⟩ := M.at_ m p (μ[m]'(by rw [← M.len]; exact lm)) hn (List.getElem?_eq_getElem _)
      exact ⟨h1, vs, upd_same, r.step st⟩
    · rw [List.getElem?_set_ne (fun q => e q.symm)] at hl
      obtain ⟨h1, ws, h2, h3⟩ := M.at_ m a l hm hl
      have ne : a ≠ p := by
        intro q
        subst q
        obtain ⟨l1, e1⟩ := List.getElem?_eq_some_iff.mp hm
        obtain ⟨l2, e2⟩ := List.getElem?_eq_some_iff.mp hn
        exact e ((List.getElem_inj M.nd).mp (e1.trans e2.symm))
      exact ⟨h1, ws, by rw [upd_ne ne]; exact h2, h3.step st⟩
  · intro a ha
    obtain ⟨o, ho⟩ := M.br a ha
    exact st.there a o ho
/-- the store behind xs[i] = d -/
def cellPut (o i d : D) (μ : Mu) : Option Mu := match o, i with
  | .cell n, .int k => (match μ[n]? with
    | some l => (match L2.ixN l.length k with
      | some j => some (μ.set n (l.set j d))
      | none => none)
    | none => none)
  | _, _ => none
def sPut (mo mi mv : SE) : SS := fun ρ μ => (mv ρ μ).go ρ fun d μ1 => (mo ρ μ1).go ρ fun o μ2 => (mi ρ μ2).go ρ fun i μ3 => match cellPut o i d μ3 with
  | some μ4 => .nx ρ μ4
  | none => .stuck
theorem psd_put {mo mi mv : SE} {p2 : Pos} (hv : PD X W false e mv) (ho : PD X W false f mo) (hi : PD X W false g mi)
    (ha : ∀ v, assign (.Subscript f g p2) X.env v = (do
      let ov ← holding [v] (eval f X.env)
      let iv ← holding [v, ov] (eval g X.env)
      standAt p2
      holding [v, ov, iv] (setItem ov iv v)
      release [v, ov, iv] []) := by intro _; rfl)
    (hs : swapsWithSole [.Subscript f g p2] e pos.line X.env = pure false := by rfl) (hw : swappedStores [.Subscript f g p2] e X.env = pure none := by rfl)
    (h1 : (assignEach [.Subscript f g p2] X.env).map (·.2) = [assign (.Subscript f g p2) X.env] := by rfl) :
    PSD X W (.Assign [.Subscript f g p2] e pos) (sPut mo mi mv) := by
  obtain ⟨tv, v1, v2⟩ := hv
  obtain ⟨to, o1, o2⟩ := ho
  obtain ⟨ti, i1, i2⟩ := hi
  refine ⟨_, ps_asg v1 (pg_sub o1 i1 set_list ha) hs hw h1, fun B c H σ ρ μ hK fr D p => ?_⟩
  refine v2 c H σ ρ μ hK fr.ok _ (fr.go p fun d m v c1 H1 s1 f1 r1 p1 => ?_)
  have hK1 := s1.K.trans hK
  refine o2 c1 H1 σ ρ m hK1 f1.ok _ (f1.go p1 fun o m2 vo c2 H2 s2 f2 r2 p2' => ?_)
  have hK2 := s2.K.trans hK1
  refine i2 c2 H2 σ ρ m2 hK2 f2.ok _ (f2.go p2' fun i m3 vi c3 H3 s3 f3 r3 p3 => ?_)
  cases e1 : cellPut o i d m3 with
  | none => rw [e1] at p3; exact p3.elim
  | some m4 =>
    rw [e1] at p3
    unfold cellPut at e1
    cases o with
    | cell n =>
      cases i with
      | int k =>
        have e1' : (match m3[n]? with | some l => (match L2.ixN l.length k with | some j => some (m3.set n (l.set j d)) | none => none) | none => none) = some m4 := e1
        cases e2 : m3[n]? with
        | none => rw [e2] at e1'; cases e1'
        | some l =>
          rw [e2] at e1'
          have e1'' : (match L2.ixN l.length k with | some j => some (m3.set n (l.set j d)) | none => none) = some m4 := e1'
          cases e3 : L2.ixN l.length k with
          | none => rw [e3] at e1''; cases e1''
          | some j =>
            rw [e3] at e1''
            cases e1''
            have ro := (r2.step s3).rep
            cases ro with
            | cell hc =>
              rename_i a
              obtain ⟨hb, vs, h2, h3⟩ := f3.ok.m.at_ n a l hc e2
              obtain rfl := rep_int r3
              have rd := (r1.rep.step s2).step s3
              refine ⟨a, vs, k, j, rfl, rfl, h2, by rw [h3.length]; exact e3, ?_⟩
              exact p3 c3 _ σ (f3.step (stp_put (List.mem_of_getElem? hc)) (mrel_put f3.ok.m hc (h3.set rd j)))
      | _ => cases e1
    | _ => cases e1
end
end DL
/-! # Dh: what the head tells: names, defs, error classes; the end of a walk -/
namespace DL
open PySem PySem.Spec L2
open PyProof.Rows hiding St

/-! ### error classes -/
def iAd (K : PySem.W.Frag) (x : Str) : Addr := He.ma K (He.ga K x) "__init__"
def cdAd (K : PySem.W.Frag) (x : Str) : Addr := match K.lookup (iAd K x) with
  | some ⟨_, _, .func fd, _⟩ => (match fd.code with
    | .ref c => c
    | _ => 0)
  | _ => 0
def ccAd (K : PySem.W.Frag) (x : Str) : Addr := match K.lookup (iAd K x) with
  | some ⟨_, _, .func fd, _⟩ => (match fd.closure with
    | [(_, c)] => c
    | _ => 0)
  | _ => 0
/-- a piece of text -/
def strIs (file : Str) : Option Value → Bool
  | some (.str z _) => file == z
  | _ => false
abbrev FnI : Type := Option (Str × Str × Arguments × FuncBody × Scope × Addr × List Str × Value × Addr)
def obsI (K : PySem.W.Frag) (x : Str) : FnI := match K.lookup (iAd K x) with
  | some ⟨_, _, .func fd, _⟩ => some (fd.name, fd.qualname, fd.params, fd.body, fd.scope, fd.globals, fd.closure.map (·.1), fd.defaults, fd.builtins)
  | _ => none
def valI (q : Str) (s : Stmt) : FnI := some ("__init__", q, defArgs s, .stmts (defBody s), defScope s, mainGlobals, ["__class__"], .none, builtinsNs)
def fileIs (K : PySem.W.Frag) (c : Addr) (file : Str) : Bool := match K.lookup c with
  | some ⟨_, _, .fields vs, _⟩ => strIs file vs[2]?
  | _ => false
def cellIs (K : PySem.W.Frag) (c C : Addr) : Bool := match K.lookup c with
  | some ⟨_, _, .cell (some (.ref d)), _⟩ => d == C
  | _ => false
def refOne : Value → List (Str × Addr) → Bool
  | .ref _, [_] => true
  | _, _ => false
def codeRef (K : PySem.W.Frag) (x : Str) : Bool := match K.lookup (iAd K x) with
  | some ⟨_, _, .func fd, _⟩ => refOne fd.code fd.closure
  | _ => false
/-- what is looked at of the error class x with __init__ q in the file -/
def errB (file : Str) (K : PySem.W.Frag) (x q f : Str) : Bool :=
  He.eqO (PySem.W.nsIn K mainGlobals x) (some (some (.ref (He.ga K x)))) && PySem.W.excInitIn K (He.ga K x) PySem.EX.exTail "Exception.__new__" && PySem.W.excOver K (He.ga K x) PySem.EX.exTail &&
  He.eqO (PySem.W.findIn K (.ref (He.ga K x)) "__setattr__") (some (some (.builtin "object.__setattr__"))) && He.eqO (PySem.W.takerIn K (He.ga K x) f) (some none) && PySem.W.hasDictIn K (He.ga K x) &&
  He.eqO (PySem.W.findIn K (.ref (He.ga K x)) "__getattribute__") (some (some (.builtin "BaseException.__getattribute__"))) && He.eqO (PySem.W.findIn K (.ref (He.ga K x)) "__getattr__") (some none) &&
  He.eqO (PySem.W.findIn K (.ref (He.ga K x)) f) (some none) && He.eqO (PySem.W.findIn K (.ref (He.ga K x)) "__init__") (some (some (.ref (iAd K x)))) && PySem.W.isFn K (.ref (iAd K x)) && PySem.W.keepIn K (.ref (He.ga K x)) &&
  decide (PySem.W.subIn K (.ref (He.ga K x)) (.type "BaseException") = some true) && decide (PySem.W.subIn K (.ref (He.ga K x)) (.type "Exception") = some true) && decide (PySem.W.typeIn K (.ref (He.ga K x)) = some (.type "type")) &&
  He.eqO (PySem.W.ks_superIn K (He.ga K x) (He.ga K x) "__init__") (some (some (.builtin "Exception.__init__"))) &&
  decide (PySem.W.mroIn K (He.ga K x) (.ref (He.ga K x)) = some true) && (PySem.W.clsIn K (He.ga K x)).isSome && codeRef K x && PySem.W.codeIn K (.ref (cdAd K x)) q && fileIs K (cdAd K x) file && cellIs K (ccAd K x) (He.ga K x)
/-- what stands for all classes alike -/
def errA (K : PySem.W.Frag) : Bool := He.eqO (PySem.W.nsIn K PySem.cStatics "thirdparty.any") (some none) && He.eqO (PySem.W.nsIn K mainGlobals "super") (some none)
theorem fileIs_ok {K : PySem.W.Frag} {c : Addr} {file : Str} (h : fileIs K c file = true) : ∃ ccl cdd vs ccs z tf, K.lookup c = some ⟨ccl, cdd, .fields vs, ccs⟩ ∧ vs[2]? = some (.str z tf) ∧ ((file : Str) == z) = true := by
  unfold fileIs at h
  split at h
  · rename_i a b vs d e
    cases e2 : vs[2]? with
    | none => rw [e2] at h; cases h
    | some u =>
      rw [e2] at h
      cases u with
      | str z tf => exact ⟨_, _, _, _, z, tf, e, e2, h⟩
      | _ => cases h
  · cases h
theorem cellIs_ok {K : PySem.W.Frag} {c C : Addr} (h : cellIs K c C = true) : ∃ cl cld csl, K.lookup c = some ⟨cl, cld, .cell (some (.ref C)), csl⟩ := by
  unfold cellIs at h
  split at h
  · rename_i a b d sl e
    have e2 : d = C := beq_iff_eq.mp h
    rw [e2] at e
    exact ⟨_, _, _, e⟩
  · cases h
theorem init_fn {K : PySem.W.Frag} {x q : Str} {s : Stmt} (e : obsI K x = valI q s) (c : codeRef K x = true) :
    ∃ oc od kV doc pm an ct osl, K.lookup (iAd K x) = some ⟨oc, od, .func (PySem.W.fnX "__init__" q (defArgs s) (defBody s) (defScope s) [("__class__", ccAd K x)] .none kV doc pm an (.ref (cdAd K x)) ct), osl⟩ := by
  unfold obsI at e
  unfold codeRef at c
  unfold ccAd cdAd
  cases lk : K.lookup (iAd K x) with
  | none => rw [lk] at c; cases c
  | some o =>
    obtain ⟨oc, od, dt, osl⟩ := o
    rw [lk] at c e
    cases dt with
    | func fd =>
      obtain ⟨n1, n2, n3, n4, n5, n6, n7, n8, n9, n10, n11, n12, n13, n14, n15⟩ := fd
      have e2 : (some (n1, n2, n3, n4, n5, n6, n7.map (·.1), n8, n15) : FnI) = valI q s := e
      unfold valI at e2
      simp only [Option.some.injEq, Prod.mk.injEq] at e2
      obtain ⟨h1, h2, h3, h4, h5, h6, h7, h8, h9⟩ := e2
      subst h1 h2 h3 h4 h5 h6 h8 h9
      have c2 : refOne n13 n7 = true := c
      cases n13 with
      | ref cd =>
        cases n7 with
        | nil => cases c2
        | cons p r =>
          cases r with
          | cons _ _ => cases c2
          | nil =>
            obtain ⟨pn, pa⟩ := p
            have e3 : [pn] = [("__class__" : Str)] := h7
            cases e3
            exact ⟨oc, od, n9, n10, n11, n12, n14, osl, rfl⟩
      | _ => cases c2
    | _ => cases c
/-- the text of __init__ with a field, without one -/
def InitF (s : Stmt) (f : Str) : Prop := ∃ p1 p2 tx j q0 q1 q2 q3 q4 q5 q6 q7 q8 q9, defArgs s = PySem.EX.iA f p1 p2 ∧ defBody s = PySem.EX.iB f tx j q0 q1 q2 q3 q4 q5 q6 q7 q8 q9 ∧ defScope s = PySem.EX.iS f ∧ (q2.endLine == q4.line) = true
def Init0 (s : Stmt) : Prop := ∃ p1 tx j q0 q1 q2 q3 q4 q5, defArgs s = PySem.EX.iA0 p1 ∧ defBody s = PySem.EX.iB0 tx j q0 q1 q2 q3 q4 q5 ∧ defScope s = PySem.EX.iS0 ∧ (q2.endLine == q4.line) = true
section
variable {P : Program} {K : PySem.W.Frag} {mg : Str → Option Value} {x q f : Str} {s : Stmt} {h : Heap}
theorem err_of (X : K.In h) (G : h.Ns mainGlobals mg) (top : (P.main.scope.names.lookup ("super" : Str)).isSome = false) (a : errA K = true) (b : errB P.main.file K x q f = true) (e : obsI K x = valI q s) (t : InitF s f) : Err P K mg x f := by
  unfold errA at a
  unfold errB at b
  simp only [Bool.and_eq_true] at a b
  obtain ⟨⟨⟨⟨⟨⟨⟨⟨⟨⟨⟨⟨⟨⟨⟨⟨⟨⟨⟨⟨⟨b1, b2⟩, b3⟩, b4⟩, b5⟩, b6⟩, b7⟩, b8⟩, b9⟩, b10⟩, b11⟩, b12⟩, b13⟩, b14⟩, b15⟩, b16⟩, b17⟩, b18⟩, b19⟩, b20⟩, b21⟩, b22⟩ := b
  obtain ⟨oc, od, kV, doc, pm, an, ct, osl, lk⟩ := init_fn e b19
  obtain ⟨p1, p2, tx, j, q0, q1, q2, q3, q4, q5, q6, q7, q8, q9, t1, t2, t3, t4⟩ := t
  rw [t1, t2, t3] at lk
  refine ⟨He.ga K x, iAd K x, cdAd K x, ccAd K x, ⟨He.eqO_ok b1, b2, b3, He.eqO_ok b4, He.eqO_ok b5, b6, He.eqO_ok b7, He.eqO_ok b8, He.eqO_ok b9, He.eqO_ok b10, b11, b12, of_decide_eq_true b13, of_decide_eq_true b14, of_decide_eq_true b15, He.eqO_ok a.1,
    He.eqO_ok b16, of_decide_eq_true b17, b18, He.eqO_ok a.2, ⟨oc, od, kV, doc, pm, an, ct, osl, q, p1, p2, tx, j, q0, q1, q2, q3, q4, q5, q6, q7, q8, q9, lk, b20, t4⟩, fileIs_ok b21, cellIs_ok b22, top⟩, PySem.W.mg_of X G (He.eqO_ok b1)⟩
theorem err0_of (X : K.In h) (G : h.Ns mainGlobals mg) (top : (P.main.scope.names.lookup ("super" : Str)).isSome = false) (a : errA K = true) (b : errB P.main.file K x q f = true) (e : obsI K x = valI q s) (t : Init0 s) : Err0 P K mg x := by
  unfold errA at a
  unfold errB at b
  simp only [Bool.and_eq_true] at a b
  obtain ⟨⟨⟨⟨⟨⟨⟨⟨⟨⟨⟨⟨⟨⟨⟨⟨⟨⟨⟨⟨⟨b1, b2⟩, b3⟩, b4⟩, b5⟩, b6⟩, b7⟩, b8⟩, b9⟩, b10⟩, b11⟩, b12⟩, b13⟩, b14⟩, b15⟩, b16⟩, b17⟩, b18⟩, b19⟩, b20⟩, b21⟩, b22⟩ := b
  obtain ⟨oc, od, kV, doc, pm, an, ct, osl, lk⟩ := init_fn e b19
  obtain ⟨p1, tx, j, q0, q1, q2, q3, q4, q5, t1, t2, t3, t4⟩ := t
  rw [t1, t2, t3] at lk
  exact ⟨He.ga K x, iAd K x, cdAd K x, ccAd K x, ⟨He.eqO_ok b1, b2, He.eqO_ok b10, b11, b12, of_decide_eq_true b13, of_decide_eq_true b14, of_decide_eq_true b15, He.eqO_ok a.1,
    He.eqO_ok b16, of_decide_eq_true b17, b18, He.eqO_ok a.2, ⟨oc, od, kV, doc, pm, an, ct, osl, q, p1, tx, j, q0, q1, q2, q3, q4, q5, lk, b20, t4⟩, fileIs_ok b21, cellIs_ok b22, top⟩, PySem.W.mg_of X G (He.eqO_ok b1)⟩
end
/-- which class an except clause takes -/
def errsB (K : PySem.W.Frag) (nm : List Str) : Bool := nm.all fun x => ((("TwinError" : Str) :: nm).all fun c => decide (PySem.W.exmOne K (.ref (He.ga K x)) (.ref (He.ga K c)) = some (catches x c)))
theorem ga_of {K : PySem.W.Frag} {x : Str} {C : Addr} (h : PySem.W.nsIn K mainGlobals x = some (some (.ref C))) : He.ga K x = C := by
  unfold He.ga
  rw [h]
theorem errs_of {K : PySem.W.Frag} {nm : List Str} (h : errsB K nm = true) : Errs K nm := by
  intro x hx c hc X C e1 e2
  have h1 := List.all_eq_true.mp (List.all_eq_true.mp h x hx) c hc
  rw [ga_of e1, ga_of e2] at h1
  exact of_decide_eq_true h1

/-! ### the Hook -/
/-- an error class: its name, __init__'s qualified name, field, text -/
structure ErD where
  x : Str
  q : Str
  f : Str
  s : Stmt
abbrev AlN : Type := Bool × List He.FnW × List FnI
def obsN (file : Str) (fa : List He.Fa) (fn : List He.DefD) (er : List ErD) (nm : List Str) (ex : PySem.W.Frag → Bool) (K : PySem.W.Frag) : AlN :=
  ((fa.all fun f => f.ok K) && (fn.all fun d => d.ok K) && errA K && (er.all fun e => errB file K e.x e.q e.f) && errsB K nm && ex K, fn.map fun d => He.fnW K d.at_, er.map fun e => obsI K e.x)
def valN (fn : List He.DefD) (er : List ErD) : AlN := (true, fn.map He.DefD.val, er.map fun e => valI e.q e.s)
structure SaysN (file : Str) (fa : List He.Fa) (fn : List He.DefD) (er : List ErD) (nm : List Str) (ex : PySem.W.Frag → Bool) (K : PySem.W.Frag) : Prop where
  fact : ∀ f ∈ fa, f.ok K = true
  def_ : ∀ (i : Nat) (d : He.DefD), fn[i]? = some d → ∃ fd, FunD K d.name d.qual d.params d.body d.scope (d.dvs K) (d.kws K) (He.fAd K d.at_) fd
  a : errA K = true
  err : ∀ (i : Nat) (e : ErD), er[i]? = some e → errB file K e.x e.q e.f = true ∧ obsI K e.x = valI e.q e.s
  errs : Errs K nm
  more : ex K = true
theorem saysN_of {file : Str} {fa : List He.Fa} {fn : List He.DefD} {er : List ErD} {nm : List Str} {ex : PySem.W.Frag → Bool} {K : PySem.W.Frag} (e : obsN file fa fn er nm ex K = valN fn er) : SaysN file fa fn er nm ex K := by
  have e1 := congrArg (fun z : AlN => z.1) e
  have e2 : fn.map (fun d => He.fnW K d.at_) = fn.map He.DefD.val := congrArg (fun z : AlN => z.2.1) e
  have e3 : er.map (fun d => obsI K d.x) = er.map fun e => valI e.q e.s := congrArg (fun z : AlN => z.2.2) e
  have e4 : ((fa.all fun f => f.ok K) && (fn.all fun d => d.ok K) && errA K && (er.all fun e => errB file K e.x e.q e.f) && errsB K nm && ex K) = true := e1
  simp only [Bool.and_eq_true] at e4
  obtain ⟨⟨⟨⟨⟨h1, h2⟩, h3⟩, h4⟩, h5⟩, h6⟩ := e4
  refine ⟨fun f hf => List.all_eq_true.mp h1 f hf, fun i d hi => ?_, h3, fun i d hi => ⟨List.all_eq_true.mp h4 d (List.mem_of_getElem? hi), ?_⟩, errs_of h5, h6⟩
  · have q : (fn.map fun d => He.fnW K d.at_)[i]? = (fn.map He.DefD.val)[i]? := by rw [e2]
    rw [List.getElem?_map, List.getElem?_map, hi] at q
    exact He.DefD.funD (Option.some.inj q) (List.all_eq_true.mp h2 d (List.mem_of_getElem? hi))
  · have q : (er.map fun d => obsI K d.x)[i]? = (er.map fun e => valI e.q e.s)[i]? := by rw [e3]
    rw [List.getElem?_map, List.getElem?_map, hi] at q
    exact Option.some.inj q
def frN (n : Nat) (g : Addr → Option Obj) : PySem.W.Frag := He.frG g (PySem.cStatics :: He.asD g n)
def obsNG (n : Nat) (file : Str) (fa : List He.Fa) (fn : List He.DefD) (er : List ErD) (nm : List Str) (ex : PySem.W.Frag → Bool) (g : Addr → Option Obj) : AlN := obsN file fa fn er nm ex (frN n g)
def hookN (n : Nat) (file : Str) (fa : List He.Fa) (fn : List He.DefD) (er : List ErD) (nm : List Str) (ex : PySem.W.Frag → Bool) : PySem.W.Hook where
  α := AlN
  obs := fun s => obsNG n file fa fn er nm ex s.heap.get?
  val := fun _ => valN fn er
  says := fun _ h => ∃ K : PySem.W.Frag, K.In h ∧ SaysN file fa fn er nm ex K
  of := fun _ _ e => ⟨_, He.frG_in, saysN_of e⟩
  keeps := fun _ _ _ ⟨K, hK, c⟩ k => ⟨K, PySem.W.Frag.In.keeps hK k, c⟩
theorem obsNG_eq {n : Nat} {file : Str} {fa : List He.Fa} {fn : List He.DefD} {er : List ErD} {nm : List Str} {ex : PySem.W.Frag → Bool} {g : Addr → Option Obj} {s : Shared} (h : ∀ a, g a = s.heap.get? a) : obsNG n file fa fn er nm ex g = (hookN n file fa fn er nm ex).obs s := by
  have e : g = s.heap.get? := funext h
  rw [e] <;> rfl

/-! ### defs as they are called -/
section
variable {P : Program} {w : World} {K : PySem.W.Frag} {mg : Str → Option Value} {base : Heap}
theorem takes_def {N : List Str} {qual : Str} {scope : Scope} {f : Addr} {cdv : Value} {A : Around} {outer : List PySem.Env} {s : Shared} {H : Hp} {E : XK} : Takes (cxOf (L2.CX P w) P w K mg base N qual scope f cdv A outer s H E) (WE' E) := takes_of rfl rfl rfl rfl
theorem own_def {N : List Str} {qual : Str} {scope : Scope} {f : Addr} {cdv : Value} {A : Around} {outer : List PySem.Env} {s : Shared} {H : Hp} {E : XK} :
    PassesOwn (model (cxOf (L2.CX P w) P w K mg base N qual scope f cdv A outer s H E).prog (cxOf (L2.CX P w) P w K mg base N qual scope f cdv A outer s H E).w) (cxOf (L2.CX P w) P w K mg base N qual scope f cdv A outer s H E).A (cxOf (L2.CX P w) P w K mg base N qual scope f cdv A outer s H E).env (cxOf (L2.CX P w) P w K mg base N qual scope f cdv A outer s H E).xe := passes_of rfl
theorem cal_mk {x : Str} {st : Stmt} {N ps : List Str} {k : Nat} {m : SS} {f : Addr} {fd : FuncData} (F : FunD K x x (defArgs st) (defBody st) (defScope st) [] [] f fd) (hm : mg x = some (.ref f)) (S : FnScope N ps (defScope st)) (hNp : ps.length ≤ N.length)
    (hbind : ∀ (kV doc pm : Value) (an : Option Addr) (cdv ct : Value) (us : List Value), us.length = ps.length → bindArgs (PySem.W.fnOf x x (defArgs st) (defBody st) (defScope st) .none kV doc pm an cdv ct) ⟨us, []⟩ = pure (ps.zip us))
    (hb : ∀ (cdv : Value) (A : Around) (outer : List PySem.Env) (s : Shared) (H : Hp) (E : XK), Rm k (A.deeper (envOfC x (defScope st) s.heap.objs.size f cdv)) → PSDs (cxOf (L2.CX P w) P w K mg base N x (defScope st) f cdv A outer s H E) (WE' E) (defBody st) m) :
    Cal P w K mg base (k + 1) x ps.length (mFn ps.length N.length m) :=
  ⟨⟨f, fd, ps, hm, F.kp, fn_data F S hNp hb, F.bindsN hbind, rfl⟩⟩
end

/-! ### the end -/
theorem walkG_ofE {l : PySem.W.OpenLaw} {n k : Nat} {q : Program} {loose : List Str} {XP : (Str → Option Value) → Heap → Prop} {YP : World → Heap → Prop} {d : DefRec} {x : Str}
    (most : l.most = some n) (short : n ≤ sizeLine) (nodef : d.params.defaults = []) (room : Rm k callerA)
    (F : ∀ (w : World) (mg : Str → Option Value) (fa : Addr) (h : Heap), YP w h → h.Ns mainGlobals mg → mg d.name = some (.ref fa) →
      ∃ (K : PySem.W.Frag) (fd : FuncData) (sp : Sp), K.In h ∧ (∀ (s : Shared) (u : Value), BindsTo s fd ⟨[u], []⟩ [(x, u)]) ∧
        (∀ (H : Hp) (a : Addr) (ns : List Int), ns.length ≤ n → (∀ z ∈ ns, Builtin.Int.intBits z ≤ 1048576) → Only H → SqL K H a (ns.map V.int) → sp [.ref a] H (fun v _ => v = .bl true) fun _ _ _ => False) ∧
        ∀ base : Heap, K.In base → base.Ns mainGlobals mg → FnG l.prog w K mg base (L2.CX l.prog w) k fa fd [x] sp) :
    PySem.W.WalkO q loose XP YP l.row.toRowW d [] (fun f vs => PySem.call f vs) := by
  refine Att.attach_callB most nodef ?_
  intro w s₀ s₁ mg mb fa o pm cd doc a vs ns G Y ho hd hcd hmg hobj hints hlen hbits hg
  obtain ⟨K, fd, sp, kin, bound, hsp, hF⟩ := F w mg fa _ Y G.T.g hmg
  refine lawG_call kin G.T.g G.T.b G.T.builtins G.T.nolimit hg hobj hints (Nat.le_trans hlen short) room hF bound (fun H only sq => hsp H a ns hlen hbits only sq) ?_
  rintro H e s' ⟨_, _, _, _, _, _, _, _, _, _, _, _, z⟩
  exact z
/-- the law's own promise, by its data: the script is a list that is known -/
theorem law_sp {K : PySem.W.Frag} {F : FD} {n : Nat} (h : ∀ ns : List Int, ns.length ≤ n → (∀ z ∈ ns, Builtin.Int.intBits z ≤ 1048576) → ∃ m, F [.scr ns] [] = .ok (.bl true) m)
    (H : Hp) (a : Addr) (ns : List Int) (hl : ns.length ≤ n) (hb : ∀ z ∈ ns, Builtin.Int.intBits z ≤ 1048576) (only : Only H) (sq : SqL K H a (ns.map V.int)) :
    spOf K 1 F [.ref a] H (fun v _ => v = .bl true) fun _ _ _ => False := by
  obtain ⟨m, e⟩ := h ns hl hb
  have r : Rep ⟨K, [], []⟩ H (.ref a) (.scr ns) := by
    rcases sq with (z | ⟨o, z⟩) | z
    · rcases only a with q | ⟨o, xs, q⟩
      · rw [q] at z; cases z
      · rw [q] at z; cases z
    · exact .scr (by simp) z
    · exact .scrK (.inr z)
  refine ⟨⟨K, [], []⟩, [], [.scr ns], rfl, ⟨rfl, List.nodup_nil, fun n a ds h1 _ => ?_, fun a ha => ?_⟩, .cons r .nil, rfl, ?_⟩
  · have h2 : ([] : List Addr)[n]? = some a := h1
    simp at h2
  · have h2 : a ∈ ([] : List Addr) := ha
    simp at h2
  · rw [e]
    rintro v H' ⟨c', _, _, rv⟩
    cases rv
    rfl
end DL

namespace DL
open PySem PySem.Spec L2
open PyProof.Rows hiding St
/-! ### small things for printed texts -/
def clsBody (s : Stmt) : List Stmt := match s with
  | .ClassDef _ _ _ b _ _ _ _ _ _ _ => b
  | _ => []
def initOf (s : Stmt) : Stmt := (clsBody s).getD 0 (.Pass ⟨0, 0, 0, 0⟩)
theorem clauses_ok {l : List Cl} {ns : List Str} (h : ((l.map (·.1)).all fun x => decide (x ∈ ns)) = true) : ∀ p ∈ l, p.1 ∈ ns := by
  intro p hp
  have h2 := List.all_eq_true.mp h p.1 (List.mem_map_of_mem hp)
  exact of_decide_eq_true h2
theorem catches_is {x c : Str} (h : catches x c = true) (hc : (c == ("TwinError" : Str)) = false := by decide) : x = c := by
  unfold catches at h
  rw [hc, Bool.or_false] at h
  exact beq_iff_eq.mp h
def fNeg : D → Mu → Out D
  | .int i, m => .ok (.int (-i)) m
  | _, _ => .stuck
theorem rel_neg {K : PySem.W.Frag} {W : WX} {b : Bool} : RelU K W b (rU fun i => .int (-i)) fNeg := by
  intro c H σ μ v d hK M r Q p
  cases d with
  | int i => exact ⟨i, rep_int r, post_int M p⟩
  | _ => exact p.elim
theorem pd_neg {X : Cx} {W : WX} {b : Bool} {e : Expr} {ma : SE} {pos : Pos} (ha : PD X W true e ma) : PD X W b (.UnaryOp .USub e pos) (mUn fNeg ma) := pd_un un_neg rel_neg ha
section
variable {X : Cx} {W : WX} {b : Bool} {e : Expr} {es : List Expr} {mr : SA} {p pos : Pos}
theorem pd_len (hm : X.mg "len" = none) (ha : PDA X W true (e :: es) mr) (hg : Gl X "len" := by rfl) (he : starEach (e :: es) X.env = (false, eval e X.env) :: starEach es X.env := by rfl) (hpl : (backTo pos (starEach es X.env)).any (·.1) = false := by rfl) :
    PD X W b (.Call (.Name "len" p) (e :: es) [] pos) (mApp fLen mr) := pd_callB call_lenA rel_len hm rfl ha hg (by decide) (by decide) he hpl
theorem pd_abs (hm : X.mg "abs" = none) (ha : PDA X W true (e :: es) mr) (hg : Gl X "abs" := by rfl) (he : starEach (e :: es) X.env = (false, eval e X.env) :: starEach es X.env := by rfl) (hpl : (backTo pos (starEach es X.env)).any (·.1) = false := by rfl) :
    PD X W b (.Call (.Name "abs" p) (e :: es) [] pos) (mApp fAbs mr) := pd_callB call_abs rel_abs hm rfl ha hg (by decide) (by decide) he hpl
theorem pd_intT (hm : X.mg "int" = none) (ha : PDA X W true (e :: es) mr) (hg : Gl X "int" := by rfl) (he : starEach (e :: es) X.env = (false, eval e X.env) :: starEach es X.env := by rfl) (hpl : (backTo pos (starEach es X.env)).any (·.1) = false := by rfl) :
    PD X W b (.Call (.Name "int" p) (e :: es) [] pos) (mApp fInt mr) := pd_callTy call_int1 rel_int hm rfl ha hg (by decide) (by decide) he hpl
end
end DL
namespace W
open PySem PySem.Spec L2 DL
open PyProof.Rows hiding St
def top (i : Nat) : Stmt := PySem.Challenge.pw_forgetwhen_k00_whole_errors_and_what_the.main.body.getD i (.Pass ⟨0, 0, 0, 0⟩)
abbrev s_law_raise_a : Stmt := top 34
abbrev s_law_raise_b : Stmt := top 35
abbrev s_law_raise_c : Stmt := top 36
abbrev s_law_raise_d : Stmt := top 37
abbrev s_law_raise : Stmt := top 38
abbrev s_law_is_base : Stmt := top 43
abbrev s_law_caught_a : Stmt := top 39
abbrev s_law_caught_b : Stmt := top 40
abbrev s_law_caught_c : Stmt := top 41
abbrev s_law_caught_d : Stmt := top 42
abbrev s_law_take : Stmt := top 32
abbrev s_law_pick : Stmt := top 33
abbrev s_law_box : Stmt := top 31
abbrev s_law : Stmt := top 44
abbrev s_InvalidText : Stmt := initOf (top 2)
abbrev s_InvalidMachine : Stmt := initOf (top 3)
abbrev s_InvalidLate : Stmt := initOf (top 4)
abbrev s_InvalidWord : Stmt := initOf (top 5)
abbrev s_InvalidKind : Stmt := initOf (top 6)
abbrev s_InvalidState : Stmt := initOf (top 7)
abbrev s_InvalidMap : Stmt := initOf (top 8)
abbrev s_InvalidStory : Stmt := initOf (top 9)
abbrev s_InvalidMoment : Stmt := initOf (top 10)
abbrev s_InvalidPlaces : Stmt := initOf (top 11)
abbrev s_InvalidTwin : Stmt := initOf (top 12)
abbrev s_InvalidItems : Stmt := initOf (top 13)
abbrev s_InvalidPaper : Stmt := initOf (top 14)
abbrev s_InvalidLateness : Stmt := initOf (top 15)
abbrev s_InvalidGone : Stmt := initOf (top 16)
abbrev s_InvalidLot : Stmt := initOf (top 17)
abbrev s_InvalidPanel : Stmt := initOf (top 18)
abbrev s_InvalidPlant : Stmt := initOf (top 19)
abbrev s_InvalidLetter : Stmt := initOf (top 20)
abbrev s_InvalidMarks : Stmt := initOf (top 21)
abbrev s_InvalidReadings : Stmt := initOf (top 22)
abbrev s_InvalidRoom : Stmt := initOf (top 23)
abbrev s_InvalidDeed : Stmt := initOf (top 24)
abbrev s_InvalidAsked : Stmt := initOf (top 25)
abbrev s_InvalidIndex : Stmt := initOf (top 26)
abbrev s_Refused : Stmt := initOf (top 27)
abbrev s_InvalidSize : Stmt := initOf (top 28)
abbrev s_InvalidCommand : Stmt := initOf (top 29)
def nm : List Str := ["InvalidText", "InvalidMachine", "InvalidLate", "InvalidWord", "InvalidKind", "InvalidState", "InvalidMap", "InvalidStory", "InvalidMoment", "InvalidPlaces", "InvalidTwin", "InvalidItems", "InvalidPaper", "InvalidLateness", "InvalidGone", "InvalidLot", "InvalidPanel", "InvalidPlant", "InvalidLetter", "InvalidMarks", "InvalidReadings", "InvalidRoom", "InvalidDeed", "InvalidAsked", "InvalidIndex", "Refused", "InvalidSize", "InvalidCommand"]
structure Gr (P : Program) (K : PySem.W.Frag) (mg : Str → Option Value) : Prop where
  b_abs : mg "abs" = none
  b_int : mg "int" = none
  b_len : mg "len" = none
  b_range : mg "range" = none
  b_repr : mg "repr" = none
  g_TwinError : mg "TwinError" = some (.ref (He.ga K "TwinError")) ∧ PySem.W.nsIn K mainGlobals "TwinError" = some (some (.ref (He.ga K "TwinError")))
  g_InvalidText : mg "InvalidText" = some (.ref (He.ga K "InvalidText")) ∧ PySem.W.nsIn K mainGlobals "InvalidText" = some (some (.ref (He.ga K "InvalidText")))
  g_InvalidMachine : mg "InvalidMachine" = some (.ref (He.ga K "InvalidMachine")) ∧ PySem.W.nsIn K mainGlobals "InvalidMachine" = some (some (.ref (He.ga K "InvalidMachine")))
  g_InvalidLate : mg "InvalidLate" = some (.ref (He.ga K "InvalidLate")) ∧ PySem.W.nsIn K mainGlobals "InvalidLate" = some (some (.ref (He.ga K "InvalidLate")))
  g_InvalidWord : mg "InvalidWord" = some (.ref (He.ga K "InvalidWord")) ∧ PySem.W.nsIn K mainGlobals "InvalidWord" = some (some (.ref (He.ga K "InvalidWord")))
  g_InvalidKind : mg "InvalidKind" = some (.ref (He.ga K "InvalidKind")) ∧ PySem.W.nsIn K mainGlobals "InvalidKind" = some (some (.ref (He.ga K "InvalidKind")))
  g_InvalidState : mg "InvalidState" = some (.ref (He.ga K "InvalidState")) ∧ PySem.W.nsIn K mainGlobals "InvalidState" = some (some (.ref (He.ga K "InvalidState")))
  g_InvalidMap : mg "InvalidMap" = some (.ref (He.ga K "InvalidMap")) ∧ PySem.W.nsIn K mainGlobals "InvalidMap" = some (some (.ref (He.ga K "InvalidMap")))
  g_InvalidStory : mg "InvalidStory" = some (.ref (He.ga K "InvalidStory")) ∧ PySem.W.nsIn K mainGlobals "InvalidStory" = some (some (.ref (He.ga K "InvalidStory")))
  g_InvalidMoment : mg "InvalidMoment" = some (.ref (He.ga K "InvalidMoment")) ∧ PySem.W.nsIn K mainGlobals "InvalidMoment" = some (some (.ref (He.ga K "InvalidMoment")))
  g_InvalidPlaces : mg "InvalidPlaces" = some (.ref (He.ga K "InvalidPlaces")) ∧ PySem.W.nsIn K mainGlobals "InvalidPlaces" = some (some (.ref (He.ga K "InvalidPlaces")))
  g_InvalidTwin : mg "InvalidTwin" = some (.ref (He.ga K "InvalidTwin")) ∧ PySem.W.nsIn K mainGlobals "InvalidTwin" = some (some (.ref (He.ga K "InvalidTwin")))
  g_InvalidItems : mg "InvalidItems" = some (.ref (He.ga K "InvalidItems")) ∧ PySem.W.nsIn K mainGlobals "InvalidItems" = some (some (.ref (He.ga K "InvalidItems")))
  g_InvalidPaper : mg "InvalidPaper" = some (.ref (He.ga K "InvalidPaper")) ∧ PySem.W.nsIn K mainGlobals "InvalidPaper" = some (some (.ref (He.ga K "InvalidPaper")))
  g_InvalidLateness : mg "InvalidLateness" = some (.ref (He.ga K "InvalidLateness")) ∧ PySem.W.nsIn K mainGlobals "InvalidLateness" = some (some (.ref (He.ga K "InvalidLateness")))
  g_InvalidGone : mg "InvalidGone" = some (.ref (He.ga K "InvalidGone")) ∧ PySem.W.nsIn K mainGlobals "InvalidGone" = some (some (.ref (He.ga K "InvalidGone")))
  g_InvalidLot : mg "InvalidLot" = some (.ref (He.ga K "InvalidLot")) ∧ PySem.W.nsIn K mainGlobals "InvalidLot" = some (some (.ref (He.ga K "InvalidLot")))
  g_InvalidPanel : mg "InvalidPanel" = some (.ref (He.ga K "InvalidPanel")) ∧ PySem.W.nsIn K mainGlobals "InvalidPanel" = some (some (.ref (He.ga K "InvalidPanel")))
  g_InvalidPlant : mg "InvalidPlant" = some (.ref (He.ga K "InvalidPlant")) ∧ PySem.W.nsIn K mainGlobals "InvalidPlant" = some (some (.ref (He.ga K "InvalidPlant")))
  g_InvalidLetter : mg "InvalidLetter" = some (.ref (He.ga K "InvalidLetter")) ∧ PySem.W.nsIn K mainGlobals "InvalidLetter" = some (some (.ref (He.ga K "InvalidLetter")))
  g_InvalidMarks : mg "InvalidMarks" = some (.ref (He.ga K "InvalidMarks")) ∧ PySem.W.nsIn K mainGlobals "InvalidMarks" = some (some (.ref (He.ga K "InvalidMarks")))
  g_InvalidReadings : mg "InvalidReadings" = some (.ref (He.ga K "InvalidReadings")) ∧ PySem.W.nsIn K mainGlobals "InvalidReadings" = some (some (.ref (He.ga K "InvalidReadings")))
  g_InvalidRoom : mg "InvalidRoom" = some (.ref (He.ga K "InvalidRoom")) ∧ PySem.W.nsIn K mainGlobals "InvalidRoom" = some (some (.ref (He.ga K "InvalidRoom")))
  g_InvalidDeed : mg "InvalidDeed" = some (.ref (He.ga K "InvalidDeed")) ∧ PySem.W.nsIn K mainGlobals "InvalidDeed" = some (some (.ref (He.ga K "InvalidDeed")))
  g_InvalidAsked : mg "InvalidAsked" = some (.ref (He.ga K "InvalidAsked")) ∧ PySem.W.nsIn K mainGlobals "InvalidAsked" = some (some (.ref (He.ga K "InvalidAsked")))
  g_InvalidIndex : mg "InvalidIndex" = some (.ref (He.ga K "InvalidIndex")) ∧ PySem.W.nsIn K mainGlobals "InvalidIndex" = some (some (.ref (He.ga K "InvalidIndex")))
  g_Refused : mg "Refused" = some (.ref (He.ga K "Refused")) ∧ PySem.W.nsIn K mainGlobals "Refused" = some (some (.ref (He.ga K "Refused")))
  g_InvalidSize : mg "InvalidSize" = some (.ref (He.ga K "InvalidSize")) ∧ PySem.W.nsIn K mainGlobals "InvalidSize" = some (some (.ref (He.ga K "InvalidSize")))
  g_InvalidCommand : mg "InvalidCommand" = some (.ref (He.ga K "InvalidCommand")) ∧ PySem.W.nsIn K mainGlobals "InvalidCommand" = some (some (.ref (He.ga K "InvalidCommand")))
  e_InvalidText : Err P K mg "InvalidText" "at"
  e_InvalidMachine : Err P K mg "InvalidMachine" "at"
  e_InvalidLate : Err P K mg "InvalidLate" "at"
  e_InvalidWord : Err P K mg "InvalidWord" "at"
  e_InvalidKind : Err P K mg "InvalidKind" "at"
  e_InvalidState : Err P K mg "InvalidState" "at"
  e_InvalidMap : Err P K mg "InvalidMap" "at"
  e_InvalidStory : Err P K mg "InvalidStory" "at"
  e_InvalidMoment : Err P K mg "InvalidMoment" "at"
  e_InvalidPlaces : Err P K mg "InvalidPlaces" "at"
  e_InvalidTwin : Err P K mg "InvalidTwin" "at"
  e_InvalidItems : Err P K mg "InvalidItems" "at"
  e_InvalidPaper : Err P K mg "InvalidPaper" "at"
  e_InvalidLateness : Err P K mg "InvalidLateness" "at"
  e_InvalidGone : Err P K mg "InvalidGone" "at"
  e_InvalidLot : Err P K mg "InvalidLot" "at"
  e_InvalidPanel : Err P K mg "InvalidPanel" "at"
  e_InvalidPlant : Err P K mg "InvalidPlant" "at"
  e_InvalidLetter : Err P K mg "InvalidLetter" "at"
  e_InvalidMarks : Err P K mg "InvalidMarks" "at"
  e_InvalidReadings : Err P K mg "InvalidReadings" "at"
  e_InvalidRoom : Err P K mg "InvalidRoom" "at"
  e_InvalidDeed : Err P K mg "InvalidDeed" "at"
  e_InvalidAsked : Err P K mg "InvalidAsked" "at"
  e_InvalidIndex : Err P K mg "InvalidIndex" "at"
  e_Refused : Err P K mg "Refused" "at"
  e_InvalidSize : Err P K mg "InvalidSize" "word"
  e_InvalidCommand : Err0 P K mg "InvalidCommand"
  errs : Errs K nm
def N_law_raise_a : List Str := ["_law_number", "_law_thing"]
theorem sc_law_raise_a : FnScope N_law_raise_a ["_law_number", "_law_thing"] (defScope s_law_raise_a) := ⟨rfl, rfl, rfl, by decide +kernel, rfl, by decide +kernel, by decide +kernel⟩
def m_law_raise_a : SS :=
 (sIf (mTest (mOp fEq (mVal 0) (mC (.int 0))))
 (sRaise "InvalidText" "at" (mVal 1))
 (sIf (mTest (mOp fEq (mVal 0) (mC (.int 1))))
 (sRaise "InvalidMachine" "at" (mVal 1))
 (sIf (mTest (mOp fEq (mVal 0) (mC (.int 2))))
 (sRaise "InvalidLate" "at" (mVal 1))
 (sIf (mTest (mOp fEq (mVal 0) (mC (.int 3))))
 (sRaise "InvalidWord" "at" (mVal 1))
 (sIf (mTest (mOp fEq (mVal 0) (mC (.int 4))))
 (sRaise "InvalidKind" "at" (mVal 1))
 (sIf (mTest (mOp fEq (mVal 0) (mC (.int 5))))
 (sRaise "InvalidState" "at" (mVal 1))
 (sIf (mTest (mOp fEq (mVal 0) (mC (.int 6))))
 (sRaise "InvalidMap" "at" (mVal 1))
 (sIf (mTest (mOp fEq (mVal 0) (mC (.int 7))))
 (sRaise "InvalidStory" "at" (mVal 1))
 sNx))))))))
def F_law_raise_a : FD := mFn 2 2 m_law_raise_a
theorem der_law_raise_a {P : Program} {w : World} {K : PySem.W.Frag} {mg : Str → Option Value} {base : Heap} (G : Gr P K mg)  (f : Addr) (cdv : Value) (A : Around) (outer : List PySem.Env) (s : Shared) (H : Hp) (E : XK) (hr : Rm 1 (cxOf (L2.CX P w) P w K mg base N_law_raise_a "_law_raise_a" (defScope s_law_raise_a) f cdv A outer s H E).A) : PSDs (cxOf (L2.CX P w) P w K mg base N_law_raise_a "_law_raise_a" (defScope s_law_raise_a) f cdv A outer s H E) (WE' E) (defBody s_law_raise_a) m_law_raise_a := by
  have tk0 : Takes (cxOf (L2.CX P w) P w K mg base N_law_raise_a "_law_raise_a" (defScope s_law_raise_a) f cdv A outer s H E) (WE' E) := takes_def
  have hp0 := own_def (P := P) (w := w) (K := K) (mg := mg) (base := base) (N := N_law_raise_a) (qual := "_law_raise_a") (scope := defScope s_law_raise_a) (f := f) (cdv := cdv) (A := A) (outer := outer) (s := s) (H := H) (E := E)
  unfold m_law_raise_a
  exact (psd_one (psd_if (pdt_eq hr.r.units (pd_val 0) pd_int) (psd_one (psd_raise G.e_InvalidText PySem.EX.okF_at rfl hr.r (by decide) tk0 (pd_val 1))) (psd_one (psd_if (pdt_eq hr.r.units (pd_val 0) pd_int) (psd_one (psd_raise G.e_InvalidMachine PySem.EX.okF_at rfl hr.r (by decide) tk0 (pd_val 1))) (psd_one (psd_if (pdt_eq hr.r.units (pd_val 0) pd_int) (psd_one (psd_raise G.e_InvalidLate PySem.EX.okF_at rfl hr.r (by decide) tk0 (pd_val 1))) (psd_one (psd_if (pdt_eq hr.r.units (pd_val 0) pd_int) (psd_one (psd_raise G.e_InvalidWord PySem.EX.okF_at rfl hr.r (by decide) tk0 (pd_val 1))) (psd_one (psd_if (pdt_eq hr.r.units (pd_val 0) pd_int) (psd_one (psd_raise G.e_InvalidKind PySem.EX.okF_at rfl hr.r (by decide) tk0 (pd_val 1))) (psd_one (psd_if (pdt_eq hr.r.units (pd_val 0) pd_int) (psd_one (psd_raise G.e_InvalidState PySem.EX.okF_at rfl hr.r (by decide) tk0 (pd_val 1))) (psd_one (psd_if (pdt_eq hr.r.units (pd_val 0) pd_int) (psd_one (psd_raise G.e_InvalidMap PySem.EX.okF_at rfl hr.r (by decide) tk0 (pd_val 1))) (psd_one (psd_if (pdt_eq hr.r.units (pd_val 0) pd_int) (psd_one (psd_raise G.e_InvalidStory PySem.EX.okF_at rfl hr.r (by decide) tk0 (pd_val 1))) psd_nil))))))))))))))))
def N_law_raise_b : List Str := ["_law_number", "_law_thing"]
theorem sc_law_raise_b : FnScope N_law_raise_b ["_law_number", "_law_thing"] (defScope s_law_raise_b) := ⟨rfl, rfl, rfl, by decide +kernel, rfl, by decide +kernel, by decide +kernel⟩
def m_law_raise_b : SS :=
 (sIf (mTest (mOp fEq (mVal 0) (mC (.int 8))))
 (sRaise "InvalidMoment" "at" (mVal 1))
 (sIf (mTest (mOp fEq (mVal 0) (mC (.int 9))))
 (sRaise "InvalidPlaces" "at" (mVal 1))
 (sIf (mTest (mOp fEq (mVal 0) (mC (.int 10))))
 (sRaise "InvalidTwin" "at" (mVal 1))
 (sIf (mTest (mOp fEq (mVal 0) (mC (.int 11))))
 (sRaise "InvalidItems" "at" (mVal 1))
 (sIf (mTest (mOp fEq (mVal 0) (mC (.int 12))))
 (sRaise "InvalidPaper" "at" (mVal 1))
 (sIf (mTest (mOp fEq (mVal 0) (mC (.int 13))))
 (sRaise "InvalidLateness" "at" (mVal 1))
 (sIf (mTest (mOp fEq (mVal 0) (mC (.int 14))))
 (sRaise "InvalidGone" "at" (mVal 1))
 (sIf (mTest (mOp fEq (mVal 0) (mC (.int 15))))
 (sRaise "InvalidLot" "at" (mVal 1))
 sNx))))))))
def F_law_raise_b : FD := mFn 2 2 m_law_raise_b
theorem der_law_raise_b {P : Program} {w : World} {K : PySem.W.Frag} {mg : Str → Option Value} {base : Heap} (G : Gr P K mg)  (f : Addr) (cdv : Value) (A : Around) (outer : List PySem.Env) (s : Shared) (H : Hp) (E : XK) (hr : Rm 1 (cxOf (L2.CX P w) P w K mg base N_law_raise_b "_law_raise_b" (defScope s_law_raise_b) f cdv A outer s H E).A) : PSDs (cxOf (L2.CX P w) P w K mg base N_law_raise_b "_law_raise_b" (defScope s_law_raise_b) f cdv A outer s H E) (WE' E) (defBody s_law_raise_b) m_law_raise_b := by
  have tk0 : Takes (cxOf (L2.CX P w) P w K mg base N_law_raise_b "_law_raise_b" (defScope s_law_raise_b) f cdv A outer s H E) (WE' E) := takes_def
  have hp0 := own_def (P := P) (w := w) (K := K) (mg := mg) (base := base) (N := N_law_raise_b) (qual := "_law_raise_b") (scope := defScope s_law_raise_b) (f := f) (cdv := cdv) (A := A) (outer := outer) (s := s) (H := H) (E := E)
  unfold m_law_raise_b
  exact (psd_one (psd_if (pdt_eq hr.r.units (pd_val 0) pd_int) (psd_one (psd_raise G.e_InvalidMoment PySem.EX.okF_at rfl hr.r (by decide) tk0 (pd_val 1))) (psd_one (psd_if (pdt_eq hr.r.units (pd_val 0) pd_int) (psd_one (psd_raise G.e_InvalidPlaces PySem.EX.okF_at rfl hr.r (by decide) tk0 (pd_val 1))) (psd_one (psd_if (pdt_eq hr.r.units (pd_val 0) pd_int) (psd_one (psd_raise G.e_InvalidTwin PySem.EX.okF_at rfl hr.r (by decide) tk0 (pd_val 1))) (psd_one (psd_if (pdt_eq hr.r.units (pd_val 0) pd_int) (psd_one (psd_raise G.e_InvalidItems PySem.EX.okF_at rfl hr.r (by decide) tk0 (pd_val 1))) (psd_one (psd_if (pdt_eq hr.r.units (pd_val 0) pd_int) (psd_one (psd_raise G.e_InvalidPaper PySem.EX.okF_at rfl hr.r (by decide) tk0 (pd_val 1))) (psd_one (psd_if (pdt_eq hr.r.units (pd_val 0) pd_int) (psd_one (psd_raise G.e_InvalidLateness PySem.EX.okF_at rfl hr.r (by decide) tk0 (pd_val 1))) (psd_one (psd_if (pdt_eq hr.r.units (pd_val 0) pd_int) (psd_one (psd_raise G.e_InvalidGone PySem.EX.okF_at rfl hr.r (by decide) tk0 (pd_val 1))) (psd_one (psd_if (pdt_eq hr.r.units (pd_val 0) pd_int) (psd_one (psd_raise G.e_InvalidLot PySem.EX.okF_at rfl hr.r (by decide) tk0 (pd_val 1))) psd_nil))))))))))))))))
def N_law_raise_c : List Str := ["_law_number", "_law_thing"]
theorem sc_law_raise_c : FnScope N_law_raise_c ["_law_number", "_law_thing"] (defScope s_law_raise_c) := ⟨rfl, rfl, rfl, by decide +kernel, rfl, by decide +kernel, by decide +kernel⟩
def m_law_raise_c : SS :=
 (sIf (mTest (mOp fEq (mVal 0) (mC (.int 16))))
 (sRaise "InvalidPanel" "at" (mVal 1))
 (sIf (mTest (mOp fEq (mVal 0) (mC (.int 17))))
 (sRaise "InvalidPlant" "at" (mVal 1))
 (sIf (mTest (mOp fEq (mVal 0) (mC (.int 18))))
 (sRaise "InvalidLetter" "at" (mVal 1))
 (sIf (mTest (mOp fEq (mVal 0) (mC (.int 19))))
 (sRaise "InvalidMarks" "at" (mVal 1))
 (sIf (mTest (mOp fEq (mVal 0) (mC (.int 20))))
 (sRaise "InvalidReadings" "at" (mVal 1))
 (sIf (mTest (mOp fEq (mVal 0) (mC (.int 21))))
 (sRaise "InvalidRoom" "at" (mVal 1))
 (sIf (mTest (mOp fEq (mVal 0) (mC (.int 22))))
 (sRaise "InvalidDeed" "at" (mVal 1))
 (sIf (mTest (mOp fEq (mVal 0) (mC (.int 23))))
 (sRaise "InvalidAsked" "at" (mVal 1))
 sNx))))))))
def F_law_raise_c : FD := mFn 2 2 m_law_raise_c
theorem der_law_raise_c {P : Program} {w : World} {K : PySem.W.Frag} {mg : Str → Option Value} {base : Heap} (G : Gr P K mg)  (f : Addr) (cdv : Value) (A : Around) (outer : List PySem.Env) (s : Shared) (H : Hp) (E : XK) (hr : Rm 1 (cxOf (L2.CX P w) P w K mg base N_law_raise_c "_law_raise_c" (defScope s_law_raise_c) f cdv A outer s H E).A) : PSDs (cxOf (L2.CX P w) P w K mg base N_law_raise_c "_law_raise_c" (defScope s_law_raise_c) f cdv A outer s H E) (WE' E) (defBody s_law_raise_c) m_law_raise_c := by
  have tk0 : Takes (cxOf (L2.CX P w) P w K mg base N_law_raise_c "_law_raise_c" (defScope s_law_raise_c) f cdv A outer s H E) (WE' E) := takes_def
  have hp0 := own_def (P := P) (w := w) (K := K) (mg := mg) (base := base) (N := N_law_raise_c) (qual := "_law_raise_c") (scope := defScope s_law_raise_c) (f := f) (cdv := cdv) (A := A) (outer := outer) (s := s) (H := H) (E := E)
  unfold m_law_raise_c
  exact (psd_one (psd_if (pdt_eq hr.r.units (pd_val 0) pd_int) (psd_one (psd_raise G.e_InvalidPanel PySem.EX.okF_at rfl hr.r (by decide) tk0 (pd_val 1))) (psd_one (psd_if (pdt_eq hr.r.units (pd_val 0) pd_int) (psd_one (psd_raise G.e_InvalidPlant PySem.EX.okF_at rfl hr.r (by decide) tk0 (pd_val 1))) (psd_one (psd_if (pdt_eq hr.r.units (pd_val 0) pd_int) (psd_one (psd_raise G.e_InvalidLetter PySem.EX.okF_at rfl hr.r (by decide) tk0 (pd_val 1))) (psd_one (psd_if (pdt_eq hr.r.units (pd_val 0) pd_int) (psd_one (psd_raise G.e_InvalidMarks PySem.EX.okF_at rfl hr.r (by decide) tk0 (pd_val 1))) (psd_one (psd_if (pdt_eq hr.r.units (pd_val 0) pd_int) (psd_one (psd_raise G.e_InvalidReadings PySem.EX.okF_at rfl hr.r (by decide) tk0 (pd_val 1))) (psd_one (psd_if (pdt_eq hr.r.units (pd_val 0) pd_int) (psd_one (psd_raise G.e_InvalidRoom PySem.EX.okF_at rfl hr.r (by decide) tk0 (pd_val 1))) (psd_one (psd_if (pdt_eq hr.r.units (pd_val 0) pd_int) (psd_one (psd_raise G.e_InvalidDeed PySem.EX.okF_at rfl hr.r (by decide) tk0 (pd_val 1))) (psd_one (psd_if (pdt_eq hr.r.units (pd_val 0) pd_int) (psd_one (psd_raise G.e_InvalidAsked PySem.EX.okF_at rfl hr.r (by decide) tk0 (pd_val 1))) psd_nil))))))))))))))))
def N_law_raise_d : List Str := ["_law_number", "_law_thing"]
theorem sc_law_raise_d : FnScope N_law_raise_d ["_law_number", "_law_thing"] (defScope s_law_raise_d) := ⟨rfl, rfl, rfl, by decide +kernel, rfl, by decide +kernel, by decide +kernel⟩
def m_law_raise_d : SS :=
 (sIf (mTest (mOp fEq (mVal 0) (mC (.int 24))))
 (sRaise "InvalidIndex" "at" (mVal 1))
 (sIf (mTest (mOp fEq (mVal 0) (mC (.int 25))))
 (sRaise "Refused" "at" (mVal 1))
 (sIf (mTest (mOp fEq (mVal 0) (mC (.int 26))))
 (sRaise "InvalidSize" "word" (mVal 1))
 (sIf (mTest (mOp fEq (mVal 0) (mC (.int 27))))
 (sRaise0 "InvalidCommand")
 sNx))))
def F_law_raise_d : FD := mFn 2 2 m_law_raise_d
theorem der_law_raise_d {P : Program} {w : World} {K : PySem.W.Frag} {mg : Str → Option Value} {base : Heap} (G : Gr P K mg)  (f : Addr) (cdv : Value) (A : Around) (outer : List PySem.Env) (s : Shared) (H : Hp) (E : XK) (hr : Rm 1 (cxOf (L2.CX P w) P w K mg base N_law_raise_d "_law_raise_d" (defScope s_law_raise_d) f cdv A outer s H E).A) : PSDs (cxOf (L2.CX P w) P w K mg base N_law_raise_d "_law_raise_d" (defScope s_law_raise_d) f cdv A outer s H E) (WE' E) (defBody s_law_raise_d) m_law_raise_d := by
  have tk0 : Takes (cxOf (L2.CX P w) P w K mg base N_law_raise_d "_law_raise_d" (defScope s_law_raise_d) f cdv A outer s H E) (WE' E) := takes_def
  have hp0 := own_def (P := P) (w := w) (K := K) (mg := mg) (base := base) (N := N_law_raise_d) (qual := "_law_raise_d") (scope := defScope s_law_raise_d) (f := f) (cdv := cdv) (A := A) (outer := outer) (s := s) (H := H) (E := E)
  unfold m_law_raise_d
  exact (psd_one (psd_if (pdt_eq hr.r.units (pd_val 0) pd_int) (psd_one (psd_raise G.e_InvalidIndex PySem.EX.okF_at rfl hr.r (by decide) tk0 (pd_val 1))) (psd_one (psd_if (pdt_eq hr.r.units (pd_val 0) pd_int) (psd_one (psd_raise G.e_Refused PySem.EX.okF_at rfl hr.r (by decide) tk0 (pd_val 1))) (psd_one (psd_if (pdt_eq hr.r.units (pd_val 0) pd_int) (psd_one (psd_raise G.e_InvalidSize PySem.EX.okF_word rfl hr.r (by decide) tk0 (pd_val 1))) (psd_one (psd_if (pdt_eq hr.r.units (pd_val 0) pd_int) (psd_one (psd_raise0 G.e_InvalidCommand rfl hr.r (by decide) tk0)) psd_nil))))))))
def N_law_raise : List Str := ["_law_number", "_law_thing"]
theorem sc_law_raise : FnScope N_law_raise ["_law_number", "_law_thing"] (defScope s_law_raise) := ⟨rfl, rfl, rfl, by decide +kernel, rfl, by decide +kernel, by decide +kernel⟩
def m_law_raise : SS :=
 (sIf (mTest (mOp fLt (mVal 0) (mC (.int 8))))
 (sExpr (mCall 2 F_law_raise_a (mCons (mVal 0) (mCons (mVal 1) mNil))))
 (sIf (mTest (mOp fLt (mVal 0) (mC (.int 16))))
 (sExpr (mCall 2 F_law_raise_b (mCons (mVal 0) (mCons (mVal 1) mNil))))
 (sIf (mTest (mOp fLt (mVal 0) (mC (.int 24))))
 (sExpr (mCall 2 F_law_raise_c (mCons (mVal 0) (mCons (mVal 1) mNil))))
 (sExpr (mCall 2 F_law_raise_d (mCons (mVal 0) (mCons (mVal 1) mNil)))))))
def F_law_raise : FD := mFn 2 2 m_law_raise
theorem der_law_raise {P : Program} {w : World} {K : PySem.W.Frag} {mg : Str → Option Value} {base : Heap} (G : Gr P K mg) (c_law_raise_a : Cal P w K mg base 2 "_law_raise_a" 2 F_law_raise_a) (c_law_raise_b : Cal P w K mg base 2 "_law_raise_b" 2 F_law_raise_b) (c_law_raise_c : Cal P w K mg base 2 "_law_raise_c" 2 F_law_raise_c) (c_law_raise_d : Cal P w K mg base 2 "_law_raise_d" 2 F_law_raise_d) (f : Addr) (cdv : Value) (A : Around) (outer : List PySem.Env) (s : Shared) (H : Hp) (E : XK) (hr : Rm 2 (cxOf (L2.CX P w) P w K mg base N_law_raise "_law_raise" (defScope s_law_raise) f cdv A outer s H E).A) : PSDs (cxOf (L2.CX P w) P w K mg base N_law_raise "_law_raise" (defScope s_law_raise) f cdv A outer s H E) (WE' E) (defBody s_law_raise) m_law_raise := by
  have tk0 : Takes (cxOf (L2.CX P w) P w K mg base N_law_raise "_law_raise" (defScope s_law_raise) f cdv A outer s H E) (WE' E) := takes_def
  have hp0 := own_def (P := P) (w := w) (K := K) (mg := mg) (base := base) (N := N_law_raise) (qual := "_law_raise") (scope := defScope s_law_raise) (f := f) (cdv := cdv) (A := A) (outer := outer) (s := s) (H := H) (E := E)
  unfold m_law_raise
  exact (psd_one (psd_if (pdt_lt (pd_val 0) pd_int) (psd_one (psd_expr (pd_call c_law_raise_a hr (by decide) tk0 (pda_cons (pd_val 0) (pda_cons (pd_val 1) pda_nil))))) (psd_one (psd_if (pdt_lt (pd_val 0) pd_int) (psd_one (psd_expr (pd_call c_law_raise_b hr (by decide) tk0 (pda_cons (pd_val 0) (pda_cons (pd_val 1) pda_nil))))) (psd_one (psd_if (pdt_lt (pd_val 0) pd_int) (psd_one (psd_expr (pd_call c_law_raise_c hr (by decide) tk0 (pda_cons (pd_val 0) (pda_cons (pd_val 1) pda_nil))))) (psd_one (psd_expr (pd_call c_law_raise_d hr (by decide) tk0 (pda_cons (pd_val 0) (pda_cons (pd_val 1) pda_nil)))))))))))
def N_law_is_base : List Str := ["_law_number", "_law_thing"]
theorem sc_law_is_base : FnScope N_law_is_base ["_law_number", "_law_thing"] (defScope s_law_is_base) := ⟨rfl, rfl, rfl, by decide +kernel, rfl, by decide +kernel, by decide +kernel⟩
def m_law_is_base : SS :=
 (sSeq (sTry nm (sExpr (mCall 2 F_law_raise (mCons (mVal 0) (mCons (mVal 1) mNil))))
 [("TwinError", fun _ => (xC (.bl true)))])
 (sRet (mC (.bl false))))
def F_law_is_base : FD := mFn 2 2 m_law_is_base
theorem der_law_is_base {P : Program} {w : World} {K : PySem.W.Frag} {mg : Str → Option Value} {base : Heap} (G : Gr P K mg) (c_law_raise : Cal P w K mg base 3 "_law_raise" 2 F_law_raise) (f : Addr) (cdv : Value) (A : Around) (outer : List PySem.Env) (s : Shared) (H : Hp) (E : XK) (hr : Rm 3 (cxOf (L2.CX P w) P w K mg base N_law_is_base "_law_is_base" (defScope s_law_is_base) f cdv A outer s H E).A) : PSDs (cxOf (L2.CX P w) P w K mg base N_law_is_base "_law_is_base" (defScope s_law_is_base) f cdv A outer s H E) (WE' E) (defBody s_law_is_base) m_law_is_base := by
  have tk0 : Takes (cxOf (L2.CX P w) P w K mg base N_law_is_base "_law_is_base" (defScope s_law_is_base) f cdv A outer s H E) (WE' E) := takes_def
  have hp0 := own_def (P := P) (w := w) (K := K) (mg := mg) (base := base) (N := N_law_is_base) (qual := "_law_is_base") (scope := defScope s_law_is_base) (f := f) (cdv := cdv) (A := A) (outer := outer) (s := s) (H := H) (E := E)
  unfold m_law_is_base
  exact (psd_cons (psd_try rfl rfl sc_law_is_base.nd tk0 G.errs (clauses_ok (by decide +kernel)) (fun W1 pn1 xe1 tk1 hp1 => (psd_one (psd_expr (pd_call c_law_raise hr (by decide) tk1 (pda_cons (pd_val 0) (pda_cons (pd_val 1) pda_nil)))))) (.plain rfl (by decide) G.g_TwinError.1 G.g_TwinError.2 (fun u oe pn hi hz hf => pxd_bl) .nil)) (psd_one (psd_ret pd_bl)))
def N_law_caught_a : List Str := ["_law_number", "_law_thing", "e"]
theorem sc_law_caught_a : FnScope N_law_caught_a ["_law_number", "_law_thing"] (defScope s_law_caught_a) := ⟨rfl, rfl, rfl, by decide +kernel, rfl, by decide +kernel, by decide +kernel⟩
def m_law_caught_a : SS :=
 (sSeq (sTry nm (sExpr (mCall 2 F_law_raise (mCons (mVal 0) (mCons (mVal 1) mNil))))
 [("InvalidText", fun fs => (xTup (xCons (xC (.int 0)) (xCons (xFld fs "at") xNil)))), ("InvalidMachine", fun fs => (xTup (xCons (xC (.int 1)) (xCons (xFld fs "at") xNil)))), ("InvalidLate", fun fs => (xTup (xCons (xC (.int 2)) (xCons (xFld fs "at") xNil)))), ("InvalidWord", fun fs => (xTup (xCons (xC (.int 3)) (xCons (xFld fs "at") xNil)))), ("InvalidKind", fun fs => (xTup (xCons (xC (.int 4)) (xCons (xFld fs "at") xNil)))), ("InvalidState", fun fs => (xTup (xCons (xC (.int 5)) (xCons (xFld fs "at") xNil)))), ("InvalidMap", fun fs => (xTup (xCons (xC (.int 6)) (xCons (xFld fs "at") xNil)))), ("InvalidStory", fun fs => (xTup (xCons (xC (.int 7)) (xCons (xFld fs "at") xNil))))])
 (sRet (mC .non)))
def F_law_caught_a : FD := mFn 2 3 m_law_caught_a
theorem der_law_caught_a {P : Program} {w : World} {K : PySem.W.Frag} {mg : Str → Option Value} {base : Heap} (G : Gr P K mg) (c_law_raise : Cal P w K mg base 3 "_law_raise" 2 F_law_raise) (f : Addr) (cdv : Value) (A : Around) (outer : List PySem.Env) (s : Shared) (H : Hp) (E : XK) (hr : Rm 3 (cxOf (L2.CX P w) P w K mg base N_law_caught_a "_law_caught_a" (defScope s_law_caught_a) f cdv A outer s H E).A) : PSDs (cxOf (L2.CX P w) P w K mg base N_law_caught_a "_law_caught_a" (defScope s_law_caught_a) f cdv A outer s H E) (WE' E) (defBody s_law_caught_a) m_law_caught_a := by
  have tk0 : Takes (cxOf (L2.CX P w) P w K mg base N_law_caught_a "_law_caught_a" (defScope s_law_caught_a) f cdv A outer s H E) (WE' E) := takes_def
  have hp0 := own_def (P := P) (w := w) (K := K) (mg := mg) (base := base) (N := N_law_caught_a) (qual := "_law_caught_a") (scope := defScope s_law_caught_a) (f := f) (cdv := cdv) (A := A) (outer := outer) (s := s) (H := H) (E := E)
  unfold m_law_caught_a
  exact (psd_cons (psd_try rfl rfl sc_law_caught_a.nd tk0 G.errs (clauses_ok (by decide +kernel)) (fun W1 pn1 xe1 tk1 hp1 => (psd_one (psd_expr (pd_call c_law_raise hr (by decide) tk1 (pda_cons (pd_val 0) (pda_cons (pd_val 1) pda_nil)))))) (.as_ (i := 2) rfl (by decide) G.g_InvalidText.1 G.g_InvalidText.2 rfl rfl (fun u oe pn hi hx hz hf => (pxd_tup (pxa_cons pxd_int (pxa_cons (pxd_fld G.e_InvalidText (catches_is hx) hi hz hf rfl (Or.inl rfl) (by decide) (by decide) rfl) pxa_nil)))) (fun _ _ _ h => h) (.as_ (i := 2) rfl (by decide) G.g_InvalidMachine.1 G.g_InvalidMachine.2 rfl rfl (fun u oe pn hi hx hz hf => (pxd_tup (pxa_cons pxd_int (pxa_cons (pxd_fld G.e_InvalidMachine (catches_is hx) hi hz hf rfl (Or.inl rfl) (by decide) (by decide) rfl) pxa_nil)))) (fun _ _ _ h => h) (.as_ (i := 2) rfl (by decide) G.g_InvalidLate.1 G.g_InvalidLate.2 rfl rfl (fun u oe pn hi hx hz hf => (pxd_tup (pxa_cons pxd_int (pxa_cons (pxd_fld G.e_InvalidLate (catches_is hx) hi hz hf rfl (Or.inl rfl) (by decide) (by decide) rfl) pxa_nil)))) (fun _ _ _ h => h) (.as_ (i := 2) rfl (by decide) G.g_InvalidWord.1 G.g_InvalidWord.2 rfl rfl (fun u oe pn hi hx hz hf => (pxd_tup (pxa_cons pxd_int (pxa_cons (pxd_fld G.e_InvalidWord (catches_is hx) hi hz hf rfl (Or.inl rfl) (by decide) (by decide) rfl) pxa_nil)))) (fun _ _ _ h => h) (.as_ (i := 2) rfl (by decide) G.g_InvalidKind.1 G.g_InvalidKind.2 rfl rfl (fun u oe pn hi hx hz hf => (pxd_tup (pxa_cons pxd_int (pxa_cons (pxd_fld G.e_InvalidKind (catches_is hx) hi hz hf rfl (Or.inl rfl) (by decide) (by decide) rfl) pxa_nil)))) (fun _ _ _ h => h) (.as_ (i := 2) rfl (by decide) G.g_InvalidState.1 G.g_InvalidState.2 rfl rfl (fun u oe pn hi hx hz hf => (pxd_tup (pxa_cons pxd_int (pxa_cons (pxd_fld G.e_InvalidState (catches_is hx) hi hz hf rfl (Or.inl rfl) (by decide) (by decide) rfl) pxa_nil)))) (fun _ _ _ h => h) (.as_ (i := 2) rfl (by decide) G.g_InvalidMap.1 G.g_InvalidMap.2 rfl rfl (fun u oe pn hi hx hz hf => (pxd_tup (pxa_cons pxd_int (pxa_cons (pxd_fld G.e_InvalidMap (catches_is hx) hi hz hf rfl (Or.inl rfl) (by decide) (by decide) rfl) pxa_nil)))) (fun _ _ _ h => h) (.as_ (i := 2) rfl (by decide) G.g_InvalidStory.1 G.g_InvalidStory.2 rfl rfl (fun u oe pn hi hx hz hf => (pxd_tup (pxa_cons pxd_int (pxa_cons (pxd_fld G.e_InvalidStory (catches_is hx) hi hz hf rfl (Or.inl rfl) (by decide) (by decide) rfl) pxa_nil)))) (fun _ _ _ h => h) .nil))))))))) (psd_one (psd_ret pd_non)))
def N_law_caught_b : List Str := ["_law_number", "_law_thing", "e"]
theorem sc_law_caught_b : FnScope N_law_caught_b ["_law_number", "_law_thing"] (defScope s_law_caught_b) := ⟨rfl, rfl, rfl, by decide +kernel, rfl, by decide +kernel, by decide +kernel⟩
def m_law_caught_b : SS :=
 (sSeq (sTry nm (sRet (mCall 2 F_law_caught_a (mCons (mVal 0) (mCons (mVal 1) mNil))))
 [("InvalidMoment", fun fs => (xTup (xCons (xC (.int 8)) (xCons (xFld fs "at") xNil)))), ("InvalidPlaces", fun fs => (xTup (xCons (xC (.int 9)) (xCons (xFld fs "at") xNil)))), ("InvalidTwin", fun fs => (xTup (xCons (xC (.int 10)) (xCons (xFld fs "at") xNil)))), ("InvalidItems", fun fs => (xTup (xCons (xC (.int 11)) (xCons (xFld fs "at") xNil)))), ("InvalidPaper", fun fs => (xTup (xCons (xC (.int 12)) (xCons (xFld fs "at") xNil)))), ("InvalidLateness", fun fs => (xTup (xCons (xC (.int 13)) (xCons (xFld fs "at") xNil)))), ("InvalidGone", fun fs => (xTup (xCons (xC (.int 14)) (xCons (xFld fs "at") xNil)))), ("InvalidLot", fun fs => (xTup (xCons (xC (.int 15)) (xCons (xFld fs "at") xNil))))])
 (sRet (mC .non)))
def F_law_caught_b : FD := mFn 2 3 m_law_caught_b
theorem der_law_caught_b {P : Program} {w : World} {K : PySem.W.Frag} {mg : Str → Option Value} {base : Heap} (G : Gr P K mg) (c_law_caught_a : Cal P w K mg base 4 "_law_caught_a" 2 F_law_caught_a) (f : Addr) (cdv : Value) (A : Around) (outer : List PySem.Env) (s : Shared) (H : Hp) (E : XK) (hr : Rm 4 (cxOf (L2.CX P w) P w K mg base N_law_caught_b "_law_caught_b" (defScope s_law_caught_b) f cdv A outer s H E).A) : PSDs (cxOf (L2.CX P w) P w K mg base N_law_caught_b "_law_caught_b" (defScope s_law_caught_b) f cdv A outer s H E) (WE' E) (defBody s_law_caught_b) m_law_caught_b := by
  have tk0 : Takes (cxOf (L2.CX P w) P w K mg base N_law_caught_b "_law_caught_b" (defScope s_law_caught_b) f cdv A outer s H E) (WE' E) := takes_def
  have hp0 := own_def (P := P) (w := w) (K := K) (mg := mg) (base := base) (N := N_law_caught_b) (qual := "_law_caught_b") (scope := defScope s_law_caught_b) (f := f) (cdv := cdv) (A := A) (outer := outer) (s := s) (H := H) (E := E)
  unfold m_law_caught_b
  exact (psd_cons (psd_try rfl rfl sc_law_caught_b.nd tk0 G.errs (clauses_ok (by decide +kernel)) (fun W1 pn1 xe1 tk1 hp1 => (psd_one (psd_ret (pd_call c_law_caught_a hr (by decide) tk1 (pda_cons (pd_val 0) (pda_cons (pd_val 1) pda_nil)))))) (.as_ (i := 2) rfl (by decide) G.g_InvalidMoment.1 G.g_InvalidMoment.2 rfl rfl (fun u oe pn hi hx hz hf => (pxd_tup (pxa_cons pxd_int (pxa_cons (pxd_fld G.e_InvalidMoment (catches_is hx) hi hz hf rfl (Or.inl rfl) (by decide) (by decide) rfl) pxa_nil)))) (fun _ _ _ h => h) (.as_ (i := 2) rfl (by decide) G.g_InvalidPlaces.1 G.g_InvalidPlaces.2 rfl rfl (fun u oe pn hi hx hz hf => (pxd_tup (pxa_cons pxd_int (pxa_cons (pxd_fld G.e_InvalidPlaces (catches_is hx) hi hz hf rfl (Or.inl rfl) (by decide) (by decide) rfl) pxa_nil)))) (fun _ _ _ h => h) (.as_ (i := 2) rfl (by decide) G.g_InvalidTwin.1 G.g_InvalidTwin.2 rfl rfl (fun u oe pn hi hx hz hf => (pxd_tup (pxa_cons pxd_int (pxa_cons (pxd_fld G.e_InvalidTwin (catches_is hx) hi hz hf rfl (Or.inl rfl) (by decide) (by decide) rfl) pxa_nil)))) (fun _ _ _ h => h) (.as_ (i := 2) rfl (by decide) G.g_InvalidItems.1 G.g_InvalidItems.2 rfl rfl (fun u oe pn hi hx hz hf => (pxd_tup (pxa_cons pxd_int (pxa_cons (pxd_fld G.e_InvalidItems (catches_is hx) hi hz hf rfl (Or.inl rfl) (by decide) (by decide) rfl) pxa_nil)))) (fun _ _ _ h => h) (.as_ (i := 2) rfl (by decide) G.g_InvalidPaper.1 G.g_InvalidPaper.2 rfl rfl (fun u oe pn hi hx hz hf => (pxd_tup (pxa_cons pxd_int (pxa_cons (pxd_fld G.e_InvalidPaper (catches_is hx) hi hz hf rfl (Or.inl rfl) (by decide) (by decide) rfl) pxa_nil)))) (fun _ _ _ h => h) (.as_ (i := 2) rfl (by decide) G.g_InvalidLateness.1 G.g_InvalidLateness.2 rfl rfl (fun u oe pn hi hx hz hf => (pxd_tup (pxa_cons pxd_int (pxa_cons (pxd_fld G.e_InvalidLateness (catches_is hx) hi hz hf rfl (Or.inl rfl) (by decide) (by decide) rfl) pxa_nil)))) (fun _ _ _ h => h) (.as_ (i := 2) rfl (by decide) G.g_InvalidGone.1 G.g_InvalidGone.2 rfl rfl (fun u oe pn hi hx hz hf => (pxd_tup (pxa_cons pxd_int (pxa_cons (pxd_fld G.e_InvalidGone (catches_is hx) hi hz hf rfl (Or.inl rfl) (by decide) (by decide) rfl) pxa_nil)))) (fun _ _ _ h => h) (.as_ (i := 2) rfl (by decide) G.g_InvalidLot.1 G.g_InvalidLot.2 rfl rfl (fun u oe pn hi hx hz hf => (pxd_tup (pxa_cons pxd_int (pxa_cons (pxd_fld G.e_InvalidLot (catches_is hx) hi hz hf rfl (Or.inl rfl) (by decide) (by decide) rfl) pxa_nil)))) (fun _ _ _ h => h) .nil))))))))) (psd_one (psd_ret pd_non)))
def N_law_caught_c : List Str := ["_law_number", "_law_thing", "e"]
theorem sc_law_caught_c : FnScope N_law_caught_c ["_law_number", "_law_thing"] (defScope s_law_caught_c) := ⟨rfl, rfl, rfl, by decide +kernel, rfl, by decide +kernel, by decide +kernel⟩
def m_law_caught_c : SS :=
 (sSeq (sTry nm (sRet (mCall 2 F_law_caught_b (mCons (mVal 0) (mCons (mVal 1) mNil))))
 [("InvalidPanel", fun fs => (xTup (xCons (xC (.int 16)) (xCons (xFld fs "at") xNil)))), ("InvalidPlant", fun fs => (xTup (xCons (xC (.int 17)) (xCons (xFld fs "at") xNil)))), ("InvalidLetter", fun fs => (xTup (xCons (xC (.int 18)) (xCons (xFld fs "at") xNil)))), ("InvalidMarks", fun fs => (xTup (xCons (xC (.int 19)) (xCons (xFld fs "at") xNil)))), ("InvalidReadings", fun fs => (xTup (xCons (xC (.int 20)) (xCons (xFld fs "at") xNil)))), ("InvalidRoom", fun fs => (xTup (xCons (xC (.int 21)) (xCons (xFld fs "at") xNil)))), ("InvalidDeed", fun fs => (xTup (xCons (xC (.int 22)) (xCons (xFld fs "at") xNil)))), ("InvalidAsked", fun fs => (xTup (xCons (xC (.int 23)) (xCons (xFld fs "at") xNil))))])
 (sRet (mC .non)))
def F_law_caught_c : FD := mFn 2 3 m_law_caught_c
theorem der_law_caught_c {P : Program} {w : World} {K : PySem.W.Frag} {mg : Str → Option Value} {base : Heap} (G : Gr P K mg) (c_law_caught_b : Cal P w K mg base 5 "_law_caught_b" 2 F_law_caught_b) (f : Addr) (cdv : Value) (A : Around) (outer : List PySem.Env) (s : Shared) (H : Hp) (E : XK) (hr : Rm 5 (cxOf (L2.CX P w) P w K mg base N_law_caught_c "_law_caught_c" (defScope s_law_caught_c) f cdv A outer s H E).A) : PSDs (cxOf (L2.CX P w) P w K mg base N_law_caught_c "_law_caught_c" (defScope s_law_caught_c) f cdv A outer s H E) (WE' E) (defBody s_law_caught_c) m_law_caught_c := by
  have tk0 : Takes (cxOf (L2.CX P w) P w K mg base N_law_caught_c "_law_caught_c" (defScope s_law_caught_c) f cdv A outer s H E) (WE' E) := takes_def
  have hp0 := own_def (P := P) (w := w) (K := K) (mg := mg) (base := base) (N := N_law_caught_c) (qual := "_law_caught_c") (scope := defScope s_law_caught_c) (f := f) (cdv := cdv) (A := A) (outer := outer) (s := s) (H := H) (E := E)
  unfold m_law_caught_c
  exact (psd_cons (psd_try rfl rfl sc_law_caught_c.nd tk0 G.errs (clauses_ok (by decide +kernel)) (fun W1 pn1 xe1 tk1 hp1 => (psd_one (psd_ret (pd_call c_law_caught_b hr (by decide) tk1 (pda_cons (pd_val 0) (pda_cons (pd_val 1) pda_nil)))))) (.as_ (i := 2) rfl (by decide) G.g_InvalidPanel.1 G.g_InvalidPanel.2 rfl rfl (fun u oe pn hi hx hz hf => (pxd_tup (pxa_cons pxd_int (pxa_cons (pxd_fld G.e_InvalidPanel (catches_is hx) hi hz hf rfl (Or.inl rfl) (by decide) (by decide) rfl) pxa_nil)))) (fun _ _ _ h => h) (.as_ (i := 2) rfl (by decide) G.g_InvalidPlant.1 G.g_InvalidPlant.2 rfl rfl (fun u oe pn hi hx hz hf => (pxd_tup (pxa_cons pxd_int (pxa_cons (pxd_fld G.e_InvalidPlant (catches_is hx) hi hz hf rfl (Or.inl rfl) (by decide) (by decide) rfl) pxa_nil)))) (fun _ _ _ h => h) (.as_ (i := 2) rfl (by decide) G.g_InvalidLetter.1 G.g_InvalidLetter.2 rfl rfl (fun u oe pn hi hx hz hf => (pxd_tup (pxa_cons pxd_int (pxa_cons (pxd_fld G.e_InvalidLetter (catches_is hx) hi hz hf rfl (Or.inl rfl) (by decide) (by decide) rfl) pxa_nil)))) (fun _ _ _ h => h) (.as_ (i := 2) rfl (by decide) G.g_InvalidMarks.1 G.g_InvalidMarks.2 rfl rfl (fun u oe pn hi hx hz hf => (pxd_tup (pxa_cons pxd_int (pxa_cons (pxd_fld G.e_InvalidMarks (catches_is hx) hi hz hf rfl (Or.inl rfl) (by decide) (by decide) rfl) pxa_nil)))) (fun _ _ _ h => h) (.as_ (i := 2) rfl (by decide) G.g_InvalidReadings.1 G.g_InvalidReadings.2 rfl rfl (fun u oe pn hi hx hz hf => (pxd_tup (pxa_cons pxd_int (pxa_cons (pxd_fld G.e_InvalidReadings (catches_is hx) hi hz hf rfl (Or.inl rfl) (by decide) (by decide) rfl) pxa_nil)))) (fun _ _ _ h => h) (.as_ (i := 2) rfl (by decide) G.g_InvalidRoom.1 G.g_InvalidRoom.2 rfl rfl (fun u oe pn hi hx hz hf => (pxd_tup (pxa_cons pxd_int (pxa_cons (pxd_fld G.e_InvalidRoom (catches_is hx) hi hz hf rfl (Or.inl rfl) (by decide) (by decide) rfl) pxa_nil)))) (fun _ _ _ h => h) (.as_ (i := 2) rfl (by decide) G.g_InvalidDeed.1 G.g_InvalidDeed.2 rfl rfl (fun u oe pn hi hx hz hf => (pxd_tup (pxa_cons pxd_int (pxa_cons (pxd_fld G.e_InvalidDeed (catches_is hx) hi hz hf rfl (Or.inl rfl) (by decide) (by decide) rfl) pxa_nil)))) (fun _ _ _ h => h) (.as_ (i := 2) rfl (by decide) G.g_InvalidAsked.1 G.g_InvalidAsked.2 rfl rfl (fun u oe pn hi hx hz hf => (pxd_tup (pxa_cons pxd_int (pxa_cons (pxd_fld G.e_InvalidAsked (catches_is hx) hi hz hf rfl (Or.inl rfl) (by decide) (by decide) rfl) pxa_nil)))) (fun _ _ _ h => h) .nil))))))))) (psd_one (psd_ret pd_non)))
def N_law_caught_d : List Str := ["_law_number", "_law_thing", "e"]
theorem sc_law_caught_d : FnScope N_law_caught_d ["_law_number", "_law_thing"] (defScope s_law_caught_d) := ⟨rfl, rfl, rfl, by decide +kernel, rfl, by decide +kernel, by decide +kernel⟩
def m_law_caught_d : SS :=
 (sSeq (sTry nm (sRet (mCall 2 F_law_caught_c (mCons (mVal 0) (mCons (mVal 1) mNil))))
 [("InvalidIndex", fun fs => (xTup (xCons (xC (.int 24)) (xCons (xFld fs "at") xNil)))), ("Refused", fun fs => (xTup (xCons (xC (.int 25)) (xCons (xFld fs "at") xNil)))), ("InvalidSize", fun fs => (xTup (xCons (xC (.int 26)) (xCons (xFld fs "word") xNil)))), ("InvalidCommand", fun _ => (xTup (xCons (xC (.int 27)) (xCons (xVal 1) xNil))))])
 (sRet (mC .non)))
def F_law_caught_d : FD := mFn 2 3 m_law_caught_d
theorem der_law_caught_d {P : Program} {w : World} {K : PySem.W.Frag} {mg : Str → Option Value} {base : Heap} (G : Gr P K mg) (c_law_caught_c : Cal P w K mg base 6 "_law_caught_c" 2 F_law_caught_c) (f : Addr) (cdv : Value) (A : Around) (outer : List PySem.Env) (s : Shared) (H : Hp) (E : XK) (hr : Rm 6 (cxOf (L2.CX P w) P w K mg base N_law_caught_d "_law_caught_d" (defScope s_law_caught_d) f cdv A outer s H E).A) : PSDs (cxOf (L2.CX P w) P w K mg base N_law_caught_d "_law_caught_d" (defScope s_law_caught_d) f cdv A outer s H E) (WE' E) (defBody s_law_caught_d) m_law_caught_d := by
  have tk0 : Takes (cxOf (L2.CX P w) P w K mg base N_law_caught_d "_law_caught_d" (defScope s_law_caught_d) f cdv A outer s H E) (WE' E) := takes_def
  have hp0 := own_def (P := P) (w := w) (K := K) (mg := mg) (base := base) (N := N_law_caught_d) (qual := "_law_caught_d") (scope := defScope s_law_caught_d) (f := f) (cdv := cdv) (A := A) (outer := outer) (s := s) (H := H) (E := E)
  unfold m_law_caught_d
  exact (psd_cons (psd_try rfl rfl sc_law_caught_d.nd tk0 G.errs (clauses_ok (by decide +kernel)) (fun W1 pn1 xe1 tk1 hp1 => (psd_one (psd_ret (pd_call c_law_caught_c hr (by decide) tk1 (pda_cons (pd_val 0) (pda_cons (pd_val 1) pda_nil)))))) (.as_ (i := 2) rfl (by decide) G.g_InvalidIndex.1 G.g_InvalidIndex.2 rfl rfl (fun u oe pn hi hx hz hf => (pxd_tup (pxa_cons pxd_int (pxa_cons (pxd_fld G.e_InvalidIndex (catches_is hx) hi hz hf rfl (Or.inl rfl) (by decide) (by decide) rfl) pxa_nil)))) (fun _ _ _ h => h) (.as_ (i := 2) rfl (by decide) G.g_Refused.1 G.g_Refused.2 rfl rfl (fun u oe pn hi hx hz hf => (pxd_tup (pxa_cons pxd_int (pxa_cons (pxd_fld G.e_Refused (catches_is hx) hi hz hf rfl (Or.inl rfl) (by decide) (by decide) rfl) pxa_nil)))) (fun _ _ _ h => h) (.as_ (i := 2) rfl (by decide) G.g_InvalidSize.1 G.g_InvalidSize.2 rfl rfl (fun u oe pn hi hx hz hf => (pxd_tup (pxa_cons pxd_int (pxa_cons (pxd_fld G.e_InvalidSize (catches_is hx) hi hz hf rfl (Or.inl rfl) (by decide) (by decide) rfl) pxa_nil)))) (fun _ _ _ h => h) (.plain rfl (by decide) G.g_InvalidCommand.1 G.g_InvalidCommand.2 (fun u oe pn hi hz hf => (pxd_tup (pxa_cons pxd_int (pxa_cons (pxd_val 1) pxa_nil)))) .nil))))) (psd_one (psd_ret pd_non)))
def N_law_take : List Str := ["_law_box_here", "_law_many", "_law_raw", "_law_digit"]
theorem sc_law_take : FnScope N_law_take ["_law_box_here", "_law_many"] (defScope s_law_take) := ⟨rfl, rfl, rfl, by decide +kernel, rfl, by decide +kernel, by decide +kernel⟩
def m_law_take : SS :=
 (sSeq (sIf (mTest (mOp fGt (mOp fIx (mVal 0) (mC (.int 0))) (mC (.int 0))))
 (sSeq (sSet 3 (mOp fMod (mApp fInt (mCons (mOp fIx (mVal 0) (mC (.int 0))) mNil)) (mVal 1)))
 (sSeq (sPut (mVal 0) (mC (.int 0)) (mOp fDiv (mOp fIx (mVal 0) (mC (.int 0))) (mVal 1)))
 (sRet (mVal 3))))
 sNx)
 (sSeq (sPut (mVal 0) (mC (.int 2)) (mOp fAdd (mOp fIx (mVal 0) (mC (.int 2))) (mC (.int 1))))
 (sSeq (sSet 2 (mOp fMod (mApp fInt (mCons (mOp fAdd (mOp (fI cMul fun i j => i * j) (mOp fAdd (mOp fIx (mVal 0) (mC (.int 1))) (mOp (fI cMul fun i j => i * j) (mC (.int 70207)) (mOp fIx (mVal 0) (mC (.int 2))))) (mC (.int 61027))) (mC (.int 373))) mNil)) (mC (.int 2147483563))))
 (sSeq (sPut (mVal 0) (mC (.int 1)) (mOp fAdd (mOp fMod (mApp fInt (mCons (mOp fAdd (mOp (fI cMul fun i j => i * j) (mVal 2) (mC (.int 39079))) (mC (.int 21089))) mNil)) (mC (.int 2147483629))) (mC (.int 1))))
 (sRet (mOp fMod (mApp fInt (mCons (mOp fDiv (mOp fAdd (mOp (fI cMul fun i j => i * j) (mVal 2) (mC (.int 2147483647))) (mOp fIx (mVal 0) (mC (.int 1)))) (mC (.int 8191))) mNil)) (mVal 1)))))))
def F_law_take : FD := mFn 2 4 m_law_take
theorem der_law_take {P : Program} {w : World} {K : PySem.W.Frag} {mg : Str → Option Value} {base : Heap} (G : Gr P K mg)  (f : Addr) (cdv : Value) (A : Around) (outer : List PySem.Env) (s : Shared) (H : Hp) (E : XK) (hr : Rm 0 (cxOf (L2.CX P w) P w K mg base N_law_take "_law_take" (defScope s_law_take) f cdv A outer s H E).A) : PSDs (cxOf (L2.CX P w) P w K mg base N_law_take "_law_take" (defScope s_law_take) f cdv A outer s H E) (WE' E) (defBody s_law_take) m_law_take := by
  have tk0 : Takes (cxOf (L2.CX P w) P w K mg base N_law_take "_law_take" (defScope s_law_take) f cdv A outer s H E) (WE' E) := takes_def
  have hp0 := own_def (P := P) (w := w) (K := K) (mg := mg) (base := base) (N := N_law_take) (qual := "_law_take") (scope := defScope s_law_take) (f := f) (cdv := cdv) (A := A) (outer := outer) (s := s) (H := H) (E := E)
  unfold m_law_take
  exact (psd_cons (psd_if (pdt_gt (pd_ix (pd_val 0) pd_int) pd_int) (psd_cons (psd_set sc_law_take.nd (pd_mod (pd_intT G.b_int (pda_cons (pd_ix (pd_val 0) pd_int) pda_nil)) (pd_val 1))) (psd_cons (psd_put (pd_div (pd_ix (pd_val 0) pd_int) (pd_val 1)) (pd_val 0) pd_int) (psd_one (psd_ret (pd_val 3))))) psd_nil) (psd_cons (psd_put (pd_add (pd_ix (pd_val 0) pd_int) pd_int) (pd_val 0) pd_int) (psd_cons (psd_set sc_law_take.nd (pd_mod (pd_intT G.b_int (pda_cons (pd_add (pd_mul (pd_add (pd_ix (pd_val 0) pd_int) (pd_mul pd_int (pd_ix (pd_val 0) pd_int))) pd_int) pd_int) pda_nil)) pd_int)) (psd_cons (psd_put (pd_add (pd_mod (pd_intT G.b_int (pda_cons (pd_add (pd_mul (pd_val 2) pd_int) pd_int) pda_nil)) pd_int) pd_int) (pd_val 0) pd_int) (psd_one (psd_ret (pd_mod (pd_intT G.b_int (pda_cons (pd_div (pd_add (pd_mul (pd_val 2) pd_int) (pd_ix (pd_val 0) pd_int)) pd_int) pda_nil)) (pd_val 1))))))))
def N_law_pick : List Str := ["_law_box_here", "_law_some"]
theorem sc_law_pick : FnScope N_law_pick ["_law_box_here", "_law_some"] (defScope s_law_pick) := ⟨rfl, rfl, rfl, by decide +kernel, rfl, by decide +kernel, by decide +kernel⟩
def m_law_pick : SS :=
 (sRet (mOp fIx (mVal 1) (mCall 2 F_law_take (mCons (mVal 0) (mCons (mApp fLen (mCons (mVal 1) mNil)) mNil)))))
def F_law_pick : FD := mFn 2 2 m_law_pick
theorem der_law_pick {P : Program} {w : World} {K : PySem.W.Frag} {mg : Str → Option Value} {base : Heap} (G : Gr P K mg) (c_law_take : Cal P w K mg base 1 "_law_take" 2 F_law_take) (f : Addr) (cdv : Value) (A : Around) (outer : List PySem.Env) (s : Shared) (H : Hp) (E : XK) (hr : Rm 1 (cxOf (L2.CX P w) P w K mg base N_law_pick "_law_pick" (defScope s_law_pick) f cdv A outer s H E).A) : PSDs (cxOf (L2.CX P w) P w K mg base N_law_pick "_law_pick" (defScope s_law_pick) f cdv A outer s H E) (WE' E) (defBody s_law_pick) m_law_pick := by
  have tk0 : Takes (cxOf (L2.CX P w) P w K mg base N_law_pick "_law_pick" (defScope s_law_pick) f cdv A outer s H E) (WE' E) := takes_def
  have hp0 := own_def (P := P) (w := w) (K := K) (mg := mg) (base := base) (N := N_law_pick) (qual := "_law_pick") (scope := defScope s_law_pick) (f := f) (cdv := cdv) (A := A) (outer := outer) (s := s) (H := H) (E := E)
  unfold m_law_pick
  exact (psd_one (psd_ret (pd_ix (pd_val 1) (pd_call c_law_take hr (by decide) tk0 (pda_cons (pd_val 0) (pda_cons (pd_len G.b_len (pda_cons (pd_val 1) pda_nil)) pda_nil))))))
def N_law_box : List Str := ["_law_script", "_law_k", "_law_cell"]
theorem sc_law_box : FnScope N_law_box ["_law_script", "_law_k"] (defScope s_law_box) := ⟨rfl, rfl, rfl, by decide +kernel, rfl, by decide +kernel, by decide +kernel⟩
def m_law_box : SS :=
 (sSeq (sSet 2 (mOp fAdd (mOp (fI cMul fun i j => i * j) (mC (.int 6173)) (mVal 1)) (mC (.int 373))))
 (sSeq (sIf (mTest (mOp fLt (mVal 1) (mApp fLen (mCons (mVal 0) mNil))))
 (sSet 2 (mApp fAbs (mCons (mOp fIx (mVal 0) (mVal 1)) mNil)))
 (sIf (mTest (mOp fGt (mApp fLen (mCons (mVal 0) mNil)) (mC (.int 0))))
 (sSet 2 (mOp fAdd (mVal 2) (mOp (fI cMul fun i j => i * j) (mOp fMod (mApp fInt (mCons (mApp fAbs (mCons (mOp fIx (mVal 0) (mOp fMod (mApp fInt (mCons (mVal 1) mNil)) (mApp fLen (mCons (mVal 0) mNil)))) mNil)) mNil)) (mC (.int 2147483629))) (mC (.int 70201)))))
 sNx))
 (sRet (mCell (mCons (mOp fIx (mApp fLst (mCons (mC (.int 0)) (mCons (mVal 2) mNil))) (mApp fInt (mCons (mOp fGe (mVal 2) (mOp fPow (mC (.int 10)) (mC (.int 18)))) mNil))) (mCons (mOp fAdd (mOp fMod (mApp fInt (mCons (mOp fAdd (mOp (fI cMul fun i j => i * j) (mOp fMod (mApp fInt (mCons (mVal 2) mNil)) (mC (.int 2147483629))) (mC (.int 44203))) (mOp (fI cMul fun i j => i * j) (mC (.int 51203)) (mVal 1))) mNil)) (mC (.int 2147483629))) (mC (.int 1))) (mCons (mC (.int 0)) mNil)))))))
def F_law_box : FD := mFn 2 3 m_law_box
theorem der_law_box {P : Program} {w : World} {K : PySem.W.Frag} {mg : Str → Option Value} {base : Heap} (G : Gr P K mg)  (f : Addr) (cdv : Value) (A : Around) (outer : List PySem.Env) (s : Shared) (H : Hp) (E : XK) (hr : Rm 0 (cxOf (L2.CX P w) P w K mg base N_law_box "_law_box" (defScope s_law_box) f cdv A outer s H E).A) : PSDs (cxOf (L2.CX P w) P w K mg base N_law_box "_law_box" (defScope s_law_box) f cdv A outer s H E) (WE' E) (defBody s_law_box) m_law_box := by
  have tk0 : Takes (cxOf (L2.CX P w) P w K mg base N_law_box "_law_box" (defScope s_law_box) f cdv A outer s H E) (WE' E) := takes_def
  have hp0 := own_def (P := P) (w := w) (K := K) (mg := mg) (base := base) (N := N_law_box) (qual := "_law_box") (scope := defScope s_law_box) (f := f) (cdv := cdv) (A := A) (outer := outer) (s := s) (H := H) (E := E)
  unfold m_law_box
  exact (psd_cons (psd_set sc_law_box.nd (pd_add (pd_mul pd_int (pd_val 1)) pd_int)) (psd_cons (psd_if (pdt_lt (pd_val 1) (pd_len G.b_len (pda_cons (pd_val 0) pda_nil))) (psd_one (psd_set sc_law_box.nd (pd_abs G.b_abs (pda_cons (pd_ix (pd_val 0) (pd_val 1)) pda_nil)))) (psd_one (psd_if (pdt_gt (pd_len G.b_len (pda_cons (pd_val 0) pda_nil)) pd_int) (psd_one (psd_set sc_law_box.nd (pd_add (pd_val 2) (pd_mul (pd_mod (pd_intT G.b_int (pda_cons (pd_abs G.b_abs (pda_cons (pd_ix (pd_val 0) (pd_mod (pd_intT G.b_int (pda_cons (pd_val 1) pda_nil)) (pd_len G.b_len (pda_cons (pd_val 0) pda_nil)))) pda_nil)) pda_nil)) pd_int) pd_int)))) psd_nil))) (psd_one (psd_ret (pd_cell (pda_cons (pd_ix (pd_lst (pda_cons pd_int (pda_cons (pd_val 2) pda_nil))) (pd_intT G.b_int (pda_cons (pd_ge (pd_val 2) (pd_pow pd_int pd_int)) pda_nil))) (pda_cons (pd_add (pd_mod (pd_intT G.b_int (pda_cons (pd_add (pd_mul (pd_mod (pd_intT G.b_int (pda_cons (pd_val 2) pda_nil)) pd_int) pd_int) (pd_mul pd_int (pd_val 1))) pda_nil)) pd_int) pd_int) (pda_cons pd_int pda_nil))))))))
def N_law : List Str := ["_law_script", "_law_box_here", "_law_number", "_law_kept", "_law_thing"]
theorem sc_law : FnScope N_law ["_law_script"] (defScope s_law) := ⟨rfl, rfl, rfl, by decide +kernel, rfl, by decide +kernel, by decide +kernel⟩
def m_law : SS :=
 (sSeq (sSet 1 (mCall 2 F_law_box (mCons (mVal 0) (mCons (mC (.int 0)) mNil))))
 (sSeq (sFor (mRng fRng1 (mCons (mC (.int 28)) mNil)) (tgName 2)
 (sSeq (sSet 4 (mCall 2 F_law_pick (mCons (mVal 1) (mCons (mApp fLst (mCons (mC (.int 0)) (mCons (mUn fNeg (mC (.int 1))) (mCons (mC .non) (mCons (mC (.str "words")) (mCons (mApp fTup (mCons (mC (.int 1)) (mCons (mC (.int 2)) mNil))) (mCons (mApp fLst (mCons (mC (.int 3)) mNil)) (mCons (mC (.bl true)) (mCons (mC (.int 7)) mNil))))))))) mNil))))
 (sIf (mOr (mTest (mOp fNe (mApp fRepr (mCons (mCall 2 F_law_caught_d (mCons (mVal 2) (mCons (mVal 4) mNil))) mNil)) (mApp fRepr (mCons (mApp fTup (mCons (mVal 2) (mCons (mVal 4) mNil))) mNil)))) (mNot (mTest (mCall 2 F_law_is_base (mCons (mVal 2) (mCons (mVal 4) mNil))))))
 (sRet (mC (.bl false)))
 sNx)))
 (sSeq (sSet 3 (mApp fTup (mCons (mUn fNeg (mC (.int 1))) (mCons (mC (.int 3)) (mCons (mC (.str "x")) (mCons (mC (.str "right")) mNil))))))
 (sRet (mOp fEq (mVal 3) (mApp fTup (mCons (mUn fNeg (mC (.int 1))) (mCons (mC (.int 3)) (mCons (mC (.str "x")) (mCons (mC (.str "right")) mNil))))))))))
def F_law : FD := mFn 1 5 m_law
theorem der_law {P : Program} {w : World} {K : PySem.W.Frag} {mg : Str → Option Value} {base : Heap} (G : Gr P K mg) (c_law_is_base : Cal P w K mg base 4 "_law_is_base" 2 F_law_is_base) (c_law_caught_d : Cal P w K mg base 7 "_law_caught_d" 2 F_law_caught_d) (c_law_pick : Cal P w K mg base 2 "_law_pick" 2 F_law_pick) (c_law_box : Cal P w K mg base 1 "_law_box" 2 F_law_box) (f : Addr) (cdv : Value) (A : Around) (outer : List PySem.Env) (s : Shared) (H : Hp) (E : XK) (hr : Rm 7 (cxOf (L2.CX P w) P w K mg base N_law "law" (defScope s_law) f cdv A outer s H E).A) : PSDs (cxOf (L2.CX P w) P w K mg base N_law "law" (defScope s_law) f cdv A outer s H E) (WE' E) (defBody s_law) m_law := by
  have tk0 : Takes (cxOf (L2.CX P w) P w K mg base N_law "law" (defScope s_law) f cdv A outer s H E) (WE' E) := takes_def
  have hp0 := own_def (P := P) (w := w) (K := K) (mg := mg) (base := base) (N := N_law) (qual := "law") (scope := defScope s_law) (f := f) (cdv := cdv) (A := A) (outer := outer) (s := s) (H := H) (E := E)
  unfold m_law
  exact (psd_cons (psd_set sc_law.nd (pd_call c_law_box hr (by decide) tk0 (pda_cons (pd_val 0) (pda_cons pd_int pda_nil)))) (psd_cons (psd_for hp0 rfl (pid_range1 G.b_range (pda_cons pd_int pda_nil)) (pgd_name sc_law.nd) (psd_cons (psd_set sc_law.nd (pd_call c_law_pick hr (by decide) tk0 (pda_cons (pd_val 1) (pda_cons (pd_lst (pda_cons pd_int (pda_cons (pd_neg pd_int) (pda_cons pd_non (pda_cons pd_str (pda_cons (pd_tup (pda_cons pd_int (pda_cons pd_int pda_nil))) (pda_cons (pd_lst (pda_cons pd_int pda_nil)) (pda_cons pd_bl (pda_cons pd_int pda_nil))))))))) pda_nil)))) (psd_one (psd_if (PDW.pdt (pdw_or (pdt_ne hr.r.units (pd_repr hr G.b_repr (pda_cons (pd_call c_law_caught_d hr (by decide) tk0 (pda_cons (pd_val 2) (pda_cons (pd_val 4) pda_nil))) pda_nil)) (pd_repr hr G.b_repr (pda_cons (pd_tup (pda_cons (pd_val 2) (pda_cons (pd_val 4) pda_nil))) pda_nil))) (pdw_or1 (pdt_not (pdt_val (pd_call c_law_is_base hr (by decide) tk0 (pda_cons (pd_val 2) (pda_cons (pd_val 4) pda_nil)))))))) (psd_one (psd_ret pd_bl)) psd_nil)))) (psd_cons (psd_set sc_law.nd (pd_tup (pda_cons (pd_fresh G.e_InvalidText PySem.EX.okF_at hr.r (by decide) (pd_neg pd_int)) (pda_cons (pd_fresh G.e_InvalidTwin PySem.EX.okF_at hr.r (by decide) pd_int) (pda_cons (pd_fresh G.e_InvalidSize PySem.EX.okF_word hr.r (by decide) pd_str) (pda_cons (pd_fresh G.e_Refused PySem.EX.okF_at hr.r (by decide) pd_str) pda_nil)))))) (psd_one (psd_ret (pd_eq hr.r.units (pd_val 3) (pd_tup (pda_cons (pd_neg pd_int) (pda_cons pd_int (pda_cons pd_str (pda_cons pd_str pda_nil)))))))))))
def d_law_raise_a : He.DefD := ⟨("_law_raise_a", none), "_law_raise_a", "_law_raise_a", defArgs s_law_raise_a, defBody s_law_raise_a, defScope s_law_raise_a, [], []⟩
def d_law_raise_b : He.DefD := ⟨("_law_raise_b", none), "_law_raise_b", "_law_raise_b", defArgs s_law_raise_b, defBody s_law_raise_b, defScope s_law_raise_b, [], []⟩
def d_law_raise_c : He.DefD := ⟨("_law_raise_c", none), "_law_raise_c", "_law_raise_c", defArgs s_law_raise_c, defBody s_law_raise_c, defScope s_law_raise_c, [], []⟩
def d_law_raise_d : He.DefD := ⟨("_law_raise_d", none), "_law_raise_d", "_law_raise_d", defArgs s_law_raise_d, defBody s_law_raise_d, defScope s_law_raise_d, [], []⟩
def d_law_raise : He.DefD := ⟨("_law_raise", none), "_law_raise", "_law_raise", defArgs s_law_raise, defBody s_law_raise, defScope s_law_raise, [], []⟩
def d_law_is_base : He.DefD := ⟨("_law_is_base", none), "_law_is_base", "_law_is_base", defArgs s_law_is_base, defBody s_law_is_base, defScope s_law_is_base, [], []⟩
def d_law_caught_a : He.DefD := ⟨("_law_caught_a", none), "_law_caught_a", "_law_caught_a", defArgs s_law_caught_a, defBody s_law_caught_a, defScope s_law_caught_a, [], []⟩
def d_law_caught_b : He.DefD := ⟨("_law_caught_b", none), "_law_caught_b", "_law_caught_b", defArgs s_law_caught_b, defBody s_law_caught_b, defScope s_law_caught_b, [], []⟩
def d_law_caught_c : He.DefD := ⟨("_law_caught_c", none), "_law_caught_c", "_law_caught_c", defArgs s_law_caught_c, defBody s_law_caught_c, defScope s_law_caught_c, [], []⟩
def d_law_caught_d : He.DefD := ⟨("_law_caught_d", none), "_law_caught_d", "_law_caught_d", defArgs s_law_caught_d, defBody s_law_caught_d, defScope s_law_caught_d, [], []⟩
def d_law_take : He.DefD := ⟨("_law_take", none), "_law_take", "_law_take", defArgs s_law_take, defBody s_law_take, defScope s_law_take, [], []⟩
def d_law_pick : He.DefD := ⟨("_law_pick", none), "_law_pick", "_law_pick", defArgs s_law_pick, defBody s_law_pick, defScope s_law_pick, [], []⟩
def d_law_box : He.DefD := ⟨("_law_box", none), "_law_box", "_law_box", defArgs s_law_box, defBody s_law_box, defScope s_law_box, [], []⟩
def d_law : He.DefD := ⟨("law", none), "law", "law", defArgs s_law, defBody s_law, defScope s_law, [], []⟩
def fn : List He.DefD := [d_law_raise_a, d_law_raise_b, d_law_raise_c, d_law_raise_d, d_law_raise, d_law_is_base, d_law_caught_a, d_law_caught_b, d_law_caught_c, d_law_caught_d, d_law_take, d_law_pick, d_law_box, d_law]
def er : List ErD := [⟨"InvalidText", "InvalidText.__init__", "at", s_InvalidText⟩, ⟨"InvalidMachine", "InvalidMachine.__init__", "at", s_InvalidMachine⟩, ⟨"InvalidLate", "InvalidLate.__init__", "at", s_InvalidLate⟩, ⟨"InvalidWord", "InvalidWord.__init__", "at", s_InvalidWord⟩, ⟨"InvalidKind", "InvalidKind.__init__", "at", s_InvalidKind⟩, ⟨"InvalidState", "InvalidState.__init__", "at", s_InvalidState⟩, ⟨"InvalidMap", "InvalidMap.__init__", "at", s_InvalidMap⟩, ⟨"InvalidStory", "InvalidStory.__init__", "at", s_InvalidStory⟩, ⟨"InvalidMoment", "InvalidMoment.__init__", "at", s_InvalidMoment⟩, ⟨"InvalidPlaces", "InvalidPlaces.__init__", "at", s_InvalidPlaces⟩, ⟨"InvalidTwin", "InvalidTwin.__init__", "at", s_InvalidTwin⟩, ⟨"InvalidItems", "InvalidItems.__init__", "at", s_InvalidItems⟩, ⟨"InvalidPaper", "InvalidPaper.__init__", "at", s_InvalidPaper⟩, ⟨"InvalidLateness", "InvalidLateness.__init__", "at", s_InvalidLateness⟩, ⟨"InvalidGone", "InvalidGone.__init__", "at", s_InvalidGone⟩, ⟨"InvalidLot", "InvalidLot.__init__", "at", s_InvalidLot⟩, ⟨"InvalidPanel", "InvalidPanel.__init__", "at", s_InvalidPanel⟩, ⟨"InvalidPlant", "InvalidPlant.__init__", "at", s_InvalidPlant⟩, ⟨"InvalidLetter", "InvalidLetter.__init__", "at", s_InvalidLetter⟩, ⟨"InvalidMarks", "InvalidMarks.__init__", "at", s_InvalidMarks⟩, ⟨"InvalidReadings", "InvalidReadings.__init__", "at", s_InvalidReadings⟩, ⟨"InvalidRoom", "InvalidRoom.__init__", "at", s_InvalidRoom⟩, ⟨"InvalidDeed", "InvalidDeed.__init__", "at", s_InvalidDeed⟩, ⟨"InvalidAsked", "InvalidAsked.__init__", "at", s_InvalidAsked⟩, ⟨"InvalidIndex", "InvalidIndex.__init__", "at", s_InvalidIndex⟩, ⟨"Refused", "Refused.__init__", "at", s_Refused⟩, ⟨"InvalidSize", "InvalidSize.__init__", "word", s_InvalidSize⟩, ⟨"InvalidCommand", "InvalidCommand.__init__", "at", s_InvalidCommand⟩]
def fa : List He.Fa := [.glo "_law_raise_a", .glo "_law_raise_b", .glo "_law_raise_c", .glo "_law_raise_d", .glo "_law_raise", .glo "_law_is_base", .glo "_law_caught_a", .glo "_law_caught_b", .glo "_law_caught_c", .glo "_law_caught_d", .glo "_law_take", .glo "_law_pick", .glo "_law_box", .glo "law", .glo "TwinError", .glo "InvalidText", .glo "InvalidMachine", .glo "InvalidLate", .glo "InvalidWord", .glo "InvalidKind", .glo "InvalidState", .glo "InvalidMap", .glo "InvalidStory", .glo "InvalidMoment", .glo "InvalidPlaces", .glo "InvalidTwin", .glo "InvalidItems", .glo "InvalidPaper", .glo "InvalidLateness", .glo "InvalidGone", .glo "InvalidLot", .glo "InvalidPanel", .glo "InvalidPlant", .glo "InvalidLetter", .glo "InvalidMarks", .glo "InvalidReadings", .glo "InvalidRoom", .glo "InvalidDeed", .glo "InvalidAsked", .glo "InvalidIndex", .glo "Refused", .glo "InvalidSize", .glo "InvalidCommand", .free "abs", .free "int", .free "len", .free "range", .free "repr"]
def ex (_ : PySem.W.Frag) : Bool := true
abbrev R : PySem.W.OpenRow := PySem.W.OpenLaw.row PySem.Challenge.rw_forgetwhen_k00_whole_errors_and_what_the
abbrev file : Str := R.prog.main.file
abbrev hk : PySem.W.Hook := hookN 5 file fa fn er nm ex
def ob (s : PySem.W.SharedT) := obsNG 5 file fa fn er nm ex (HandSHeadRun.getT s)
theorem ob_eq (s : PySem.W.SharedT) : ob s = hk.obs s.abs := obsNG_eq (HandSHeadRun.getT_eq s)
def loose : List Str := [("_law_box" : Str), ("_law_take" : Str), ("_law_pick" : Str), ("_law_raise_a" : Str), ("_law_raise_b" : Str), ("_law_raise_c" : Str), ("_law_raise_d" : Str), ("_law_raise" : Str), ("_law_caught_a" : Str), ("_law_caught_b" : Str), ("_law_caught_c" : Str), ("_law_caught_d" : Str), ("_law_is_base" : Str), ("TwinError" : Str), ("InvalidText" : Str), ("InvalidMachine" : Str), ("InvalidLate" : Str), ("InvalidWord" : Str), ("InvalidKind" : Str), ("InvalidState" : Str), ("InvalidMap" : Str), ("InvalidStory" : Str), ("InvalidMoment" : Str), ("InvalidPlaces" : Str), ("InvalidTwin" : Str), ("InvalidItems" : Str), ("InvalidPaper" : Str), ("InvalidLateness" : Str), ("InvalidGone" : Str), ("InvalidLot" : Str), ("InvalidPanel" : Str), ("InvalidPlant" : Str), ("InvalidLetter" : Str), ("InvalidMarks" : Str), ("InvalidReadings" : Str), ("InvalidRoom" : Str), ("InvalidDeed" : Str), ("InvalidAsked" : Str), ("InvalidIndex" : Str), ("Refused" : Str), ("InvalidSize" : Str), ("InvalidCommand" : Str)]
theorem run (w : World) : HandSHeadRun.RunEq R (PySem.W.view R.prog [44]) hk ob 40000 loose w := by
  intro os
  kernel_rfl
theorem gr {P : Program} {K : PySem.W.Frag} {h : Heap} {mg : Str → Option Value} (X : K.In h) (g : h.Ns mainGlobals mg) (hf : P.main.file = file) (top : (P.main.scope.names.lookup ("super" : Str)).isSome = false) (c : SaysN file fa fn er nm ex K) : Gr P K mg := by
  have glo : ∀ (i : Nat) (x : Str), fa[i]? = some (.glo x) → mg x = some (.ref (He.ga K x)) ∧ PySem.W.nsIn K mainGlobals x = some (some (.ref (He.ga K x))) := fun i x e => ⟨He.glo_ok X g (c.fact _ (List.mem_of_getElem? e)), He.eqO_ok (c.fact _ (List.mem_of_getElem? e))⟩
  have free : ∀ (i : Nat) (x : Str), fa[i]? = some (.free x) → mg x = none := fun i x e => He.free_ok X g (c.fact _ (List.mem_of_getElem? e))
  have num : ∀ (i : Nat) (x : Str) (j : Int), fa[i]? = some (.int x j) → ∃ t, mg x = some (.int j t) := fun i x j e => He.int_ok X g (c.fact _ (List.mem_of_getElem? e))
  have err : ∀ (i : Nat) (e : ErD), er[i]? = some e → InitF e.s e.f → Err P K mg e.x e.f := fun i e h t => err_of X g top c.a (by rw [hf]; exact (c.err i e h).1) (c.err i e h).2 t
  have err0 : ∀ (i : Nat) (e : ErD), er[i]? = some e → Init0 e.s → Err0 P K mg e.x := fun i e h t => err0_of X g top c.a (by rw [hf]; exact (c.err i e h).1) (c.err i e h).2 t
  exact ⟨free 43 _ rfl,
    free 44 _ rfl,
    free 45 _ rfl,
    free 46 _ rfl,
    free 47 _ rfl,
    glo 14 _ rfl,
    glo 15 _ rfl,
    glo 16 _ rfl,
    glo 17 _ rfl,
    glo 18 _ rfl,
    glo 19 _ rfl,
    glo 20 _ rfl,
    glo 21 _ rfl,
    glo 22 _ rfl,
    glo 23 _ rfl,
    glo 24 _ rfl,
    glo 25 _ rfl,
    glo 26 _ rfl,
    glo 27 _ rfl,
    glo 28 _ rfl,
    glo 29 _ rfl,
    glo 30 _ rfl,
    glo 31 _ rfl,
    glo 32 _ rfl,
    glo 33 _ rfl,
    glo 34 _ rfl,
    glo 35 _ rfl,
    glo 36 _ rfl,
    glo 37 _ rfl,
    glo 38 _ rfl,
    glo 39 _ rfl,
    glo 40 _ rfl,
    glo 41 _ rfl,
    glo 42 _ rfl,
    err 0 ⟨_, _, _, _⟩ rfl ⟨_, _, _, _, _, _, _, _, _, _, _, _, _, _, rfl, rfl, rfl, rfl⟩,
    err 1 ⟨_, _, _, _⟩ rfl ⟨_, _, _, _, _, _, _, _, _, _, _, _, _, _, rfl, rfl, rfl, rfl⟩,
    err 2 ⟨_, _, _, _⟩ rfl ⟨_, _, _, _, _, _, _, _, _, _, _, _, _, _, rfl, rfl, rfl, rfl⟩,
    err 3 ⟨_, _, _, _⟩ rfl ⟨_, _, _, _, _, _, _, _, _, _, _, _, _, _, rfl, rfl, rfl, rfl⟩,
    err 4 ⟨_, _, _, _⟩ rfl ⟨_, _, _, _, _, _, _, _, _, _, _, _, _, _, rfl, rfl, rfl, rfl⟩,
    err 5 ⟨_, _, _, _⟩ rfl ⟨_, _, _, _, _, _, _, _, _, _, _, _, _, _, rfl, rfl, rfl, rfl⟩,
    err 6 ⟨_, _, _, _⟩ rfl ⟨_, _, _, _, _, _, _, _, _, _, _, _, _, _, rfl, rfl, rfl, rfl⟩,
    err 7 ⟨_, _, _, _⟩ rfl ⟨_, _, _, _, _, _, _, _, _, _, _, _, _, _, rfl, rfl, rfl, rfl⟩,
    err 8 ⟨_, _, _, _⟩ rfl ⟨_, _, _, _, _, _, _, _, _, _, _, _, _, _, rfl, rfl, rfl, rfl⟩,
    err 9 ⟨_, _, _, _⟩ rfl ⟨_, _, _, _, _, _, _, _, _, _, _, _, _, _, rfl, rfl, rfl, rfl⟩,
    err 10 ⟨_, _, _, _⟩ rfl ⟨_, _, _, _, _, _, _, _, _, _, _, _, _, _, rfl, rfl, rfl, rfl⟩,
    err 11 ⟨_, _, _, _⟩ rfl ⟨_, _, _, _, _, _, _, _, _, _, _, _, _, _, rfl, rfl, rfl, rfl⟩,
    err 12 ⟨_, _, _, _⟩ rfl ⟨_, _, _, _, _, _, _, _, _, _, _, _, _, _, rfl, rfl, rfl, rfl⟩,
    err 13 ⟨_, _, _, _⟩ rfl ⟨_, _, _, _, _, _, _, _, _, _, _, _, _, _, rfl, rfl, rfl, rfl⟩,
    err 14 ⟨_, _, _, _⟩ rfl ⟨_, _, _, _, _, _, _, _, _, _, _, _, _, _, rfl, rfl, rfl, rfl⟩,
    err 15 ⟨_, _, _, _⟩ rfl ⟨_, _, _, _, _, _, _, _, _, _, _, _, _, _, rfl, rfl, rfl, rfl⟩,
    err 16 ⟨_, _, _, _⟩ rfl ⟨_, _, _, _, _, _, _, _, _, _, _, _, _, _, rfl, rfl, rfl, rfl⟩,
    err 17 ⟨_, _, _, _⟩ rfl ⟨_, _, _, _, _, _, _, _, _, _, _, _, _, _, rfl, rfl, rfl, rfl⟩,
    err 18 ⟨_, _, _, _⟩ rfl ⟨_, _, _, _, _, _, _, _, _, _, _, _, _, _, rfl, rfl, rfl, rfl⟩,
    err 19 ⟨_, _, _, _⟩ rfl ⟨_, _, _, _, _, _, _, _, _, _, _, _, _, _, rfl, rfl, rfl, rfl⟩,
    err 20 ⟨_, _, _, _⟩ rfl ⟨_, _, _, _, _, _, _, _, _, _, _, _, _, _, rfl, rfl, rfl, rfl⟩,
    err 21 ⟨_, _, _, _⟩ rfl ⟨_, _, _, _, _, _, _, _, _, _, _, _, _, _, rfl, rfl, rfl, rfl⟩,
    err 22 ⟨_, _, _, _⟩ rfl ⟨_, _, _, _, _, _, _, _, _, _, _, _, _, _, rfl, rfl, rfl, rfl⟩,
    err 23 ⟨_, _, _, _⟩ rfl ⟨_, _, _, _, _, _, _, _, _, _, _, _, _, _, rfl, rfl, rfl, rfl⟩,
    err 24 ⟨_, _, _, _⟩ rfl ⟨_, _, _, _, _, _, _, _, _, _, _, _, _, _, rfl, rfl, rfl, rfl⟩,
    err 25 ⟨_, _, _, _⟩ rfl ⟨_, _, _, _, _, _, _, _, _, _, _, _, _, _, rfl, rfl, rfl, rfl⟩,
    err 26 ⟨_, _, _, _⟩ rfl ⟨_, _, _, _, _, _, _, _, _, _, _, _, _, _, rfl, rfl, rfl, rfl⟩,
    err0 27 ⟨_, _, _, _⟩ rfl ⟨_, _, _, _, _, _, _, _, _, rfl, rfl, rfl, rfl⟩,
    c.errs⟩
theorem facts {P : Program} {w : World} {K : PySem.W.Frag} {h : Heap} {mg : Str → Option Value} {fl : Addr} (X : K.In h) (g : h.Ns mainGlobals mg) (hf : P.main.file = file) (top : (P.main.scope.names.lookup ("super" : Str)).isSome = false) (c : SaysN file fa fn er nm ex K) (hl : mg ("law" : Str) = some (.ref fl)) :
    ∃ fd : FuncData, (∀ (s : Shared) (v : Value), BindsTo s fd ⟨[v], []⟩ [("_law_script", v)]) ∧ ∀ base : Heap, K.In base → base.Ns mainGlobals mg → FnG P w K mg base (L2.CX P w) 8 fl fd ["_law_script"] (spOf K 1 F_law) := by
  have G := gr (P := P) X g hf top c
  have glo : ∀ (i : Nat) (x : Str), fa[i]? = some (.glo x) → mg x = some (.ref (He.ga K x)) := fun i x e => He.glo_ok X g (c.fact _ (List.mem_of_getElem? e))
  obtain ⟨fd_law_raise_a, D_law_raise_a⟩ := c.def_ 0 d_law_raise_a rfl
  obtain ⟨fd_law_raise_b, D_law_raise_b⟩ := c.def_ 1 d_law_raise_b rfl
  obtain ⟨fd_law_raise_c, D_law_raise_c⟩ := c.def_ 2 d_law_raise_c rfl
  obtain ⟨fd_law_raise_d, D_law_raise_d⟩ := c.def_ 3 d_law_raise_d rfl
  obtain ⟨fd_law_raise, D_law_raise⟩ := c.def_ 4 d_law_raise rfl
  obtain ⟨fd_law_is_base, D_law_is_base⟩ := c.def_ 5 d_law_is_base rfl
  obtain ⟨fd_law_caught_a, D_law_caught_a⟩ := c.def_ 6 d_law_caught_a rfl
  obtain ⟨fd_law_caught_b, D_law_caught_b⟩ := c.def_ 7 d_law_caught_b rfl
  obtain ⟨fd_law_caught_c, D_law_caught_c⟩ := c.def_ 8 d_law_caught_c rfl
  obtain ⟨fd_law_caught_d, D_law_caught_d⟩ := c.def_ 9 d_law_caught_d rfl
  obtain ⟨fd_law_take, D_law_take⟩ := c.def_ 10 d_law_take rfl
  obtain ⟨fd_law_pick, D_law_pick⟩ := c.def_ 11 d_law_pick rfl
  obtain ⟨fd_law_box, D_law_box⟩ := c.def_ 12 d_law_box rfl
  obtain ⟨fd_law, D_law⟩ := c.def_ 13 d_law rfl
  have hlaw := glo 13 _ rfl
  have el := hl.symm.trans hlaw
  cases el
  refine ⟨fd_law, fun s v => D_law.bindsA (ps := ["_law_script"]) (fun _ _ _ _ _ _ us hl => match us, hl with | [_], _ => rfl) s [v] rfl, fun base _ _ => ?_⟩
  have c_law_raise_a : Cal P w K mg base 2 "_law_raise_a" 2 F_law_raise_a := cal_mk (st := s_law_raise_a) D_law_raise_a (glo 0 _ rfl) sc_law_raise_a (by decide) (fun _ _ _ _ _ _ us hl => match us, hl with | [_, _], _ => rfl) (fun cdv A outer s H E hr => der_law_raise_a G  _ cdv A outer s H E hr)
  have c_law_raise_b : Cal P w K mg base 2 "_law_raise_b" 2 F_law_raise_b := cal_mk (st := s_law_raise_b) D_law_raise_b (glo 1 _ rfl) sc_law_raise_b (by decide) (fun _ _ _ _ _ _ us hl => match us, hl with | [_, _], _ => rfl) (fun cdv A outer s H E hr => der_law_raise_b G  _ cdv A outer s H E hr)
  have c_law_raise_c : Cal P w K mg base 2 "_law_raise_c" 2 F_law_raise_c := cal_mk (st := s_law_raise_c) D_law_raise_c (glo 2 _ rfl) sc_law_raise_c (by decide) (fun _ _ _ _ _ _ us hl => match us, hl with | [_, _], _ => rfl) (fun cdv A outer s H E hr => der_law_raise_c G  _ cdv A outer s H E hr)
  have c_law_raise_d : Cal P w K mg base 2 "_law_raise_d" 2 F_law_raise_d := cal_mk (st := s_law_raise_d) D_law_raise_d (glo 3 _ rfl) sc_law_raise_d (by decide) (fun _ _ _ _ _ _ us hl => match us, hl with | [_, _], _ => rfl) (fun cdv A outer s H E hr => der_law_raise_d G  _ cdv A outer s H E hr)
  have c_law_raise : Cal P w K mg base 3 "_law_raise" 2 F_law_raise := cal_mk (st := s_law_raise) D_law_raise (glo 4 _ rfl) sc_law_raise (by decide) (fun _ _ _ _ _ _ us hl => match us, hl with | [_, _], _ => rfl) (fun cdv A outer s H E hr => der_law_raise G c_law_raise_a c_law_raise_b c_law_raise_c c_law_raise_d _ cdv A outer s H E hr)
  have c_law_is_base : Cal P w K mg base 4 "_law_is_base" 2 F_law_is_base := cal_mk (st := s_law_is_base) D_law_is_base (glo 5 _ rfl) sc_law_is_base (by decide) (fun _ _ _ _ _ _ us hl => match us, hl with | [_, _], _ => rfl) (fun cdv A outer s H E hr => der_law_is_base G c_law_raise _ cdv A outer s H E hr)
  have c_law_caught_a : Cal P w K mg base 4 "_law_caught_a" 2 F_law_caught_a := cal_mk (st := s_law_caught_a) D_law_caught_a (glo 6 _ rfl) sc_law_caught_a (by decide) (fun _ _ _ _ _ _ us hl => match us, hl with | [_, _], _ => rfl) (fun cdv A outer s H E hr => der_law_caught_a G c_law_raise _ cdv A outer s H E hr)
  have c_law_caught_b : Cal P w K mg base 5 "_law_caught_b" 2 F_law_caught_b := cal_mk (st := s_law_caught_b) D_law_caught_b (glo 7 _ rfl) sc_law_caught_b (by decide) (fun _ _ _ _ _ _ us hl => match us, hl with | [_, _], _ => rfl) (fun cdv A outer s H E hr => der_law_caught_b G c_law_caught_a _ cdv A outer s H E hr)
  have c_law_caught_c : Cal P w K mg base 6 "_law_caught_c" 2 F_law_caught_c := cal_mk (st := s_law_caught_c) D_law_caught_c (glo 8 _ rfl) sc_law_caught_c (by decide) (fun _ _ _ _ _ _ us hl => match us, hl with | [_, _], _ => rfl) (fun cdv A outer s H E hr => der_law_caught_c G c_law_caught_b _ cdv A outer s H E hr)
  have c_law_caught_d : Cal P w K mg base 7 "_law_caught_d" 2 F_law_caught_d := cal_mk (st := s_law_caught_d) D_law_caught_d (glo 9 _ rfl) sc_law_caught_d (by decide) (fun _ _ _ _ _ _ us hl => match us, hl with | [_, _], _ => rfl) (fun cdv A outer s H E hr => der_law_caught_d G c_law_caught_c _ cdv A outer s H E hr)
  have c_law_take : Cal P w K mg base 1 "_law_take" 2 F_law_take := cal_mk (st := s_law_take) D_law_take (glo 10 _ rfl) sc_law_take (by decide) (fun _ _ _ _ _ _ us hl => match us, hl with | [_, _], _ => rfl) (fun cdv A outer s H E hr => der_law_take G  _ cdv A outer s H E hr)
  have c_law_pick : Cal P w K mg base 2 "_law_pick" 2 F_law_pick := cal_mk (st := s_law_pick) D_law_pick (glo 11 _ rfl) sc_law_pick (by decide) (fun _ _ _ _ _ _ us hl => match us, hl with | [_, _], _ => rfl) (fun cdv A outer s H E hr => der_law_pick G c_law_take _ cdv A outer s H E hr)
  have c_law_box : Cal P w K mg base 1 "_law_box" 2 F_law_box := cal_mk (st := s_law_box) D_law_box (glo 12 _ rfl) sc_law_box (by decide) (fun _ _ _ _ _ _ us hl => match us, hl with | [_, _], _ => rfl) (fun cdv A outer s H E hr => der_law_box G  _ cdv A outer s H E hr)
  exact fn_data D_law sc_law (by decide) (fun cdv A outer s H E hr => der_law G c_law_is_base c_law_caught_d c_law_pick c_law_box _ cdv A outer s H E hr)

/-! ### the source of draws -/
/-- a box: three numbers, none below 0 -/
def BoxOk (l : List D) : Prop := ∃ a b c : Int, l = [.int a, .int b, .int c] ∧ 0 ≤ a ∧ 0 ≤ b ∧ 0 ≤ c
theorem take_great {μ : Mu} {i : Nat} {a b c n : Int} (h : μ[i]? = some [.int a, .int b, .int c]) (ha : 0 < a) (hn : 0 < n) (hn2 : n < 1073741824) :
    F_law_take [.cell i, .int n] μ = .ok (.int (a % n)) (μ.set i [.int (a / n), .int b, .int c]) := by
  have hc : cMod a n = true := by simp [cMod, hn]
  have hd : cDiv a n = true := by simp [cDiv, hn, hn2]
  simp [F_law_take, mFn, m_law_take, env0, sNx, sSeq, sIf, sSet, setE, sRet, sPut, cellPut, mTest, mOp, mUn, mApp, mCons, mNil, mC, mVal, isB, fI, fB, fIx, fInt, seqOf, h, L2.atI, L2.ixN, ha, hc, hd, SOut.out]
/-- what is drawn of numbers that are mixed -/
def mixR (b c : Int) : Int := ((b + 70207 * (c + 1)) * 61027 + 373) % 2147483563
def mixB (b c : Int) : Int := (mixR b c * 39079 + 21089) % 2147483629 + 1
theorem take_mixed {μ : Mu} {i : Nat} {b c n : Int} (h : μ[i]? = some [.int 0, .int b, .int c]) (hn : 0 < n) :
    F_law_take [.cell i, .int n] μ = .ok (.int ((mixR b c * 2147483647 + mixB b c) / 8191 % n)) (μ.set i [.int 0, .int (mixB b c), .int (c + 1)]) := by
  have hc : ∀ a : Int, cMod a n = true := fun a => by simp [cMod, hn]
  have hi : i < μ.length := (List.getElem?_eq_some_iff.mp h).1
  have g1 : ∀ l, (μ.set i l)[i]? = some l := fun l => List.getElem?_set_self hi
  have g2 : ∀ l l', (μ.set i l).set i l' = μ.set i l' := fun l l' => List.set_set ..
  have e1 : cMod ((b + 70207 * (c + 1)) * 61027 + 373) 2147483563 = true := rfl
  have e2 : ∀ x, cMod x 2147483629 = true := fun _ => rfl
  have e3 : ∀ x, cDiv x 8191 = true := fun _ => rfl
  have m1 : ∀ x, cMul x 61027 = true := fun x => by simp [cMul, lt64]
  have m2 : ∀ x, cMul 70207 x = true := fun x => by simp [cMul, lt64]
  have m3 : ∀ x, cMul x 39079 = true := fun x => by simp [cMul, lt64]
  have m4 : ∀ x, cMul x 2147483647 = true := fun x => by simp [cMul, lt64]
  simp [F_law_take, mFn, m_law_take, env0, sNx, sSeq, sIf, sSet, setE, sRet, sPut, cellPut, mTest, mOp, mUn, mApp, mCons, mNil, mC, mVal, isB, fI, fB, fIx, fInt, fAdd, seqOf, h, L2.atI, L2.ixN, hc, e1, e2, e3, m1, m2, m3, m4, g1, g2, SOut.out, mixR, mixB]
theorem take_ok {μ : Mu} {i : Nat} {l : List D} {n : Int} (h : μ[i]? = some l) (b : BoxOk l) (hn : 0 < n) (hn2 : n < 1073741824) :
    ∃ (r : Int) (l' : List D), F_law_take [.cell i, .int n] μ = .ok (.int r) (μ.set i l') ∧ BoxOk l' ∧ 0 ≤ r ∧ r < n := by
  obtain ⟨a, b, c, rfl, h1, h2, h3⟩ := b
  by_cases ha : 0 < a
  · exact ⟨_, _, take_great h ha hn hn2, ⟨_, _, _, rfl, Int.ediv_nonneg h1 (by omega), h2, h3⟩, Int.emod_nonneg _ (by omega), Int.emod_lt_of_pos _ hn⟩
  · have e : a = 0 := by omega
    subst e
    have q1 : 0 ≤ mixB b c := by
      unfold mixB
      have := Int.emod_nonneg (mixR b c * 39079 + 21089) (b := 2147483629) (by omega)
      omega
    exact ⟨_, _, take_mixed h hn, ⟨_, _, _, rfl, by omega, q1, by omega⟩, Int.emod_nonneg _ (by omega), Int.emod_lt_of_pos _ hn⟩
/-- one of some things -/
theorem pick_ok {μ : Mu} {i : Nat} {l s : List D} {d : D} (h : μ[i]? = some l) (b : BoxOk l) (e : ∀ l', seqOf (μ.set i l') d = some s) (e0 : seqOf μ d = some s) (hs : s ≠ []) (hs2 : s.length < 1073741824) :
    ∃ (x : D) (l' : List D), F_law_pick [.cell i, d] μ = .ok x (μ.set i l') ∧ BoxOk l' ∧ x ∈ s := by
  have pos : 0 < s.length := List.length_pos_iff.mpr hs
  obtain ⟨r, l', e1, b1, r0, r1⟩ := take_ok (n := (s.length : Int)) h b (by omega) (by omega)
  have hlt : r.toNat < s.length := by omega
  have e2 : fLen [d] μ = .ok (.int s.length) μ := by
    unfold fLen
    cases d with
    | str x => cases e0
    | _ => simp [e0]
  have e3 : L2.atI s r = some s[r.toNat] := by
    unfold L2.atI L2.ixN
    rw [if_pos r0, if_pos r1]
    simp [hlt]
  refine ⟨s[r.toNat], l', ?_, b1, List.getElem_mem _⟩
  simp [F_law_pick, mFn, m_law_pick, env0, sRet, mOp, mApp, mCons, mNil, mC, mVal, mCall, e2, e1, fIx, e l', e3, SOut.out]
/-- the box made of a number v -/
def boxA (v : Int) : Int := if 10 ^ 18 ≤ v then v else 0
def boxB (v k : Int) : Int := (v % 2147483629 * 44203 + 51203 * k) % 2147483629 + 1
theorem box_tail {ns : List Int} {k v : Int} {μ : Mu} (hk : lt64 k = true) (hv : 0 ≤ v) :
    (sRet (mCell (mCons (mOp fIx (mApp fLst (mCons (mC (.int 0)) (mCons (mVal 2) mNil))) (mApp fInt (mCons (mOp fGe (mVal 2) (mOp fPow (mC (.int 10)) (mC (.int 18)))) mNil)))
      (mCons (mOp fAdd (mOp fMod (mApp fInt (mCons (mOp fAdd (mOp (fI cMul fun i j => i * j) (mOp fMod (mApp fInt (mCons (mVal 2) mNil)) (mC (.int 2147483629))) (mC (.int 44203)))
        (mOp (fI cMul fun i j => i * j) (mC (.int 51203)) (mVal 1))) mNil)) (mC (.int 2147483629))) (mC (.int 1))) (mCons (mC (.int 0)) mNil)))))
      [some (.val (.scr ns)), some (.val (.int k)), some (.val (.int v))] μ = .rt (.cell μ.length) (μ ++ [[.int (boxA v), .int (boxB v k), .int 0]]) := by
  have m1 : ∀ x, cMul x 44203 = true := fun x => by simp [cMul, lt64]
  have m2 : ∀ x, cMul 51203 x = true := fun x => by simp [cMul, lt64]
  have e2 : ∀ x, cMod x 2147483629 = true := fun _ => rfl
  have p1 : cPow 10 18 = true := by decide
  have l1 : line 2 = true := by decide
  have l2 : line 3 = true := by decide
  by_cases h : (10 : Int) ^ 18 ≤ v
  · have h' : (1000000000000000000 : Int) ≤ v := h
    simp [sRet, mCell, mCons, mOp, mApp, mNil, mC, mVal, fIx, fLst, fInt, fB, fI, fAdd, seqOf, L2.atI, L2.ixN, m1, m2, e2, p1, l1, l2, boxA, boxB, h']
  · have h' : ¬ (1000000000000000000 : Int) ≤ v := h
    simp [sRet, mCell, mCons, mOp, mApp, mNil, mC, mVal, fIx, fLst, fInt, fB, fI, fAdd, seqOf, L2.atI, L2.ixN, m1, m2, e2, p1, l1, l2, boxA, boxB, h']
theorem box_ok {ns : List Int} {k : Int} (hk : 0 ≤ k) (hk2 : k < 1000) (μ : Mu) : ∃ l, F_law_box [.scr ns, .int k] μ = .ok (.cell μ.length) (μ ++ [l]) ∧ BoxOk l := by
  have k64 : lt64 k = true := by simp [lt64]; omega
  have fin : ∀ v : Int, 0 ≤ v → BoxOk [.int (boxA v), .int (boxB v k), .int 0] := by
    intro v hv
    refine ⟨_, _, _, rfl, ?_, ?_, by omega⟩
    · unfold boxA; split <;> omega
    · unfold boxB
      have := Int.emod_nonneg (v % 2147483629 * 44203 + 51203 * k) (b := 2147483629) (by omega)
      omega
  have m0 : ∀ x, cMul 6173 x = true := fun x => by simp [cMul, lt64]
  have e0 : fLen [D.scr ns] μ = .ok (.int ns.length) μ := by simp [fLen, seqOf]
  have base : 0 ≤ 6173 * k + 373 := by omega
  by_cases h1 : k < (ns.length : Int)
  · have hlt : k.toNat < ns.length := by omega
    have ix : L2.atI (ns.map D.int) k = some (.int ns[k.toNat]) := by
      unfold L2.atI L2.ixN
      rw [List.length_map, if_pos hk, if_pos h1]
      simp [hlt]
    have nn : 0 ≤ (if ns[k.toNat] < 0 then -ns[k.toNat] else ns[k.toNat]) := by split <;> omega
    refine ⟨_, ?_, fin _ nn⟩
    have t := box_tail (ns := ns) (μ := μ) k64 nn
    simp [F_law_box, mFn, m_law_box, env0, sNx, sSeq, sIf, sSet, setE, mTest, mOp, mApp, mCons, mNil, mC, mVal, isB, fI, fB, fAdd, m0, e0, h1, fIx, seqOf, ix, fAbs, SOut.out] at t ⊢
    rw [t]
  · by_cases h2 : 0 < ns.length
    · have h2' : (0 : Int) < (ns.length : Int) := by omega
      have r0 := Int.emod_nonneg k (b := (ns.length : Int)) (by omega)
      have r1 := Int.emod_lt_of_pos k h2'
      have hlt : (k % (ns.length : Int)).toNat < ns.length := by omega
      have ix : L2.atI (ns.map D.int) (k % (ns.length : Int)) = some (.int ns[(k % (ns.length : Int)).toNat]) := by
        unfold L2.atI L2.ixN
        rw [List.length_map, if_pos r0, if_pos r1]
        simp [hlt]
      have cm : cMod k (ns.length : Int) = true := by simp [cMod]; omega
      have m1 : ∀ x, cMul x 70201 = true := fun x => by simp [cMul, lt64]
      have e2 : ∀ x, cMod x 2147483629 = true := fun _ => rfl
      have nn : 0 ≤ 6173 * k + 373 + (if ns[(k % (ns.length : Int)).toNat] < 0 then -ns[(k % (ns.length : Int)).toNat] else ns[(k % (ns.length : Int)).toNat]) % 2147483629 * 70201 := by
        have := Int.emod_nonneg (if ns[(k % (ns.length : Int)).toNat] < 0 then -ns[(k % (ns.length : Int)).toNat] else ns[(k % (ns.length : Int)).toNat]) (b := 2147483629) (by omega)
        omega
      refine ⟨_, ?_, fin _ nn⟩
      have t := box_tail (ns := ns) (μ := μ) k64 nn
      simp [F_law_box, mFn, m_law_box, env0, sNx, sSeq, sIf, sSet, setE, mTest, mOp, mApp, mCons, mNil, mC, mVal, isB, fI, fB, fAdd, m0, e0, h1, h2, fIx, seqOf, ix, fAbs, fInt, cm, m1, e2, SOut.out] at t ⊢
      rw [t]
    · have h3 : ns = [] := by
        cases ns with
        | nil => rfl
        | cons _ _ => simp at h2
      subst h3
      refine ⟨_, ?_, fin _ base⟩
      have t := box_tail (ns := []) (μ := μ) k64 base
      have h4 : ¬ k < 0 := by omega
      simp [F_law_box, mFn, m_law_box, env0, sNx, sSeq, sIf, sSet, setE, mTest, mOp, mApp, mCons, mNil, mC, mVal, isB, fI, fB, fAdd, m0, e0, h4, SOut.out] at t ⊢
      rw [t]

/-! ### the plain law -/
def things : List D := [.int 0, .int (-1), .non, .str "words", .tup [.int 1, .int 2], .lst [.int 3], .bl true, .int 7]
theorem caught (n : Nat) (h : n < 28) (t : D) (μ : Mu) : F_law_caught_d [.int n, t] μ = .ok (.tup [.int n, t]) μ := match n, h with
  | 0, _ => by kernel_rfl
  | 1, _ => by kernel_rfl
  | 2, _ => by kernel_rfl
  | 3, _ => by kernel_rfl
  | 4, _ => by kernel_rfl
  | 5, _ => by kernel_rfl
  | 6, _ => by kernel_rfl
  | 7, _ => by kernel_rfl
  | 8, _ => by kernel_rfl
  | 9, _ => by kernel_rfl
  | 10, _ => by kernel_rfl
  | 11, _ => by kernel_rfl
  | 12, _ => by kernel_rfl
  | 13, _ => by kernel_rfl
  | 14, _ => by kernel_rfl
  | 15, _ => by kernel_rfl
  | 16, _ => by kernel_rfl
  | 17, _ => by kernel_rfl
  | 18, _ => by kernel_rfl
  | 19, _ => by kernel_rfl
  | 20, _ => by kernel_rfl
  | 21, _ => by kernel_rfl
  | 22, _ => by kernel_rfl
  | 23, _ => by kernel_rfl
  | 24, _ => by kernel_rfl
  | 25, _ => by kernel_rfl
  | 26, _ => by kernel_rfl
  | 27, _ => by kernel_rfl
  | n + 28, h => absurd h (by omega)
theorem is_base (n : Nat) (h : n < 28) (t : D) (μ : Mu) : F_law_is_base [.int n, t] μ = .ok (.bl true) μ := match n, h with
  | 0, _ => by kernel_rfl
  | 1, _ => by kernel_rfl
  | 2, _ => by kernel_rfl
  | 3, _ => by kernel_rfl
  | 4, _ => by kernel_rfl
  | 5, _ => by kernel_rfl
  | 6, _ => by kernel_rfl
  | 7, _ => by kernel_rfl
  | 8, _ => by kernel_rfl
  | 9, _ => by kernel_rfl
  | 10, _ => by kernel_rfl
  | 11, _ => by kernel_rfl
  | 12, _ => by kernel_rfl
  | 13, _ => by kernel_rfl
  | 14, _ => by kernel_rfl
  | 15, _ => by kernel_rfl
  | 16, _ => by kernel_rfl
  | 17, _ => by kernel_rfl
  | 18, _ => by kernel_rfl
  | 19, _ => by kernel_rfl
  | 20, _ => by kernel_rfl
  | 21, _ => by kernel_rfl
  | 22, _ => by kernel_rfl
  | 23, _ => by kernel_rfl
  | 24, _ => by kernel_rfl
  | 25, _ => by kernel_rfl
  | 26, _ => by kernel_rfl
  | 27, _ => by kernel_rfl
  | n + 28, h => absurd h (by omega)
theorem fits : ((List.range 28).all fun n => things.all fun t => (D.tup [.int n, t]).fit) = true := by decide +kernel
theorem shows (n : Nat) (h : n < 28) (t : D) (ht : t ∈ things) (μ : Mu) : fRepr [.tup [.int n, t]] μ = .ok (.str (D.tup [.int n, t]).pd.shown) μ := by
  have h1 := List.all_eq_true.mp (List.all_eq_true.mp fits n (List.mem_range.mpr h)) t ht
  show (if (D.tup [.int n, t]).fit = true then Out.ok (D.str (D.tup [.int n, t]).pd.shown) μ else .stuck) = _
  rw [if_pos h1]
theorem sound : ((List.range 28).all fun n => things.all fun t => PyData.strOk (D.tup [.int n, t]).pd.shown) = true := by decide +kernel
theorem ne_same (s : Str) (hs : PyData.strOk s = true) (μ : Mu) : fNe (.str s) (.str s) μ = .ok (.bl false) μ := by
  have e : PyData.eqv (.str s) (.str s) = true := by simp [PyData.eqv]
  show (if SeqAt.shaped (.str s) = true ∧ SeqAt.shaped (.str s) = true then Out.ok (D.bl (!PyData.eqv (.str s) (.str s))) μ else .stuck) = _
  have e2 : SeqAt.shaped (.str s) = true := by simp [SeqAt.shaped, PyData.canLay0, PyData.depth, hs]
  rw [if_pos ⟨e2, e2⟩, e]
  rfl
theorem forL_inv {tg : TgD} {m : SS} {I : DL.Env → Mu → Prop} : ∀ (l : List D) (ρ : DL.Env) (μ : Mu), I ρ μ → (∀ d ∈ l, ∀ ρ μ, I ρ μ → ∃ ρ1 ρ2 μ2, tg d ρ = some ρ1 ∧ m ρ1 μ = .nx ρ2 μ2 ∧ I ρ2 μ2) → ∃ ρ' μ', forL tg m l ρ μ = .nx ρ' μ' ∧ I ρ' μ'
  | [], ρ, μ, h, _ => ⟨ρ, μ, rfl, h⟩
  | d :: r, ρ, μ, h, hs => by
    obtain ⟨ρ1, ρ2, μ2, e1, e2, h2⟩ := hs d List.mem_cons_self ρ μ h
    obtain ⟨ρ', μ', e3, h3⟩ := forL_inv r ρ2 μ2 h2 fun x hx => hs x (List.mem_cons_of_mem _ hx)
    refine ⟨ρ', μ', ?_, h3⟩
    unfold forL
    rw [e1]
    simp only [e2]
    exact e3
def Inv0 (ns : List Int) (ρ : DL.Env) (μ : Mu) : Prop := ∃ (x y z : Option Slot) (l : List D), ρ = [some (.val (.scr ns)), some (.val (.cell 0)), x, y, z] ∧ μ = [l] ∧ BoxOk l
theorem law_true (ns : List Int) (_ : ns.length ≤ 63) (_ : ∀ z ∈ ns, Builtin.Int.intBits z ≤ 1048576) : ∃ m, F_law [.scr ns] [] = .ok (.bl true) m := by
  obtain ⟨l0, e0, b0⟩ := box_ok (ns := ns) (k := 0) (by omega) (by omega) []
  have l1 : line 8 = true := by decide
  have l2 : line 2 = true := by decide
  have l3 : line 1 = true := by decide
  have l4 : line 4 = true := by decide
  have r28 : in62 28 = true := by decide
  have step : ∀ d ∈ rngL 0 28, ∀ ρ μ, Inv0 ns ρ μ → ∃ ρ1 ρ2 μ2, tgName 2 d ρ = some ρ1 ∧ (sSeq (sSet 4 (mCall 2 F_law_pick (mCons (mVal 1) (mCons (mApp fLst (mCons (mC (.int 0)) (mCons (mUn fNeg (mC (.int 1))) (mCons (mC .non) (mCons (mC (.str "words")) (mCons (mApp fTup (mCons (mC (.int 1)) (mCons (mC (.int 2)) mNil))) (mCons (mApp fLst (mCons (mC (.int 3)) mNil)) (mCons (mC (.bl true)) (mCons (mC (.int 7)) mNil))))))))) mNil))))
 (sIf (mOr (mTest (mOp fNe (mApp fRepr (mCons (mCall 2 F_law_caught_d (mCons (mVal 2) (mCons (mVal 4) mNil))) mNil)) (mApp fRepr (mCons (mApp fTup (mCons (mVal 2) (mCons (mVal 4) mNil))) mNil)))) (mNot (mTest (mCall 2 F_law_is_base (mCons (mVal 2) (mCons (mVal 4) mNil))))))
 (sRet (mC (.bl false)))
 sNx)) ρ1 μ = .nx ρ2 μ2 ∧ Inv0 ns ρ2 μ2 := by
    rintro d hd ρ μ ⟨x, y, z, l, rfl, rfl, b⟩
    obtain ⟨n, hn, rfl⟩ := List.mem_map.mp hd
    have hn := List.mem_range.mp hn
    have en : D.int (0 + (n : Int)) = D.int n := by rw [Int.zero_add]
    obtain ⟨t, l', ep, b', ht⟩ := pick_ok (μ := [l]) (i := 0) (l := l) (s := things) (d := .lst things) rfl b (fun _ => rfl) rfl (by simp [things]) (by simp [things])
    unfold things at ep
    refine ⟨_, [some (.val (.scr ns)), some (.val (.cell 0)), some (.val (.int n)), y, some (.val t)], [l'], rfl, ?_, ⟨_, _, _, _, rfl, rfl, b'⟩⟩
    rw [en]
    have hs := List.all_eq_true.mp (List.all_eq_true.mp sound n (List.mem_range.mpr hn)) t ht
    simp [sSeq, sSet, setE, sIf, mCall, mCons, mNil, mVal, mApp, mC, mUn, fNeg, fLst, fTup, l1, l2, l3, ep, mOr, mTest, mOp, mNot, caught n hn, is_base n hn, shows n hn t ht, ne_same _ hs, isB, sNx]
  obtain ⟨ρ', μ', e1, x, y, z, l, rfl, rfl, b⟩ := forL_inv (rngL 0 28) [some (.val (.scr ns)), some (.val (.cell 0)), none, none, none] [l0] ⟨_, _, _, _, rfl, rfl, b0⟩ step
  refine ⟨[l], ?_⟩
  have e5 : fEq (.tup [.int (-1), .int 3, .str "x", .str "right"]) (.tup [.int (-1), .int 3, .str "x", .str "right"]) [l] = .ok (.bl true) [l] := by kernel_rfl
  simp [F_law, mFn, m_law, env0, sSeq, sSet, setE, sFor, mRng, fRng1, r28, mCall, mCons, mNil, mVal, mApp, mC, mUn, mOp, fNeg, fTup, l4, sRet, e0, e1, e5, SOut.out]

end W
open PySem PySem.W PySem.Calls PyProof.Rows
theorem PySem.Challenge.cw_forgetwhen_k00_whole_errors_and_what_the_holds : PySem.Challenge.rw_forgetwhen_k00_whole_errors_and_what_the.Holds := by
  w_on; o_law
  refine HandSHeadRun.head_any (r := OpenLaw.row PySem.Challenge.rw_forgetwhen_k00_whole_errors_and_what_the) (q := view (OpenLaw.row PySem.Challenge.rw_forgetwhen_k00_whole_errors_and_what_the).prog [44]) (H := W.hk) (ob := W.ob) (M := 40000) (loose := W.loose) (d := HandSHeadRun.topDef (OpenLaw.row PySem.Challenge.rw_forgetwhen_k00_whole_errors_and_what_the).prog 44) (kwd := []) W.ob_eq
    (by kernel_rfl) (fun s => by kernel_rfl) W.run (by kernel_rfl) (by kernel_rfl) (by kernel_rfl) (by rfl) (by first | assumption | decide +kernel) (by decide +kernel) ⟨rfl, rfl, rfl, rfl, rfl, by decide +kernel⟩ ?hw ?hc
  case hw => w_witness2
  case hc =>
    refine DL.walkG_ofE (l := PySem.Challenge.rw_forgetwhen_k00_whole_errors_and_what_the) (n := 63) (k := 8) (x := "_law_script") rfl (by decide) (by kernel_rfl) (DL.rm_caller.mono (by decide)) ?F
    intro w mg fa h Y G hmg0
    obtain ⟨K, KX, c⟩ := Y
    have hmg : mg ("law" : PySem.Str) = some (.ref fa) := by
      have e : (HandSHeadRun.topDef (OpenLaw.row PySem.Challenge.rw_forgetwhen_k00_whole_errors_and_what_the).prog 44).name = ("law" : PySem.Str) := by kernel_rfl
      rw [← e]
      exact hmg0
    obtain ⟨fd, hb, hF⟩ := W.facts (P := (PySem.Challenge.rw_forgetwhen_k00_whole_errors_and_what_the).prog) (w := w) KX G rfl (by decide +kernel) c hmg
    exact ⟨K, fd, _, KX, hb, DL.law_sp W.law_true, hF⟩

