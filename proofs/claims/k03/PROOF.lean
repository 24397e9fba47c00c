import PyProof.Rows.All
import HandS.Head0
import HandS.Head1
import HandS.Head2
import HandS.HeadEnd
import Wide.All
import OpenK.AllK
import Wide.FinOn
import KE.KStateDown
import Lean
import HandS.ForMost
import HandS.More
import HandS.Exc
import HandS.ExcOwn
import HandS.TryOnly
import HandS.TryMany
import HandS.WordsExc
import HandS.Defaults
import HandS.Nested
import HandS.Deep
import HandS.IsInst
import HandS.TupAny
import HandS.TupMul
import HandS.Conv
import HandS.Wide
import HandS.Ends
import HandS.EndBits
import KE.KExcSuper
import KE.KSuper
import KE.KExcInit
import HandS.HeadHook1
import HandS.HeadHook2
import HandS.HeadHook4
import PyProof.EnumMake
import PyProof.Draws
import KE.GoesMore
import HandS.SortInts
import HandS.Style
import HandS.Iter
import HandS.Zip
import HandS.EndTab
import HandS.Dict
import HandS.TupLen
import KE.DatumOrd
import HandS.DictComp
import KE.GoesZip
import HandS.TupLe
import PySem.Challenge.RW_forgetwhen_k03_whole_least_machines
set_option Elab.async false
set_option linter.all false
set_option maxRecDepth 100000
set_option maxHeartbeats 4000000
/-! # DL: a layer of plain data over the hand layer. Values of a run are told as data D; what an expression does is a plain Lean function of the frame's data; each rule of the hand layer is shown to bear it. -/
namespace DL
open PySem PySem.Spec L2
open PyProof.Rows hiding St
/-- a lambda as the text has it -/
structure LText where
  params : Arguments
  body : Expr
  scope : Scope
  qual : Str
/-- the texts of lambdas -/
class HasL where
  lt : Nat → LText
/-- what is fixed for a run: the tables of code objects that are good -/
structure Cst where
  tb : List (Addr × Str)
class HasX where
  x : Cst
variable [HasL] [HasX]

/-- data -/
inductive D where
  | non | bl (b : Bool) | int (i : Int) | str (x : Str)
  | tup (l : List D) | lst (l : List D) | dct (ks vs : List D) | scr (l : List Int) | ty (n : String)
  | cell (n : Nat) | fn (x : Str)
  /-- the n-th lambda, made in a frame with the cells fc -/
  | lam (n : Nat) (fc : List (Str × Addr))
  deriving Inhabited
/-- what is held while a lambda is handed on: its frame's values -/
class HasH where
  hd : List (V × D)
variable [HasH]

/-- what a frame alone holds and changes -/
inductive OwnC where
  | lst (l : List D) | dic (ks vs : List D)
def OwnC.val : OwnC → D
  | .lst l => .lst l
  | .dic ks vs => .dct ks vs
/-- what a local name holds: a value; a thing that this frame alone holds and changes -/
inductive Slot where
  | val (d : D) | own (o : OwnC)
/-- a dict's keys: ints and texts; tuples of these -/
def D.key : D → Option Key
  | .int i => some (.inl i)
  | .str x => some (.inr x)
  | _ => none
def keysOf : List D → Option (List Key)
  | [] => some []
  | d :: r => match d.key, keysOf r with
    | some k, some ks => some (k :: ks)
    | _, _ => none
def D.keyT : D → Option (List Key)
  | .tup l => keysOf l
  | _ => none
abbrev Env := List (Option Slot)
/-- the store of the lists that are changed by others -/
abbrev Mu := List (List D)

inductive Out (α : Type) where
  | ok (a : α) (m : Mu) | exn (c : Str) (fs : List (Str × D)) (m : Mu) | stuck
def Out.bnd {α β : Type} (o : Out α) (f : α → Mu → Out β) : Out β := match o with
  | .ok a m => f a m
  | .exn c fs m => .exn c fs m
  | .stuck => .stuck
abbrev SE := Env → Mu → Out D
@[simp] theorem bnd_ok {α β : Type} (a : α) (m : Mu) (f : α → Mu → Out β) : (Out.ok a m).bnd f = f a m := rfl
@[simp] theorem bnd_exn {α β : Type} (c : Str) (fs : List (Str × D)) (m : Mu) (f : α → Mu → Out β) : (Out.exn c fs m : Out α).bnd f = .exn c fs m := rfl
@[simp] theorem bnd_stuck {α β : Type} (f : α → Mu → Out β) : (Out.stuck : Out α).bnd f = .stuck := rfl

/-- the place: the written part, the changed lists' addresses, the addresses that frames own -/
structure Ct where
  K : PySem.W.Frag
  cs : List Addr
  br : List Addr

/-- the function object of a lambda: its captured cells cl, its code object at c' -/
def LamO (f : Addr) (L : LText) (cl : List (Str × Addr)) (c' : Addr) : HO := .ext fun h => ∃ pm ctv, h.get? f = some (PySem.W.kla_obj "<lambda>" L.qual L.params L.body L.scope cl pm c' ctv)
/-- there stands a function -/
def fnIn (K : PySem.W.Frag) (a : Addr) : Bool := match K.lookup a with
  | some ⟨_, _, .func _, _⟩ => true
  | _ => false
mutual
/-- v in H is the data d -/
inductive Rep (c : Ct) (H : Hp) : V → D → Prop
  | non : Rep c H .non .non
  | bl (b : Bool) : Rep c H (.bl b) (.bl b)
  | int (i : Int) : Rep c H (.int i) (.int i)
  | str (x : Str) : Rep c H (.str x) (.str x)
  | tup {a : Addr} {vs : List V} {ds : List D} : a ∉ c.cs → H a = some (.tup vs) → Reps c H vs ds → Rep c H (.ref a) (.tup ds)
  | lst {a : Addr} {vs : List V} {ds : List D} : a ∉ c.cs → a ∉ c.br → H a = some (.lst vs) → Reps c H vs ds → Rep c H (.ref a) (.lst ds)
  | dK {a : Addr} {kvs : List (Key × V)} {ks vs : List D} : a ∉ c.cs → a ∉ c.br → H a = some (.dK kvs) → ks.map D.key = kvs.map (fun p => some p.1) → Reps c H (kvs.map fun p => p.2) vs → Rep c H (.ref a) (.dct ks vs)
  | dT {a : Addr} {kvs : List (List Key × V)} {ks vs : List D} : a ∉ c.cs → a ∉ c.br → H a = some (.dT kvs) → ks.map D.keyT = kvs.map (fun p => some p.1) → Reps c H (kvs.map fun p => p.2) vs → Rep c H (.ref a) (.dct ks vs)
  | scr {a : Addr} {o : Obj} {ns : List Int} : a ∉ c.cs → H a = some (.frz o (.lst (ns.map V.int))) → Rep c H (.ref a) (.scr ns)
  | scrK {a : Addr} {ns : List Int} : SqL c.K (fun _ => none) a (ns.map V.int) → Rep c H (.ref a) (.scr ns)
  | cell {n : Nat} {a : Addr} : c.cs[n]? = some a → Rep c H (.ref a) (.cell n)
  | ty (n : String) : Rep c H (.ty n) (.ty n)
  | fn {x : Str} {a : Addr} : PySem.W.nsIn c.K mainGlobals x = some (some (.ref a)) → fnIn c.K a = true → Rep c H (.ref a) (.fn x)
  | lam {f c' : Addr} {n : Nat} {fc : List (Str × Addr)} : f ∉ c.cs → c' ∉ c.cs → H f = some (LamO f (HasL.lt n) (L2.cloFrom fc (HasL.lt n).scope.names []) c') → H c' = some (LamX.CodeO c' (HasL.lt n).qual) → Rep c H (.ref f) (.lam n fc)
inductive Reps (c : Ct) (H : Hp) : List V → List D → Prop
  | nil : Reps c H [] []
  | cons {v : V} {vs : List V} {d : D} {ds : List D} : Rep c H v d → Reps c H vs ds → Reps c H (v :: vs) (d :: ds)
end

/-- the heap's way: what was tracked stands but for the changed lists; new changed lists are new -/
structure Stp (c c' : Ct) (H H' : Hp) : Prop where
  K : c'.K = c.K
  br : c'.br = c.br
  cs : ∃ new, c'.cs = c.cs ++ new ∧ ∀ a ∈ new, H a = none
  keep : ∀ a o, H a = some o → a ∉ c.cs → (∀ ps, o ≠ .tbl ps) → H' a = some o
  there : ∀ a o, H a = some o → ∃ o', H' a = some o'
  tbs : LamX.Tabs HasX.x.tb H → LamX.Tabs HasX.x.tb H'
/-- a table of code objects stands where a list is written -/
theorem tabS_upd {H : Hp} {P p : Addr} {q : Str} {o : HO} (hp : ∀ u, H p = some u → ∃ xs, u = .lst xs) (t : LamX.TabS H P q) : LamX.TabS (upd H p o) P q := by
  obtain ⟨ps, h1, h2, h3⟩ := t
  have ne : ∀ {a : Addr} {u : HO}, H a = some u → (∀ xs, u ≠ .lst xs) → a ≠ p := by
    intro a u ha hu e
    subst e
    obtain ⟨xs, z⟩ := hp u ha
    exact hu xs z
  refine ⟨ps, by rw [upd_ne (ne h1 (fun xs z => by cases z))]; exact h1, h2, fun pos cv hc => ?_⟩
  obtain ⟨c, e1, e2⟩ := h3 pos cv hc
  exact ⟨c, e1, by rw [upd_ne (ne e2 (fun xs z => by unfold LamX.CodeO at z; cases z))]; exact e2⟩

theorem rd_some {H : Hp} {a : Addr} {u : HO} (h : Rd H a u) : ∃ o, H a = some o := by
  rcases h with h | ⟨o, h⟩
  · exact ⟨_, h⟩
  · exact ⟨_, h⟩
theorem rd_keep {H H' : Hp} {a : Addr} {u : HO} (h : Rd H a u) (k : ∀ o, H a = some o → H' a = some o) : Rd H' a u := by
  rcases h with h | ⟨o, h⟩
  · exact .inl (k _ h)
  · exact .inr ⟨o, k _ h⟩

theorem Stp.notin {c c' : Ct} {H H' : Hp} (s : Stp c c' H H') {a : Addr} (h : a ∉ c.cs) {o : HO} (ho : H a = some o) : a ∉ c'.cs := by
  obtain ⟨new, e, f⟩ := s.cs
  rw [e]
  intro q
  rcases List.mem_append.mp q with q | q
  · exact h q
  · rw [f a q] at ho
    cases ho

theorem lamO_ne {f : Addr} {L : LText} {cl : List (Str × Addr)} {c' : Addr} {o : HO} (ho : ∀ φ, o ≠ .ext φ) : LamO f L cl c' ≠ o := fun z => ho _ z.symm
theorem codeO_not {c' : Addr} {q : Str} {o : HO} (ho : ∀ φ, o ≠ .ext φ) : LamX.CodeO c' q ≠ o := fun z => ho _ z.symm
mutual
theorem Rep.step {c c' : Ct} {H H' : Hp} (s : Stp c c' H H') : ∀ {v : V} {d : D}, Rep c H v d → Rep c' H' v d
  | _, _, .non => .non
  | _, _, .bl b => .bl b
  | _, _, .int i => .int i
  | _, _, .str x => .str x
  | _, _, .tup h1 h2 h3 => .tup (s.notin h1 h2) (s.keep _ _ h2 h1 (fun _ z => by cases z)) (Reps.step s h3)
  | _, _, .lst h1 h0 h2 h3 => .lst (s.notin h1 h2) (by rw [s.br]; exact h0) (s.keep _ _ h2 h1 (fun _ z => by cases z)) (Reps.step s h3)
  | _, _, .dK h1 h0 h2 h3 h4 => .dK (s.notin h1 h2) (by rw [s.br]; exact h0) (s.keep _ _ h2 h1 (fun _ z => by cases z)) h3 (Reps.step s h4)
  | _, _, .dT h1 h0 h2 h3 h4 => .dT (s.notin h1 h2) (by rw [s.br]; exact h0) (s.keep _ _ h2 h1 (fun _ z => by cases z)) h3 (Reps.step s h4)
  | _, _, .scr h1 h2 => .scr (s.notin h1 h2) (s.keep _ _ h2 h1 (fun _ z => by cases z))
  | _, _, .scrK h => .scrK (by rw [s.K]; exact h)
  | _, _, .ty n => .ty n
  | _, _, .cell h => by
    obtain ⟨new, e, _⟩ := s.cs
    refine .cell ?_
    rw [e]
    obtain ⟨hl, _⟩ := List.getElem?_eq_some_iff.mp h
    rw [List.getElem?_append_left hl]
    exact h
  | _, _, .fn h hf => .fn (by rw [s.K]; exact h) (by rw [s.K]; exact hf)
  | _, _, .lam h1 h2 h3 h4 => .lam (s.notin h1 h3) (s.notin h2 h4) (by exact s.keep _ _ h3 h1 (fun _ => lamO_ne fun _ => nofun)) (s.keep _ _ h4 h2 (fun _ => codeO_not fun _ => nofun))
theorem Reps.step {c c' : Ct} {H H' : Hp} (s : Stp c c' H H') : ∀ {vs : List V} {ds : List D}, Reps c H vs ds → Reps c' H' vs ds
  | _, _, .nil => .nil
  | _, _, .cons h t => .cons (Rep.step s h) (Reps.step s t)
end
theorem Stp.refl (c : Ct) (H : Hp) : Stp c c H H := ⟨rfl, rfl, ⟨[], by simp, by simp⟩, fun _ _ h _ _ => h, fun _ o h => ⟨o, h⟩, fun t => t⟩
theorem Stp.trans {c c1 c2 : Ct} {H H1 H2 : Hp} (a : Stp c c1 H H1) (b : Stp c1 c2 H1 H2) : Stp c c2 H H2 := by
  obtain ⟨n1, e1, f1⟩ := a.cs
  obtain ⟨n2, e2, f2⟩ := b.cs
  refine ⟨b.K.trans a.K, b.br.trans a.br, ⟨n1 ++ n2, by rw [e2, e1, List.append_assoc], fun x hx => ?_⟩, fun x o h n ht => b.keep x o (a.keep x o h n ht) (a.notin n h) ht, fun x o h => ?_, fun t => b.tbs (a.tbs t)⟩
  · rcases List.mem_append.mp hx with q | q
    · exact f1 x q
    · cases e : H x with
      | none => rfl
      | some o =>
        obtain ⟨o', e'⟩ := a.there x o e
        rw [f2 x q] at e'
        cases e'
  · obtain ⟨o1, e1⟩ := a.there x o h
    exact b.there x o1 e1
/-- all that was tracked stands -/
theorem Stp.same {c : Ct} {H H' : Hp} (h : Same H H') : Stp c c H H' := ⟨rfl, rfl, ⟨[], by simp, by simp⟩, fun a o q _ _ => h a o q, fun a o q => ⟨o, h a o q⟩, fun t => t.ext h⟩
theorem same_upd {H : Hp} {p : Addr} {o : HO} (h : H p = none) : Same H (upd H p o) := fun b u e => by rw [upd_ne (ne_of_none e h)]; exact e

theorem Reps.length {c : Ct} {H : Hp} : ∀ {vs : List V} {ds : List D}, Reps c H vs ds → vs.length = ds.length
  | _, _, .nil => rfl
  | _, _, .cons _ t => by rw [List.length_cons, List.length_cons, Reps.length t]
theorem Reps.get {c : Ct} {H : Hp} : ∀ {vs : List V} {ds : List D} {i : Nat} {v : V}, Reps c H vs ds → vs[i]? = some v → ∃ d, ds[i]? = some d ∧ Rep c H v d
  | _, _, _, _, .nil, e => by simp at e
  | _, _, 0, _, .cons h _, e => by simp at e; subst e; exact ⟨_, rfl, h⟩
  | _, _, i + 1, v, .cons _ t, e => by
    obtain ⟨d, h1, h2⟩ := Reps.get (i := i) (v := v) t (by simpa using e)
    exact ⟨d, by simpa using h1, h2⟩
theorem Reps.getD {c : Ct} {H : Hp} : ∀ {vs : List V} {ds : List D} {i : Nat} {d : D}, Reps c H vs ds → ds[i]? = some d → ∃ v, vs[i]? = some v ∧ Rep c H v d
  | _, _, _, _, .nil, e => by simp at e
  | _, _, 0, _, .cons h _, e => by simp at e; subst e; exact ⟨_, rfl, h⟩
  | _, _, i + 1, d, .cons _ t, e => by
    obtain ⟨v, h1, h2⟩ := Reps.getD (i := i) (d := d) t (by simpa using e)
    exact ⟨v, by simpa using h1, h2⟩
theorem Reps.append {c : Ct} {H : Hp} : ∀ {vs ws : List V} {ds es : List D}, Reps c H vs ds → Reps c H ws es → Reps c H (vs ++ ws) (ds ++ es)
  | _, _, _, _, .nil, s => s
  | _, _, _, _, .cons r t, s => .cons r (Reps.append t s)
theorem Reps.take {c : Ct} {H : Hp} : ∀ {vs : List V} {ds : List D} (n : Nat), Reps c H vs ds → Reps c H (vs.take n) (ds.take n)
  | _, _, 0, _ => .nil
  | _, _, _ + 1, .nil => .nil
  | _, _, n + 1, .cons r t => .cons r (Reps.take n t)
theorem Reps.drop {c : Ct} {H : Hp} : ∀ {vs : List V} {ds : List D} (n : Nat), Reps c H vs ds → Reps c H (vs.drop n) (ds.drop n)
  | _, _, 0, r => r
  | _, _, _ + 1, .nil => .nil
  | _, _, n + 1, .cons _ t => Reps.drop n t
theorem Reps.set {c : Ct} {H : Hp} {x : V} {d : D} (r : Rep c H x d) : ∀ {vs : List V} {ds : List D} (i : Nat), Reps c H vs ds → Reps c H (vs.set i x) (ds.set i d)
  | _, _, _, .nil => .nil
  | _, _, 0, .cons _ t => .cons r t
  | _, _, i + 1, .cons q t => .cons q (Reps.set r i t)
theorem Reps.one {c : Ct} {H : Hp} {v : V} {d : D} (h : Rep c H v d) : Reps c H [v] [d] := .cons h .nil

/-- the changed lists as the store has them -/
structure MRel (c : Ct) (H : Hp) (m : Mu) : Prop where
  len : c.cs.length = m.length
  nd : c.cs.Nodup
  at_ : ∀ (n : Nat) (a : Addr) (ds : List D), c.cs[n]? = some a → m[n]? = some ds → a ∉ c.br ∧ ∃ vs, H a = some (.lst vs) ∧ Reps c H vs ds
  br : ∀ a ∈ c.br, ∃ o, H a = some o
  tabs : LamX.Tabs HasX.x.tb H
  held : ∀ p ∈ HasH.hd, Rep c H p.1 p.2
theorem tabs_step {c c' : Ct} {H H' : Hp} (s : Stp c c' H H') (t : LamX.Tabs HasX.x.tb H) : LamX.Tabs HasX.x.tb H' := s.tbs t
theorem MRel.there {c : Ct} {H : Hp} {m : Mu} (M : MRel c H m) {a : Addr} (h : a ∈ c.cs) : ∃ vs, H a = some (.lst vs) := by
  obtain ⟨n, hn⟩ := List.getElem?_of_mem h
  have l := (List.getElem?_eq_some_iff.mp hn).1
  rw [M.len] at l
  obtain ⟨_, vs, e, _⟩ := M.at_ n a m[n] hn (List.getElem?_eq_getElem l)
  exact ⟨vs, e⟩

/-- at a stands a dict -/
def DcAt (c : Ct) (H : Hp) (a : Addr) (ks vs : List D) : Prop := (∃ kvs : List (Key × V), H a = some (.dK kvs) ∧ ks.map D.key = kvs.map (fun p => some p.1) ∧ Reps c H (kvs.map fun p => p.2) vs) ∨ ∃ kvs : List (List Key × V), H a = some (.dT kvs) ∧ ks.map D.keyT = kvs.map (fun p => some p.1) ∧ Reps c H (kvs.map fun p => p.2) vs
/-- at a stands what a frame holds -/
def OAt (c : Ct) (H : Hp) (a : Addr) : OwnC → Prop
  | .lst ds => ∃ vs, H a = some (.lst vs) ∧ Reps c H vs ds
  | .dic ks vs => DcAt c H a ks vs
/-- things that may be written -/
def isOwnO : HO → Prop
  | .lst _ => True
  | .dK _ => True
  | .dT _ => True
  | _ => False
theorem OAt.there {c : Ct} {H : Hp} {a : Addr} {o : OwnC} (h : OAt c H a o) : ∃ u, H a = some u ∧ isOwnO u := by
  cases o with
  | lst ds =>
    obtain ⟨vs, e, _⟩ := h
    exact ⟨_, e, trivial⟩
  | dic ks vs =>
    rcases h with ⟨kvs, e, _⟩ | ⟨kvs, e, _⟩
    · exact ⟨_, e, trivial⟩
    · exact ⟨_, e, trivial⟩
theorem OAt.step {c c' : Ct} {H H' : Hp} {a : Addr} {o : OwnC} (s : Stp c c' H H') (hc : a ∉ c.cs) (h : OAt c H a o) : OAt c' H' a o := by
  cases o with
  | lst ds =>
    obtain ⟨vs, e, r⟩ := h
    exact ⟨vs, s.keep _ _ e hc (fun _ z => by cases z), r.step s⟩
  | dic ks vs =>
    rcases h with ⟨kvs, e, q, r⟩ | ⟨kvs, e, q, r⟩
    · exact .inl ⟨kvs, s.keep _ _ e hc (fun _ z => by cases z), q, r.step s⟩
    · exact .inr ⟨kvs, s.keep _ _ e hc (fun _ z => by cases z), q, r.step s⟩
/-- what the frame's names hold -/
structure ERel (c : Ct) (H : Hp) (σ : St) (ρ : Env) : Prop where
  val : ∀ (i : Nat) (d : D), ρ[i]? = some (some (.val d)) → ∃ v, σ[i]? = some (some v) ∧ Rep c H v d
  own : ∀ (i : Nat) (o : OwnC), ρ[i]? = some (some (.own o)) → ∃ a, σ[i]? = some (some (.ref a)) ∧ a ∈ c.br ∧ a ∉ c.cs ∧ OAt c H a o
  apart : ∀ (i j : Nat) (o o' : OwnC) (a : Addr), i ≠ j → ρ[i]? = some (some (.own o)) → ρ[j]? = some (some (.own o')) → σ[i]? = some (some (.ref a)) → σ[j]? ≠ some (some (.ref a))
theorem ERel.ownL {c : Ct} {H : Hp} {σ : St} {ρ : Env} (e : ERel c H σ ρ) (i : Nat) (ds : List D) (h : ρ[i]? = some (some (.own (.lst ds)))) : ∃ a vs, σ[i]? = some (some (.ref a)) ∧ a ∈ c.br ∧ a ∉ c.cs ∧ H a = some (.lst vs) ∧ Reps c H vs ds := by
  obtain ⟨a, h1, h2, h3, vs, h4, h5⟩ := e.own i _ h
  exact ⟨a, vs, h1, h2, h3, h4, h5⟩
structure Ok (c : Ct) (H : Hp) (σ : St) (ρ : Env) (m : Mu) : Prop where
  e : ERel c H σ ρ
  m : MRel c H m
  len : ρ.length = σ.length
theorem ERel.step {c c' : Ct} {H H' : Hp} {σ : St} {ρ : Env} (s : Stp c c' H H') (e : ERel c H σ ρ) : ERel c' H' σ ρ := by
  refine ⟨fun i d h => ?_, fun i ds h => ?_, e.apart⟩
  · obtain ⟨v, h1, h2⟩ := e.val i d h
    exact ⟨v, h1, h2.step s⟩
  · obtain ⟨a, h1, h2, h3, h4⟩ := e.own i ds h
    obtain ⟨u, hu, _⟩ := h4.there
    exact ⟨a, h1, by rw [s.br]; exact h2, s.notin h3 hu, h4.step s h3⟩

/-- an exception as data -/
structure ExR (c : Ct) (H : Hp) (cls : Value) (dd : Option Addr) (x : Str) (fs : List (Str × D)) : Prop where
  cls : ∃ C, cls = .ref C ∧ PySem.W.nsIn c.K mainGlobals x = some (some (.ref C))
  fs : (fs = [] ∧ dd = none) ∨ ∃ d f v e, dd = some d ∧ fs = [(f, e)] ∧ H d = some (.xd [(f, v)]) ∧ d ∉ c.cs ∧ Rep c H v e
/-- a list that a frame owns, looked at for a moment -/
def Bor (c : Ct) (H : Hp) (v : V) (d : D) : Prop := (∃ a vs ds, v = .ref a ∧ d = .lst ds ∧ a ∈ c.br ∧ a ∉ c.cs ∧ H a = some (.lst vs) ∧ Reps c H vs ds) ∨ ∃ a ks vs, v = .ref a ∧ d = .dct ks vs ∧ a ∈ c.br ∧ a ∉ c.cs ∧ DcAt c H a ks vs
/-- b: it may be such a list -/
def RepF (b : Bool) (c : Ct) (H : Hp) (v : V) (d : D) : Prop := Rep c H v d ∨ (b = true ∧ Bor c H v d)
inductive RepsF (b : Bool) (c : Ct) (H : Hp) : List V → List D → Prop
  | nil : RepsF b c H [] []
  | cons {v : V} {vs : List V} {d : D} {ds : List D} : RepF b c H v d → RepsF b c H vs ds → RepsF b c H (v :: vs) (d :: ds)
theorem Rep.f {b : Bool} {c : Ct} {H : Hp} {v : V} {d : D} (h : Rep c H v d) : RepF b c H v d := .inl h
theorem RepF.rep {c : Ct} {H : Hp} {v : V} {d : D} (h : RepF false c H v d) : Rep c H v d := by
  rcases h with h | ⟨e, _⟩
  · exact h
  · cases e
theorem RepF.tt {b : Bool} {c : Ct} {H : Hp} {v : V} {d : D} (h : RepF b c H v d) : RepF true c H v d := by
  rcases h with h | ⟨_, h⟩
  · exact .inl h
  · exact .inr ⟨rfl, h⟩
theorem RepF.step {b : Bool} {c c' : Ct} {H H' : Hp} {v : V} {d : D} (s : Stp c c' H H') (h : RepF b c H v d) : RepF b c' H' v d := by
  rcases h with h | ⟨e, ⟨a, vs, ds, h1, h2, h3, h4, h5, h6⟩ | ⟨a, ks, vs, h1, h2, h3, h4, h5⟩⟩
  · exact .inl (h.step s)
  · exact .inr ⟨e, .inl ⟨a, vs, ds, h1, h2, by rw [s.br]; exact h3, s.notin h4 h5, s.keep _ _ h5 h4 (fun _ z => by cases z), h6.step s⟩⟩
  · obtain ⟨u, hu, _⟩ := OAt.there (o := .dic ks vs) h5
    exact .inr ⟨e, .inr ⟨a, ks, vs, h1, h2, by rw [s.br]; exact h3, s.notin h4 hu, OAt.step (o := .dic ks vs) s h4 h5⟩⟩
theorem RepsF.step {b : Bool} {c c' : Ct} {H H' : Hp} (s : Stp c c' H H') : ∀ {vs : List V} {ds : List D}, RepsF b c H vs ds → RepsF b c' H' vs ds
  | _, _, .nil => .nil
  | _, _, .cons h t => .cons (h.step s) (RepsF.step s t)
theorem RepsF.reps {c : Ct} {H : Hp} : ∀ {vs : List V} {ds : List D}, RepsF false c H vs ds → Reps c H vs ds
  | _, _, .nil => .nil
  | _, _, .cons h t => .cons h.rep (RepsF.reps t)
theorem Reps.f {b : Bool} {c : Ct} {H : Hp} : ∀ {vs : List V} {ds : List D}, Reps c H vs ds → RepsF b c H vs ds
  | _, _, .nil => .nil
  | _, _, .cons h t => .cons h.f (Reps.f t)
theorem RepsF.length {b : Bool} {c : Ct} {H : Hp} : ∀ {vs : List V} {ds : List D}, RepsF b c H vs ds → vs.length = ds.length
  | _, _, .nil => rfl
  | _, _, .cons _ t => by rw [List.length_cons, List.length_cons, RepsF.length t]

/-- what an outcome asks of the wishes: G what is said of the value -/
def PostG {α β : Type} (G : Ct → Hp → β → α → Prop) (c : Ct) (σ : St) (H : Hp) (W : WX) (o : Out α) (Q : β → Hp → Prop) : Prop := match o with
  | .ok d m => ∀ v c' H', Stp c c' H H' → MRel c' H' m → G c' H' v d → Q v H'
  | .exn x fs m => ∀ cls dd c' H', Stp c c' H H' → MRel c' H' m → ExR c' H' cls dd x fs → W cls dd σ H'
  | .stuck => False
theorem PostG.step {α β : Type} {G : Ct → Hp → β → α → Prop} {c c1 : Ct} {σ : St} {H H1 : Hp} {W : WX} {o : Out α} {Q : β → Hp → Prop} (s : Stp c c1 H H1) (p : PostG G c σ H W o Q) : PostG G c1 σ H1 W o Q := by
  cases o with
  | ok d m => exact fun v c' H' s' M r => p v c' H' (s.trans s') M r
  | exn x fs m => exact fun cls dd c' H' s' M r => p cls dd c' H' (s.trans s') M r
  | stuck => exact p
theorem PostG.bnd {α β γ δ : Type} {G : Ct → Hp → β → α → Prop} {G' : Ct → Hp → δ → γ → Prop} {c : Ct} {σ : St} {H : Hp} {W : WX} {o : Out α} {f : α → Mu → Out γ} {Q : δ → Hp → Prop} {R : β → Hp → Prop} (p : PostG G' c σ H W (o.bnd f) Q)
    (h : ∀ d m v c' H', Stp c c' H H' → MRel c' H' m → G c' H' v d → PostG G' c' σ H' W (f d m) Q → R v H') : PostG G c σ H W o R := by
  cases o with
  | ok d m => exact fun v c' H' s M r => h d m v c' H' s M r (PostG.step s p)
  | exn x fs m => exact p
  | stuck => exact p
abbrev Post (b : Bool) := PostG (α := D) (β := V) (fun c H v d => RepF b c H v d)
abbrev PostA (b : Bool) := PostG (α := List D) (β := List V) (fun c H v d => RepsF b c H v d)
abbrev PostB := PostG (α := Bool) (β := Bool) (fun _ _ v d => v = d)
theorem Post.tt {b : Bool} {c : Ct} {σ : St} {H : Hp} {W : WX} {o : Out D} {Q : VK} (p : Post true c σ H W o Q) : Post b c σ H W o Q := by
  cases o with
  | ok d m => exact fun v c' H' s M r => p v c' H' s M (RepF.tt r)
  | exn x fs m => exact p
  | stuck => exact p
theorem Post.of {b : Bool} {c : Ct} {σ : St} {H : Hp} {W : WX} {o : Out D} {Q : VK} (p : Post b c σ H W o Q) : Post false c σ H W o Q := by
  cases o with
  | ok d m => exact fun v c' H' s M r => p v c' H' s M r.rep.f
  | exn x fs m => exact p
  | stuck => exact p

/-- the reading t bears the function m -/
def SimE (K : PySem.W.Frag) (W : WX) (b : Bool) (t : TE) (m : SE) : Prop := ∀ c H σ ρ μ, c.K = K → Ok c H σ ρ μ → ∀ Q, Post b c σ H W (m ρ μ) Q → t σ H Q
abbrev SA := Env → Mu → Out (List D)
abbrev ST' := Env → Mu → Out Bool
def SimA (K : PySem.W.Frag) (W : WX) (b : Bool) (t : TA) (m : SA) : Prop := ∀ c H σ ρ μ, c.K = K → Ok c H σ ρ μ → ∀ Q, PostA b c σ H W (m ρ μ) Q → t σ H Q
def SimT (K : PySem.W.Frag) (W : WX) (t : TT) (m : ST') : Prop := ∀ c H σ ρ μ, c.K = K → Ok c H σ ρ μ → ∀ Q, PostB c σ H W (m ρ μ) Q → t σ H Q
/-- an expression does m; W: what is wanted of an exception; b: its value may be a list that the frame owns -/
def PD (X : Cx) (W : WX) (b : Bool) (e : Expr) (m : SE) : Prop := ∃ t, PE X e t ∧ SimE X.K W b t m
def PDA (X : Cx) (W : WX) (b : Bool) (es : List Expr) (m : SA) : Prop := ∃ t, PA X es t ∧ SimA X.K W b t m
def PDT (X : Cx) (W : WX) (e : Expr) (m : ST') : Prop := ∃ t, PT X e t ∧ SimT X.K W t m
def PDW (X : Cx) (W : WX) (e : Expr) (m : ST') : Prop := ∃ t, PW X e t ∧ SimT X.K W t m

theorem Ok.step {c c' : Ct} {H H' : Hp} {σ : St} {ρ : Env} {μ μ' : Mu} (k : Ok c H σ ρ μ) (s : Stp c c' H H') (M : MRel c' H' μ') : Ok c' H' σ ρ μ' := ⟨k.e.step s, M, k.len⟩

/-! ### arguments -/
def mNil : SA := fun _ μ => .ok [] μ
def mCons (ma : SE) (mr : SA) : SA := fun ρ μ => (ma ρ μ).bnd fun d μ1 => (mr ρ μ1).bnd fun ds μ2 => .ok (d :: ds) μ2
/-- a function of the arguments' data, a rule by the values -/
def RelL (K : PySem.W.Frag) (W : WX) (b : Bool) (r : List V → Hp → VK → Prop) (f : List D → Mu → Out D) : Prop :=
  ∀ c H σ μ vs ds, c.K = K → MRel c H μ → RepsF b c H vs ds → ∀ Q, Post false c σ H W (f ds μ) Q → r vs H Q
def mApp (f : List D → Mu → Out D) (ma : SA) : SE := fun ρ μ => (ma ρ μ).bnd f
def mOp (f : D → D → Mu → Out D) (ma mb : SE) : SE := fun ρ μ => (ma ρ μ).bnd fun x μ1 => (mb ρ μ1).bnd fun y μ2 => f x y μ2
def mUn (f : D → Mu → Out D) (ma : SE) : SE := fun ρ μ => (ma ρ μ).bnd f
def RelO (K : PySem.W.Frag) (W : WX) (b : Bool) (r : R2) (f : D → D → Mu → Out D) : Prop :=
  ∀ c H σ μ v w d e, c.K = K → MRel c H μ → RepF b c H v d → RepF b c H w e → ∀ Q, Post false c σ H W (f d e μ) Q → r v w H Q
def RelU (K : PySem.W.Frag) (W : WX) (b : Bool) (r : V → Hp → VK → Prop) (f : D → Mu → Out D) : Prop :=
  ∀ c H σ μ v d, c.K = K → MRel c H μ → RepF b c H v d → ∀ Q, Post false c σ H W (f d μ) Q → r v H Q
section
variable {K : PySem.W.Frag} {W : WX} {b b' : Bool}
theorem sim_nil : SimA K W b tNil mNil := fun c H σ ρ μ _ k Q p => p [] c H (Stp.refl c H) k.m .nil
theorem sim_cons {ta : TE} {ma : SE} {tr : TA} {mr : SA} (ha : SimE K W b ta ma) (hr : SimA K W b tr mr) : SimA K W b (tCons ta tr) (mCons ma mr) := by
  intro c H σ ρ μ hK k Q p
  refine ha c H σ ρ μ hK k _ (PostG.bnd p fun d μ1 v c1 H1 s1 M1 r1 p1 => ?_)
  refine hr c1 H1 σ ρ μ1 (s1.K.trans hK) (k.step s1 M1) _ (PostG.bnd p1 fun ds μ2 vs c2 H2 s2 M2 r2 p2 => ?_)
  exact p2 (v :: vs) c2 H2 (Stp.refl _ _) M2 (.cons (r1.step s2) r2)
theorem sim_app {r : List V → Hp → VK → Prop} {f : List D → Mu → Out D} {t : TA} {ma : SA} (hr : RelL K W b r f) (ha : SimA K W b t ma) :
    SimE K W b' (fun σ H Q => t σ H fun vs H1 => r vs H1 Q) (mApp f ma) := by
  intro c H σ ρ μ hK k Q p
  exact ha c H σ ρ μ hK k _ (PostG.bnd p fun ds μ1 vs c1 H1 s1 M1 r1 p1 => hr c1 H1 σ μ1 vs ds (s1.K.trans hK) M1 r1 Q (Post.of p1))
theorem sim_op {r : R2} {f : D → D → Mu → Out D} {ta tb : TE} {ma mb : SE} (hr : RelO K W b r f) (ha : SimE K W b ta ma) (hb : SimE K W b tb mb) : SimE K W b' (tOp r ta tb) (mOp f ma mb) := by
  intro c H σ ρ μ hK k Q p
  refine ha c H σ ρ μ hK k _ (PostG.bnd p fun d μ1 v c1 H1 s1 M1 r1 p1 => ?_)
  refine hb c1 H1 σ ρ μ1 (s1.K.trans hK) (k.step s1 M1) _ (PostG.bnd p1 fun e μ2 w c2 H2 s2 M2 r2 p2 => ?_)
  exact hr c2 H2 σ μ2 v w d e ((s2.K.trans s1.K).trans hK) M2 (r1.step s2) r2 Q (Post.of p2)
theorem sim_un {r : V → Hp → VK → Prop} {f : D → Mu → Out D} {ta : TE} {ma : SE} (hr : RelU K W b r f) (ha : SimE K W b ta ma) : SimE K W b' (tUn r ta) (mUn f ma) := by
  intro c H σ ρ μ hK k Q p
  exact ha c H σ ρ μ hK k _ (PostG.bnd p fun d μ1 v c1 H1 s1 M1 r1 p1 => hr c1 H1 σ μ1 v d (s1.K.trans hK) M1 r1 Q (Post.of p1))
end

/-! ### names, constants -/
section
variable {X : Cx} {W : WX} {b : Bool}
def mVal (i : Nat) : SE := fun ρ μ => match ρ[i]? with
  | some (some (.val d)) => .ok d μ
  | _ => .stuck
/-- .. or the list that the frame owns -/
def mVar (i : Nat) : SE := fun ρ μ => match ρ[i]? with
  | some (some (.val d)) => .ok d μ
  | some (some (.own o)) => .ok o.val μ
  | _ => .stuck
def mC (d : D) : SE := fun _ μ => .ok d μ
theorem pd_val (i : Nat) {x : Str} {pos : Pos} (hN : X.N[i]? = some x := by rfl) (hv : Vis X.env.scope x := by first | exact Or.inl rfl | exact Or.inr (Or.inl rfl) | exact Or.inr (Or.inr rfl)) (hd : (x == ("__debug__" : Str)) = false := by decide)
    (hcd : (x == ("__classdict__" : Str)) = false := by decide) : PD X W b (.Name x pos) (mVal i) := by
  refine ⟨_, pe_var hN hv hd hcd, fun c H σ ρ μ hK k Q p => ?_⟩
  unfold mVal at p
  cases e : ρ[i]? with
  | none => rw [e] at p; exact p.elim
  | some o =>
    cases o with
    | none => rw [e] at p; exact p.elim
    | some s =>
      cases s with
      | own l => rw [e] at p; exact p.elim
      | val d =>
        rw [e] at p
        obtain ⟨v, h1, h2⟩ := k.e.val i d e
        exact ⟨v, h1, p v c H (Stp.refl c H) k.m h2.f⟩
theorem pd_var (i : Nat) {x : Str} {pos : Pos} (hN : X.N[i]? = some x := by rfl) (hv : Vis X.env.scope x := by first | exact Or.inl rfl | exact Or.inr (Or.inl rfl) | exact Or.inr (Or.inr rfl)) (hd : (x == ("__debug__" : Str)) = false := by decide)
    (hcd : (x == ("__classdict__" : Str)) = false := by decide) : PD X W true (.Name x pos) (mVar i) := by
  refine ⟨_, pe_var hN hv hd hcd, fun c H σ ρ μ hK k Q p => ?_⟩
  unfold mVar at p
  cases e : ρ[i]? with
  | none => rw [e] at p; exact p.elim
  | some o =>
    cases o with
    | none => rw [e] at p; exact p.elim
    | some s =>
      cases s with
      | own o =>
        rw [e] at p
        cases o with
        | lst l =>
          obtain ⟨a, vs, h1, h2, h3, h4, h5⟩ := k.e.ownL i l e
          exact ⟨_, h1, p _ c H (Stp.refl c H) k.m (.inr ⟨rfl, .inl ⟨a, vs, l, rfl, rfl, h2, h3, h4, h5⟩⟩)⟩
        | dic ks vs =>
          obtain ⟨a, h1, h2, h3, h4⟩ := k.e.own i _ e
          exact ⟨_, h1, p _ c H (Stp.refl c H) k.m (.inr ⟨rfl, .inr ⟨a, ks, vs, rfl, rfl, h2, h3, h4⟩⟩)⟩
      | val d =>
        rw [e] at p
        obtain ⟨v, h1, h2⟩ := k.e.val i d e
        exact ⟨v, h1, p v c H (Stp.refl c H) k.m h2.f⟩
theorem sim_c {K : PySem.W.Frag} {v : V} {d : D} (h : ∀ c H, Rep c H v d) : SimE K W b (tC v) (mC d) := fun c H σ ρ μ _ k Q p => p v c H (Stp.refl c H) k.m (h c H).f
theorem pd_int {i j pos} : PD X W b (.Constant (.int i) j pos) (mC (.int i)) := ⟨_, pe_int, sim_c fun _ _ => .int i⟩
theorem pd_bl {i j pos} : PD X W b (.Constant (.bool i) j pos) (mC (.bl i)) := ⟨_, pe_bl, sim_c fun _ _ => .bl i⟩
theorem pd_non {j pos} : PD X W b (.Constant .none j pos) (mC .non) := ⟨_, pe_non, sim_c fun _ _ => .non⟩
theorem pd_str {x j pos} : PD X W b (.Constant (.str x) j pos) (mC (.str x)) := ⟨_, pe_str, sim_c fun _ _ => .str x⟩
/-- a module's number -/
theorem pd_gint {x : Str} {i : Int} {pos : Pos} (hm : ∃ t, X.mg x = some (.int i t)) (hg : Gl X x := by rfl) (hd : (x == ("__debug__" : Str)) = false := by decide) : PD X W b (.Name x pos) (mC (.int i)) := by
  obtain ⟨t, hm⟩ := hm
  exact ⟨_, pe_glob hg hm (v := .int i) ⟨t, rfl⟩ hd, sim_c fun _ _ => .int i⟩

/-- the name of a class that is built in -/
theorem pd_ty {x : Str} {n : String} {pos : Pos} (hm : X.mg x = none) (hv : bootBuiltins x = some (.type n)) (hg : Gl X x := by rfl) (hn : x ≠ "__name__" := by decide) (hd : (x == ("__debug__" : Str)) = false := by decide) : PD X W b (.Name x pos) (mC (.ty n)) :=
  ⟨_, pe_bltn hg hm hv (v := .ty n) rfl hn hd, sim_c fun _ _ => .ty n⟩
/-! ### operators, argument lists, calls of what is built in -/
variable {e f : Expr} {es : List Expr} {ma mb : SE} {mr : SA} {pos : Pos} {b' : Bool}
theorem pda_nil : PDA X W b [] mNil := ⟨_, pa_nil, sim_nil⟩
theorem pda_cons (ha : PD X W b e ma) (hr : PDA X W b es mr) (hs : starEach (e :: es) X.env = (false, eval e X.env) :: starEach es X.env := by rfl) : PDA X W b (e :: es) (mCons ma mr) := by
  obtain ⟨t, h1, h2⟩ := ha
  obtain ⟨u, h3, h4⟩ := hr
  exact ⟨_, pa_cons h1 h3 hs, sim_cons h2 h4⟩
theorem pd_op {op : Operator} {r : R2} {g : D → D → Mu → Out D} (ho : OpR X (binaryOp op) r) (hr : RelO X.K W b r g) (ha : PD X W b e ma) (hb : PD X W b f mb) : PD X W b' (.BinOp e op f pos) (mOp g ma mb) := by
  obtain ⟨t, h1, h2⟩ := ha
  obtain ⟨u, h3, h4⟩ := hb
  exact ⟨_, pe_op ho h1 h3, sim_op hr h2 h4⟩
theorem pd_un {op : UnaryOp} {r : V → Hp → VK → Prop} {g : D → Mu → Out D} (ho : UnR X (unaryOp op) r) (hr : RelU X.K W b r g) (ha : PD X W b e ma) : PD X W b' (.UnaryOp op e pos) (mUn g ma) := by
  obtain ⟨t, h1, h2⟩ := ha
  exact ⟨_, pe_un ho h1, sim_un hr h2⟩
theorem pd_cmp {op : CmpOp} {r : R2} {g : D → D → Mu → Out D} (ho : OpR X (compareOp op) r) (hr : RelO X.K W b r g) (ha : PD X W b e ma) (hb : PD X W b f mb) (hm : behindInMarks op f = false := by first | exact nomark _ | rfl) : PD X W b' (.Compare e [op] [f] pos) (mOp g ma mb) := by
  obtain ⟨t, h1, h2⟩ := ha
  obtain ⟨u, h3, h4⟩ := hb
  exact ⟨_, pe_cmpR ho h1 h3 hm, sim_op hr h2 h4⟩
theorem pd_callB {x : Str} {id : String} {p : Pos} {r : List V → Hp → VK → Prop} {g : List D → Mu → Out D} (hc : CallR X (.builtin id) r) (hr : RelL X.K W b r g) (hm : X.mg x = none) (hv : bootBuiltins x = some (.builtin id)) (ha : PDA X W b (e :: es) mr) (hg : Gl X x := by rfl)
    (hn : x ≠ "__name__" := by decide) (hdb : (x == ("__debug__" : Str)) = false := by decide) (he : starEach (e :: es) X.env = (false, eval e X.env) :: starEach es X.env := by rfl) (hpl : (backTo pos (starEach es X.env)).any (·.1) = false := by rfl) :
    PD X W b' (.Call (.Name x p) (e :: es) [] pos) (mApp g mr) := by
  obtain ⟨t, h1, h2⟩ := ha
  exact ⟨_, pe_callB hc hg hm hv h1 hn hdb he hpl, sim_app hr h2⟩
theorem pd_callTy {x : Str} {T : String} {p : Pos} {r : List V → Hp → VK → Prop} {g : List D → Mu → Out D} (hc : CallR X (.type T) r) (hr : RelL X.K W b r g) (hm : X.mg x = none) (hv : bootBuiltins x = some (.type T)) (ha : PDA X W b (e :: es) mr) (hg : Gl X x := by rfl)
    (hn : x ≠ "__name__" := by decide) (hdb : (x == ("__debug__" : Str)) = false := by decide) (he : starEach (e :: es) X.env = (false, eval e X.env) :: starEach es X.env := by rfl) (hpl : (backTo pos (starEach es X.env)).any (·.1) = false := by rfl) :
    PD X W b' (.Call (.Name x p) (e :: es) [] pos) (mApp g mr) := by
  obtain ⟨t, h1, h2⟩ := ha
  exact ⟨_, pe_callTy hc hg hm hv h1 hn hdb he hpl, sim_app hr h2⟩
end
end DL
/-! # DL, values: operators and calls of what is built in, on data -/
namespace DL
open PySem PySem.Spec L2
open PyProof.Rows hiding St
variable [HasL] [HasX] [HasH]

/-! ### places in the store -/
theorem MRel.cell {c : Ct} {H : Hp} {m : Mu} (M : MRel c H m) {n : Nat} {a : Addr} {ds : List D} (h : c.cs[n]? = some a) (e : m[n]? = some ds) : ∃ vs, H a = some (.lst vs) ∧ Reps c H vs ds := (M.at_ n a ds h e).2
/-- the items of a list, as a value or in the store -/
def listOf (μ : Mu) : D → Option (List D)
  | .lst l => some l
  | .cell n => μ[n]?
  | _ => none
theorem rep_list {b : Bool} {c : Ct} {H : Hp} {m : Mu} {v : V} {d : D} {ds : List D} (M : MRel c H m) (r : RepF b c H v d) (e : listOf m d = some ds) : ∃ a vs, v = .ref a ∧ H a = some (.lst vs) ∧ Reps c H vs ds := by
  rcases r with r | ⟨_, ⟨a, vs, ds', h1, h2, _, _, h5, h6⟩ | ⟨a, ks, vs, h1, h2, _, _, h5⟩⟩
  · cases r with
    | lst h1 h2 h3 h4 => cases e; exact ⟨_, _, rfl, h3, h4⟩
    | cell h => obtain ⟨vs, h1, h2⟩ := M.cell h e; exact ⟨_, _, rfl, h1, h2⟩
    | _ => cases e
  · subst h2
    cases e
    exact ⟨_, _, h1, h5, h6⟩
  · subst h2
    cases e
theorem rep_tup {b : Bool} {c : Ct} {H : Hp} {v : V} {ds : List D} (r : RepF b c H v (.tup ds)) : ∃ a vs, v = .ref a ∧ a ∉ c.cs ∧ H a = some (.tup vs) ∧ Reps c H vs ds := by
  rcases r with r | ⟨_, ⟨a, vs, ds', h1, h2, _⟩ | ⟨a, ks, vs, h1, h2, _⟩⟩
  · cases r with
    | tup h1 h2 h3 => exact ⟨_, _, rfl, h1, h2, h3⟩
  · cases h2
  · cases h2
theorem rep_int {b : Bool} {c : Ct} {H : Hp} {v : V} {i : Int} (r : RepF b c H v (.int i)) : v = .int i := by
  rcases r with r | ⟨_, ⟨a, vs, ds', h1, h2, _⟩ | ⟨a, ks, vs, h1, h2, _⟩⟩
  · cases r; rfl
  · cases h2
  · cases h2
theorem rep_bl {b : Bool} {c : Ct} {H : Hp} {v : V} {i : Bool} (r : RepF b c H v (.bl i)) : v = .bl i := by
  rcases r with r | ⟨_, ⟨a, vs, ds', h1, h2, _⟩ | ⟨a, ks, vs, h1, h2, _⟩⟩
  · cases r; rfl
  · cases h2
  · cases h2
theorem rep_str {b : Bool} {c : Ct} {H : Hp} {v : V} {i : Str} (r : RepF b c H v (.str i)) : v = .str i := by
  rcases r with r | ⟨_, ⟨a, vs, ds', h1, h2, _⟩ | ⟨a, ks, vs, h1, h2, _⟩⟩
  · cases r; rfl
  · cases h2
  · cases h2
theorem rep_non {b : Bool} {c : Ct} {H : Hp} {v : V} (r : RepF b c H v .non) : v = .non := by
  rcases r with r | ⟨_, ⟨a, vs, ds', h1, h2, _⟩ | ⟨a, ks, vs, h1, h2, _⟩⟩
  · cases r; rfl
  · cases h2
  · cases h2
/-- an object of the written part stands whatever is tracked -/
theorem seqK {K : PySem.W.Frag} {H : Hp} {a : Addr} {xs : List V} (h : SqL K (fun _ => none) a xs) : SqL K H a xs := by
  rcases h with (h | ⟨o, h⟩) | h
  · cases h
  · cases h
  · exact .inr h
theorem rep_scr {b : Bool} {c : Ct} {H : Hp} {v : V} {ns : List Int} (r : RepF b c H v (.scr ns)) : ∃ a, v = .ref a ∧ SqL c.K H a (ns.map V.int) := by
  rcases r with r | ⟨_, ⟨a, vs, ds', h1, h2, _⟩ | ⟨a, ks, vs, h1, h2, _⟩⟩
  · cases r with
    | scr h1 h2 => exact ⟨_, rfl, .inl (.inr ⟨_, h2⟩)⟩
    | scrK h => exact ⟨_, rfl, seqK h⟩
  · cases h2
  · cases h2
theorem MRel.same {c : Ct} {H H' : Hp} {m : Mu} (M : MRel c H m) (s : Same H H') : MRel c H' m := ⟨M.len, M.nd, fun n a ds h e => by
  obtain ⟨h1, vs, h2, h3⟩ := M.at_ n a ds h e
  exact ⟨h1, vs, s _ _ h2, h3.step (Stp.same s)⟩, fun a h => by
  obtain ⟨o, e⟩ := M.br a h
  exact ⟨o, s _ _ e⟩, M.tabs.ext s, fun p hp => (M.held p hp).step (Stp.same s)⟩
/-- the address is free: it is none of the store's, none that a frame owns -/
theorem fresh_cs {c : Ct} {H : Hp} {m : Mu} (M : MRel c H m) {p : Addr} (h : H p = none) : p ∉ c.cs := fun q => by
  obtain ⟨vs, e⟩ := M.there q
  rw [h] at e
  cases e
section
variable {c : Ct} {H : Hp} {m : Mu} {σ : St} {W : WX} {Q : VK} {b : Bool}
/-- the outcome is a plain value -/
theorem post_val {d : D} {v : V} (M : MRel c H m) (r : Rep c H v d) (p : Post b c σ H W (.ok d m) Q) : Q v H := p v c H (Stp.refl c H) M r.f
theorem post_int {i : Int} (M : MRel c H m) (p : Post b c σ H W (.ok (.int i) m) Q) : Q (.int i) H := post_val M (.int i) p
theorem post_bl {i : Bool} (M : MRel c H m) (p : Post b c σ H W (.ok (.bl i) m) Q) : Q (.bl i) H := post_val M (.bl i) p
theorem post_str {i : Str} (M : MRel c H m) (p : Post b c σ H W (.ok (.str i) m) Q) : Q (.str i) H := post_val M (.str i) p
/-- a new tuple -/
theorem post_tup {vs : List V} {ds : List D} {p : Addr} (M : MRel c H m) (r : Reps c H vs ds) (hp : H p = none) (q : Post b c σ H W (.ok (.tup ds) m) Q) : Q (.ref p) (upd H p (.tup vs)) := by
  have s : Stp c c H (upd H p (.tup vs)) := Stp.same (same_upd hp)
  exact q _ c _ s (M.same (same_upd hp)) (.inl (.tup (fresh_cs M hp) upd_same (r.step s)))
end
theorem fresh_br {c : Ct} {H : Hp} {m : Mu} (M : MRel c H m) {p : Addr} (h : H p = none) : p ∉ c.br := fun q => by
  obtain ⟨vs, e⟩ := M.br p q
  rw [h] at e
  cases e
section
variable {c : Ct} {H : Hp} {m : Mu} {σ : St} {W : WX} {Q : VK} {b : Bool}
/-- a new list -/
theorem post_lst {vs : List V} {ds : List D} {p : Addr} (M : MRel c H m) (r : Reps c H vs ds) (hp : H p = none) (q : Post b c σ H W (.ok (.lst ds) m) Q) : Q (.ref p) (upd H p (.lst vs)) := by
  have s : Stp c c H (upd H p (.lst vs)) := Stp.same (same_upd hp)
  exact q _ c _ s (M.same (same_upd hp)) (.inl (.lst (fresh_cs M hp) (fresh_br M hp) upd_same (r.step s)))
end

/-! ### data as the library compares it -/
mutual
def D.py : D → Option PyData
  | .non => some .none
  | .bl b => some (.bool b)
  | .int i => some (.int i)
  | .str x => some (.str x)
  | .tup l => (D.pys l).map .tuple
  | .lst l => (D.pys l).map .list
  | .scr l => some (.list (l.map .int))
  | _ => none
def D.pys : List D → Option (List PyData)
  | [] => some []
  | d :: r => match d.py, D.pys r with
    | some p, some q => some (p :: q)
    | _, _ => none
end
theorem dpAll_ints {K : PySem.W.Frag} {H : Hp} : ∀ ns : List Int, DpAll K H (ns.map V.int) (ns.map .int)
  | [] => .nil
  | n :: r => .cons (.int n) (dpAll_ints r)
mutual
theorem Rep.dp {c : Ct} {H : Hp} : ∀ {v : V} {d : D} {p : PyData}, Rep c H v d → d.py = some p → Dp c.K H v p
  | _, _, _, .non, e => by simp only [D.py] at e; cases e; exact .non
  | _, _, _, .bl b, e => by simp only [D.py] at e; cases e; exact .bl b
  | _, _, _, .int i, e => by simp only [D.py] at e; cases e; exact .int i
  | _, _, _, .str x, e => by simp only [D.py] at e; cases e; exact .str x
  | _, _, _, .tup (ds := ds) h1 h2 h3, e => by
    simp only [D.py] at e
    cases q : D.pys ds with
    | none => rw [q] at e; cases e
    | some ps => rw [q] at e; cases e; exact .tup (SqT.of h2) (Reps.dp h3 q)
  | _, _, _, .lst (ds := ds) h1 h0 h2 h3, e => by
    simp only [D.py] at e
    cases q : D.pys ds with
    | none => rw [q] at e; cases e
    | some ps => rw [q] at e; cases e; exact .lst (SqL.of h2) (Reps.dp h3 q)
  | _, _, _, .scr h1 h2, e => by
    simp only [D.py] at e
    cases e
    exact .lst (.inl (.inr ⟨_, h2⟩)) (dpAll_ints _)
  | _, _, _, .scrK h, e => by
    simp only [D.py] at e
    cases e
    exact .lst (seqK h) (dpAll_ints _)
  | _, _, _, .cell h, e => by simp only [D.py] at e; cases e
  | _, _, _, .dK _ _ _ _ _, e => by simp only [D.py] at e; cases e
  | _, _, _, .dT _ _ _ _ _, e => by simp only [D.py] at e; cases e
  | _, _, _, .ty h, e => by simp only [D.py] at e; cases e
  | _, _, _, .fn h hf, e => by simp only [D.py] at e; cases e
  | _, _, _, .lam _ _ _ _, e => by simp only [D.py] at e; cases e
theorem Reps.dp {c : Ct} {H : Hp} : ∀ {vs : List V} {ds : List D} {ps : List PyData}, Reps c H vs ds → D.pys ds = some ps → DpAll c.K H vs ps
  | _, _, _, .nil, e => by simp only [D.pys] at e; cases e; exact .nil
  | _, _, _, .cons (d := d) (ds := ds) h t, e => by
    simp only [D.pys] at e
    cases q1 : d.py with
    | none => rw [q1] at e; cases e
    | some p =>
      cases q2 : D.pys ds with
      | none => rw [q1, q2] at e; cases e
      | some ps => rw [q1, q2] at e; cases e; exact .cons (Rep.dp h q1) (Reps.dp t q2)
end
/-- .. a list of the store by what it holds now -/
def D.pyM (μ : Mu) : D → Option PyData
  | .cell n => (μ[n]?).bind fun l => (D.pys l).map .list
  | d => d.py
theorem rep_dp {b : Bool} {c : Ct} {H : Hp} {m : Mu} {v : V} {d : D} {p : PyData} (M : MRel c H m) (r : RepF b c H v d) (e : d.pyM m = some p) : Dp c.K H v p := by
  rcases r with r | ⟨_, ⟨a, vs, ds', h1, h2, _, _, h5, h6⟩ | ⟨a, ks, vs, h1, h2, _, _, h5⟩⟩
  · cases d with
    | cell n =>
      have e2 : (m[n]?).bind (fun l => (D.pys l).map .list) = some p := e
      cases q : m[n]? with
      | none => rw [q] at e2; cases e2
      | some l =>
        rw [q] at e2
        have e3 : (D.pys l).map PyData.list = some p := e2
        cases q2 : D.pys l with
        | none => rw [q2] at e3; cases e3
        | some ps =>
          rw [q2] at e3
          cases e3
          obtain ⟨a, vs, e1, h1, h2⟩ := rep_list (b := false) M r.f (show listOf m (.cell n) = some l from q)
          subst e1
          exact .lst (SqL.of h1) (h2.dp q2)
    | _ => exact r.dp e
  · subst h1 h2
    have e2 : (D.lst ds').py = some p := e
    simp only [D.py] at e2
    cases q : D.pys ds' with
    | none => rw [q] at e2; cases e2
    | some ps => rw [q] at e2; cases e2; exact .lst (SqL.of h5) (h6.dp q)
  · subst h1 h2
    have e2 : (D.dct ks vs).py = some p := e
    simp only [D.py] at e2
    cases e2

/-! ### the functions, the rules -/
section
variable {K : PySem.W.Frag} {W : WX} {b : Bool}
/-- ints in, an int out -/
def fI (C : Int → Int → Bool) (g : Int → Int → Int) : D → D → Mu → Out D
  | .int i, .int j, m => if C i j = true then .ok (.int (g i j)) m else .stuck
  | _, _, _ => .stuck
theorem rel_I {C : Int → Int → Prop} {C' : Int → Int → Bool} {g : Int → Int → Int} (h : ∀ i j, C' i j = true → C i j) : RelO K W b (rI C fun i j => .int (g i j)) (fI C' g) := by
  intro c H σ μ v w d e hK M rv rw_ Q p
  cases d with
  | int i =>
    cases e with
    | int j =>
      have p' : Post false c σ H W (if C' i j = true then .ok (.int (g i j)) μ else .stuck) Q := p
      by_cases hc : C' i j = true
      · rw [if_pos hc] at p'
        exact ⟨i, j, rep_int rv, rep_int rw_, h i j hc, post_int M p'⟩
      · rw [if_neg hc] at p'
        exact p'.elim
    | _ => exact p.elim
  | _ => exact p.elim
theorem rel_I0 {g : Int → Int → Int} : RelO K W b (rI0 fun i j => .int (g i j)) (fI (fun _ _ => true) g) := by
  intro c H σ μ v w d e hK M rv rw_ Q p
  cases d with
  | int i =>
    cases e with
    | int j => exact ⟨i, j, rep_int rv, rep_int rw_, post_int M p⟩
    | _ => exact p.elim
  | _ => exact p.elim
/-- ints in, a truth value out -/
def fB (g : Int → Int → Bool) : D → D → Mu → Out D
  | .int i, .int j, m => .ok (.bl (g i j)) m
  | _, _, _ => .stuck
theorem rel_B {g : Int → Int → Bool} : RelO K W b (rI0 fun i j => .bl (g i j)) (fB g) := by
  intro c H σ μ v w d e hK M rv rw_ Q p
  cases d with
  | int i =>
    cases e with
    | int j => exact ⟨i, j, rep_int rv, rep_int rw_, post_bl M p⟩
    | _ => exact p.elim
  | _ => exact p.elim
def lt64 (i : Int) : Bool := decide (-(2 ^ 64) < i ∧ i < 2 ^ 64)
def cMul (i j : Int) : Bool := lt64 i || lt64 j
theorem cMul_ok (i j : Int) (h : cMul i j = true) : CMul i j := by
  rcases Bool.or_eq_true_iff.mp h with h | h
  · exact .inl (of_decide_eq_true h)
  · exact .inr (of_decide_eq_true h)
def cDiv (_ j : Int) : Bool := decide (0 < j) && (decide (j < 1073741824) || decide (j.natAbs.log2 < 9000))
def cMod (_ j : Int) : Bool := decide (0 < j)
def cPow (i j : Int) : Bool := decide (0 ≤ j ∧ j ≤ 1000000 ∧ i.natAbs < 2 ^ 64)
theorem cDiv_ok (i j : Int) (h : cDiv i j = true) : CDivW i j := by
  unfold cDiv at h
  simp only [Bool.and_eq_true, Bool.or_eq_true, decide_eq_true_eq] at h
  obtain ⟨h1, h2⟩ := h
  rcases h2 with h2 | h2
  · exact wide_div (b := 30) h1 (by omega) (by decide) (by decide)
  · exact ⟨h1, h2⟩
theorem cPow_ok (i j : Int) (h : cPow i j = true) : CPow i j := by
  have q : 0 ≤ j ∧ j ≤ 1000000 ∧ i.natAbs < 2 ^ 64 := of_decide_eq_true h
  exact q
abbrev fSub := fI (fun _ _ => true) (fun i j => i - j)
abbrev fDiv := fI cDiv (fun i j => i / j)
abbrev fMod := fI cMod (fun i j => i % j)
abbrev fPow := fI cPow (fun i j => i ^ j.toNat)
abbrev fLt := fB fun i j => decide (i < j)
abbrev fLe := fB fun i j => decide (i ≤ j)
abbrev fGt := fB fun i j => decide (j < i)
abbrev fGe := fB fun i j => decide (j ≤ i)
def line (n : Nat) : Bool := decide (n ≤ 16777216)
theorem line_ok {n : Nat} (h : line n = true) : n ≤ sizeLine := by rw [sizeLine_eq]; exact of_decide_eq_true h
/-- + of ints, texts, tuples, lists -/
def fAdd : D → D → Mu → Out D
  | .int i, .int j, m => .ok (.int (i + j)) m
  | .str x, .str y, m => if line (x.length + y.length) = true then .ok (.str (x ++ y)) m else .stuck
  | .tup x, .tup y, m => if line (x.length + y.length) = true then .ok (.tup (x ++ y)) m else .stuck
  | .lst x, .lst y, m => if line (x.length + y.length) = true then .ok (.lst (x ++ y)) m else .stuck
  | _, _, _ => .stuck
def rAddA (K : PySem.W.Frag) : R2 := fun x y H Q => ((rI0 fun i j => .int (i + j)) x y H Q ∨ (∃ i j, x = .str i ∧ y = .str j ∧ i.length + j.length ≤ sizeLine ∧ Q (.str (i ++ j)) H)) ∨ (rCatA K x y H Q ∨ rCat x y H Q)
theorem op_addA {X : Cx} : OpR X (binaryOp .Add) (rAddA X.K) := (op_add.or op_add_str).or (op_catA.or op_cat)
theorem rel_add : RelO K W b (rAddA K) fAdd := by
  intro c H σ μ v w d e hK M rv rw_ Q p
  subst hK
  cases d with
  | int i =>
    cases e with
    | int j => exact .inl (.inl ⟨i, j, rep_int rv, rep_int rw_, post_int M p⟩)
    | _ => exact p.elim
  | str i =>
    cases e with
    | str j =>
      have p' : Post false c σ H W (if line (i.length + j.length) = true then .ok (.str (i ++ j)) μ else .stuck) Q := p
      by_cases hc : line (i.length + j.length) = true
      · rw [if_pos hc] at p'
        exact .inl (.inr ⟨i, j, rep_str rv, rep_str rw_, line_ok hc, post_str M p'⟩)
      · rw [if_neg hc] at p'
        exact p'.elim
    | _ => exact p.elim
  | tup i =>
    cases e with
    | tup j =>
      have p' : Post false c σ H W (if line (i.length + j.length) = true then .ok (.tup (i ++ j)) μ else .stuck) Q := p
      by_cases hc : line (i.length + j.length) = true
      · rw [if_pos hc] at p'
        obtain ⟨a, vs, rfl, ha, h1, r1⟩ := rep_tup rv
        obtain ⟨a', ws, rfl, hb, h2, r2⟩ := rep_tup rw_
        refine .inr (.inl ⟨a, a', vs, ws, rfl, rfl, SqT.of h1, SqT.of h2, by rw [r1.length, r2.length]; exact line_ok hc, fun e => ?_, fun _ e => ?_, fun _ _ q hq => post_tup M (r1.append r2) hq p'⟩)
        · subst e
          cases r1
          exact post_val M (.tup hb h2 r2) p'
        · subst e
          cases r2
          rw [List.append_nil] at p'
          exact post_val M (.tup ha h1 r1) p'
      · rw [if_neg hc] at p'
        exact p'.elim
    | _ => exact p.elim
  | lst i =>
    cases e with
    | lst j =>
      have p' : Post false c σ H W (if line (i.length + j.length) = true then .ok (.lst (i ++ j)) μ else .stuck) Q := p
      by_cases hc : line (i.length + j.length) = true
      · rw [if_pos hc] at p'
        obtain ⟨a, vs, rfl, h1, r1⟩ := rep_list M rv (show listOf μ (.lst i) = some i from rfl)
        obtain ⟨a', ws, rfl, h2, r2⟩ := rep_list M rw_ (show listOf μ (.lst j) = some j from rfl)
        exact .inr (.inr ⟨a, a', vs, ws, rfl, rfl, h1, h2, by rw [r1.length, r2.length]; exact line_ok hc, fun q hq => post_lst M (r1.append r2) hq p'⟩)
      · rw [if_neg hc] at p'
        exact p'.elim
    | _ => exact p.elim
  | _ => exact p.elim

/-- == and != by the library's own look at data -/
def fEq (d e : D) (m : Mu) : Out D := match d.pyM m, e.pyM m with
  | some p, some q => if SeqAt.shaped p = true ∧ SeqAt.shaped q = true then .ok (.bl (PyData.eqv p q)) m else .stuck
  | _, _ => .stuck
def fNe (d e : D) (m : Mu) : Out D := match d.pyM m, e.pyM m with
  | some p, some q => if SeqAt.shaped p = true ∧ SeqAt.shaped q = true then .ok (.bl (!PyData.eqv p q)) m else .stuck
  | _, _ => .stuck
theorem rel_eq : RelO K W b (rEqD K) fEq := by
  intro c H σ μ v w d e hK M rv rw_ Q p
  subst hK
  unfold fEq at p
  cases e1 : d.pyM μ with
  | none => rw [e1] at p; exact p.elim
  | some x =>
    cases e2 : e.pyM μ with
    | none => rw [e1, e2] at p; exact p.elim
    | some y =>
      rw [e1, e2] at p
      have p' : Post false c σ H W (if SeqAt.shaped x = true ∧ SeqAt.shaped y = true then .ok (.bl (PyData.eqv x y)) μ else .stuck) Q := p
      by_cases hc : SeqAt.shaped x = true ∧ SeqAt.shaped y = true
      · rw [if_pos hc] at p'
        exact ⟨x, y, rep_dp M rv e1, rep_dp M rw_ e2, hc.1, hc.2, post_bl M p'⟩
      · rw [if_neg hc] at p'
        exact p'.elim
theorem rel_ne : RelO K W b (rNeD K) fNe := by
  intro c H σ μ v w d e hK M rv rw_ Q p
  subst hK
  unfold fNe at p
  cases e1 : d.pyM μ with
  | none => rw [e1] at p; exact p.elim
  | some x =>
    cases e2 : e.pyM μ with
    | none => rw [e1, e2] at p; exact p.elim
    | some y =>
      rw [e1, e2] at p
      have p' : Post false c σ H W (if SeqAt.shaped x = true ∧ SeqAt.shaped y = true then .ok (.bl (!PyData.eqv x y)) μ else .stuck) Q := p
      by_cases hc : SeqAt.shaped x = true ∧ SeqAt.shaped y = true
      · rw [if_pos hc] at p'
        exact ⟨x, y, rep_dp M rv e1, rep_dp M rw_ e2, hc.1, hc.2, post_bl M p'⟩
      · rw [if_neg hc] at p'
        exact p'.elim
/-- in, not in: a list or a tuple of data -/
def rInA (K : PySem.W.Frag) (neg : Bool) : R2 := fun x y H Q => ∃ d ds, Dp K H x d ∧ (Dp K H y (.list ds) ∨ Dp K H y (.tuple ds)) ∧ SeqAt.shaped d = true ∧ PyData.canLayAll0 ds = true ∧ Q (.bl (if neg then !ds.any (fun z => PyData.eqv z d) else ds.any fun z => PyData.eqv z d)) H
theorem room_in1 {A : Around} {k : Nat} {d : PyData} (h : SeqAt.shaped d = true) (hu : A.units + 65 < cLine) : A.units + 1 + min k d.depth < cLine := by
  have h1 := SeqAt.depth_of_shaped h
  have h2 : min k d.depth ≤ d.depth := Nat.min_le_right _ _
  omega
theorem op_inA {X : Cx} (hu : X.A.units + 65 < cLine) : OpR X (compareOp .In) (rInA X.K false) := by
  intro pins s σ H x y v u Q I rx ry h
  obtain ⟨d, ds, hd, he, sd, se, q⟩ := h
  obtain ⟨as, r1⟩ := Dp.reads I d x v hd rx
  rcases he with he | he
  · obtain ⟨bs, r2⟩ := Dp.reads I (.list ds) y u he ry
    exact SeqAt.in_list_reads r2 r1 se (SeqAt.canLay_of_shaped sd) (room_in1 sd hu) ⟨.bl _, H, I, rfl, q⟩
  · obtain ⟨bs, r2⟩ := Dp.reads I (.tuple ds) y u he ry
    exact SeqAt.in_tuple_reads r2 r1 se (SeqAt.canLay_of_shaped sd) (room_in1 sd hu) ⟨.bl _, H, I, rfl, q⟩
theorem op_notInA {X : Cx} (hu : X.A.units + 65 < cLine) : OpR X (compareOp .NotIn) (rInA X.K true) := by
  intro pins s σ H x y v u Q I rx ry h
  obtain ⟨d, ds, hd, he, sd, se, q⟩ := h
  obtain ⟨as, r1⟩ := Dp.reads I d x v hd rx
  rcases he with he | he
  · obtain ⟨bs, r2⟩ := Dp.reads I (.list ds) y u he ry
    exact SeqAt.notIn_list_reads r2 r1 se (SeqAt.canLay_of_shaped sd) (room_in1 sd hu) ⟨.bl _, H, I, rfl, q⟩
  · obtain ⟨bs, r2⟩ := Dp.reads I (.tuple ds) y u he ry
    exact SeqAt.notIn_tuple_reads r2 r1 se (SeqAt.canLay_of_shaped sd) (room_in1 sd hu) ⟨.bl _, H, I, rfl, q⟩
def PyData.items? : PyData → Option (List PyData)
  | .list l => some l
  | .tuple l => some l
  | _ => none
def fInG (neg : Bool) (d e : D) (m : Mu) : Out D := match d.pyM m, (e.pyM m).bind PyData.items? with
  | some p, some qs => if SeqAt.shaped p = true ∧ PyData.canLayAll0 qs = true then .ok (.bl (if neg then !qs.any (fun z => PyData.eqv z p) else qs.any fun z => PyData.eqv z p)) m else .stuck
  | _, _ => .stuck
theorem rel_in (neg : Bool) : RelO K W b (rInA K neg) (fInG neg) := by
  intro c H σ μ v w d e hK M rv rw_ Q p
  subst hK
  unfold fInG at p
  cases e1 : d.pyM μ with
  | none => rw [e1] at p; exact p.elim
  | some x =>
    cases e2 : e.pyM μ with
    | none => rw [e1, e2] at p; exact p.elim
    | some y =>
      rw [e1, e2] at p
      cases e3 : PyData.items? y with
      | none =>
        have p' : Post false c σ H W (match some x, (some y).bind PyData.items? with
          | some p, some qs => if SeqAt.shaped p = true ∧ PyData.canLayAll0 qs = true then .ok (.bl (if neg then !qs.any (fun z => PyData.eqv z p) else qs.any fun z => PyData.eqv z p)) μ else .stuck
          | _, _ => .stuck) Q := p
        rw [Option.bind_some, e3] at p'
        exact p'.elim
      | some qs =>
        have p' : Post false c σ H W (match some x, (some y).bind PyData.items? with
          | some p, some qs => if SeqAt.shaped p = true ∧ PyData.canLayAll0 qs = true then .ok (.bl (if neg then !qs.any (fun z => PyData.eqv z p) else qs.any fun z => PyData.eqv z p)) μ else .stuck
          | _, _ => .stuck) Q := p
        rw [Option.bind_some, e3] at p'
        have p2 : Post false c σ H W (if SeqAt.shaped x = true ∧ PyData.canLayAll0 qs = true then .ok (.bl (if neg then !qs.any (fun z => PyData.eqv z x) else qs.any fun z => PyData.eqv z x)) μ else .stuck) Q := p'
        by_cases hc : SeqAt.shaped x = true ∧ PyData.canLayAll0 qs = true
        · rw [if_pos hc] at p2
          refine ⟨x, qs, rep_dp M rv e1, ?_, hc.1, hc.2, post_bl M p2⟩
          have hy := rep_dp M rw_ e2
          cases y with
          | list l => cases e3; exact .inl hy
          | tuple l => cases e3; exact .inr hy
          | _ => cases e3
        · rw [if_neg hc] at p2
          exact p2.elim
/-- is None, is not None -/
def isNon : D → Bool
  | .non => true
  | _ => false
def fIsN : D → D → Mu → Out D
  | d, .non, m => .ok (.bl (isNon d)) m
  | _, _, _ => .stuck
def fNotN : D → D → Mu → Out D
  | d, .non, m => .ok (.bl (!isNon d)) m
  | _, _, _ => .stuck
theorem rep_isNon {c : Ct} {H : Hp} {v : V} {d : D} (r : RepF b c H v d) : decide (v = .non) = isNon d := by
  rcases r with r | ⟨_, ⟨a, vs, ds, h1, h2, _⟩ | ⟨a, ks, vs, h1, h2, _⟩⟩
  · cases r <;> first | rfl | exact decide_eq_false (fun z => by cases z)
  · subst h1 h2
    exact decide_eq_false (fun z => by cases z)
  · subst h1 h2
    exact decide_eq_false (fun z => by cases z)
theorem rel_isN : RelO K W b (fun x y H Q => y = .non ∧ Q (.bl (decide (x = .non))) H) fIsN := by
  intro c H σ μ v w d e hK M rv rw_ Q p
  cases e with
  | non =>
    refine ⟨rep_non rw_, ?_⟩
    rw [rep_isNon rv]
    exact post_bl M (show Post false c σ H W (.ok (.bl (isNon d)) μ) Q from p)
  | _ => exact p.elim
theorem rel_notN : RelO K W b (fun x y H Q => y = .non ∧ Q (.bl (!decide (x = .non))) H) fNotN := by
  intro c H σ μ v w d e hK M rv rw_ Q p
  cases e with
  | non =>
    refine ⟨rep_non rw_, ?_⟩
    rw [rep_isNon rv]
    exact post_bl M (show Post false c σ H W (.ok (.bl (!isNon d)) μ) Q from p)
  | _ => exact p.elim

/-! ### items -/
def seqOf (μ : Mu) : D → Option (List D)
  | .lst l => some l
  | .tup l => some l
  | .scr l => some (l.map .int)
  | .cell n => μ[n]?
  | _ => none
theorem reps_ints {c : Ct} {H : Hp} : ∀ ns : List Int, Reps c H (ns.map V.int) (ns.map D.int)
  | [] => .nil
  | n :: r => .cons (.int n) (reps_ints r)
/-- a list (its own, in the store, the script) or a tuple -/
theorem rep_seq {c : Ct} {H : Hp} {m : Mu} {v : V} {d : D} {ds : List D} (M : MRel c H m) (r : RepF b c H v d) (e : seqOf m d = some ds) : ∃ a vs, v = .ref a ∧ (SqL c.K H a vs ∨ SqT c.K H a vs) ∧ Reps c H vs ds := by
  cases d with
  | lst l => obtain ⟨a, vs, h1, h2, h3⟩ := rep_list M r (show listOf m (.lst l) = some ds from e); exact ⟨a, vs, h1, .inl (SqL.of h2), h3⟩
  | cell n => obtain ⟨a, vs, h1, h2, h3⟩ := rep_list M r (show listOf m (.cell n) = some ds from e); exact ⟨a, vs, h1, .inl (SqL.of h2), h3⟩
  | tup l => cases e; obtain ⟨a, vs, h1, _, h2, h3⟩ := rep_tup r; exact ⟨a, vs, h1, .inr (SqT.of h2), h3⟩
  | scr l => cases e; obtain ⟨a, h1, h2⟩ := rep_scr r; exact ⟨a, _, h1, .inl h2, reps_ints l⟩
  | _ => cases e
theorem Reps.atI {c : Ct} {H : Hp} {vs : List V} {ds : List D} {i : Int} {d : D} (r : Reps c H vs ds) (e : L2.atI ds i = some d) : ∃ v, L2.atI vs i = some v ∧ Rep c H v d := by
  unfold L2.atI at e ⊢
  rw [r.length]
  cases q : ixN ds.length i with
  | none => rw [q] at e; cases e
  | some j =>
    rw [q, Option.bind_some] at e
    rw [Option.bind_some]
    exact r.getD e
def fIx (d e : D) (m : Mu) : Out D := match seqOf m d, e with
  | some l, .int i => (match L2.atI l i with
    | some x => .ok x m
    | none => .stuck)
  | _, _ => .stuck
def rIxA (K : PySem.W.Frag) : R2 := fun x y H Q => rIxL K x y H Q ∨ rIxT K x y H Q
theorem ix_A {X : Cx} : IxR X (rIxA X.K) := ix_list.or ix_tup
theorem rel_ix : RelO K W b (rIxA K) fIx := by
  intro c H σ μ v w d e hK M rv rw_ Q p
  subst hK
  unfold fIx at p
  cases e1 : seqOf μ d with
  | none => rw [e1] at p; exact p.elim
  | some l =>
    rw [e1] at p
    cases e with
    | int i =>
      have p' : Post false c σ H W (match L2.atI l i with | some x => .ok x μ | none => .stuck) Q := p
      cases e2 : L2.atI l i with
      | none => rw [e2] at p'; exact p'.elim
      | some x =>
        rw [e2] at p'
        obtain ⟨a, vs, h1, h2, h3⟩ := rep_seq M rv e1
        obtain ⟨y, h4, h5⟩ := h3.atI e2
        rcases h2 with h2 | h2
        · exact .inl ⟨a, vs, i, y, h1, rep_int rw_, h2, h4, post_val M h5 p'⟩
        · exact .inr ⟨a, vs, i, y, h1, rep_int rw_, h2, h4, post_val M h5 p'⟩
    | _ => exact p.elim

/-! ### calls of what is built in -/
theorem repsF_one {c : Ct} {H : Hp} {vs : List V} {d : D} (r : RepsF b c H vs [d]) : ∃ v, vs = [v] ∧ RepF b c H v d := by
  cases r with
  | cons h t => cases t; exact ⟨_, rfl, h⟩
theorem repsF_two {c : Ct} {H : Hp} {vs : List V} {d e : D} (r : RepsF b c H vs [d, e]) : ∃ v w, vs = [v, w] ∧ RepF b c H v d ∧ RepF b c H w e := by
  cases r with
  | cons h t =>
    cases t with
    | cons h2 t2 => cases t2; exact ⟨_, _, rfl, h, h2⟩
def fLen : List D → Mu → Out D
  | [.str x], m => if line x.length = true then .ok (.int x.length) m else .stuck
  | [d], m => (match seqOf m d with
    | some l => .ok (.int l.length) m
    | none => .stuck)
  | _, _ => .stuck
def rLenA (K : PySem.W.Frag) : List V → Hp → VK → Prop := fun xs H Q => (∃ p ys, xs = [.ref p] ∧ (SqL K H p ys ∨ SqT K H p ys) ∧ Q (.int ys.length) H) ∨ (∃ z, xs = [.str z] ∧ z.length ≤ sizeLine ∧ Q (.int z.length) H)
theorem call_lenA {X : Cx} : CallR X (.builtin "len") (rLenA X.K) := call_len_seq.or call_len_str
theorem rel_len : RelL K W b (rLenA K) fLen := by
  intro c H σ μ vs ds hK M r Q p
  subst hK
  cases ds with
  | nil => exact p.elim
  | cons d t =>
    cases t with
    | cons _ _ => cases d <;> exact p.elim
    | nil =>
      obtain ⟨v, rfl, rv⟩ := repsF_one r
      have seq : ∀ l, seqOf μ d = some l → Post false c σ H W (.ok (.int l.length) μ) Q → rLenA c.K [v] H Q := fun l e q => by
        obtain ⟨a, vs, h1, h2, h3⟩ := rep_seq M rv e
        subst h1
        refine .inl ⟨a, vs, rfl, h2, ?_⟩
        rw [h3.length]
        exact post_int M q
      cases d with
      | str x =>
        have p' : Post false c σ H W (if line x.length = true then .ok (.int x.length) μ else .stuck) Q := p
        by_cases hc : line x.length = true
        · rw [if_pos hc] at p'
          rw [rep_str rv]
          exact .inr ⟨x, rfl, line_ok hc, post_int M p'⟩
        · rw [if_neg hc] at p'
          exact p'.elim
      | lst l => exact seq l rfl p
      | tup l => exact seq l rfl p
      | scr l => exact seq _ rfl p
      | cell n =>
        cases e : μ[n]? with
        | none =>
          have p' : Post false c σ H W (match μ[n]? with | some l => .ok (.int l.length) μ | none => .stuck) Q := p
          rw [e] at p'
          exact p'.elim
        | some l =>
          have p' : Post false c σ H W (match μ[n]? with | some l => .ok (.int l.length) μ | none => .stuck) Q := p
          rw [e] at p'
          exact seq l e p'
      | _ => exact p.elim
def fAbs : List D → Mu → Out D
  | [.int i], m => .ok (.int (if i < 0 then -i else i)) m
  | _, _ => .stuck
theorem rel_abs : RelL K W b (fun xs H Q => ∃ i, xs = [.int i] ∧ Q (.int (if i < 0 then -i else i)) H) fAbs := by
  intro c H σ μ vs ds hK M r Q p
  cases ds with
  | nil => exact p.elim
  | cons d t =>
    cases t with
    | cons _ _ => cases d <;> exact p.elim
    | nil =>
      obtain ⟨v, rfl, rv⟩ := repsF_one r
      cases d with
      | int i => rw [rep_int rv]; exact ⟨i, rfl, post_int M p⟩
      | _ => exact p.elim
def fInt : List D → Mu → Out D
  | [.int i], m => .ok (.int i) m
  | [.bl k], m => .ok (.int (if k then 1 else 0)) m
  | _, _ => .stuck
theorem rel_int : RelL K W b (fun xs H Q => (∃ i, xs = [.int i] ∧ Q (.int i) H) ∨ ∃ k, xs = [.bl k] ∧ Q (.int (if k then 1 else 0)) H) fInt := by
  intro c H σ μ vs ds hK M r Q p
  cases ds with
  | nil => exact p.elim
  | cons d t =>
    cases t with
    | cons _ _ => cases d <;> exact p.elim
    | nil =>
      obtain ⟨v, rfl, rv⟩ := repsF_one r
      cases d with
      | int i => rw [rep_int rv]; exact .inl ⟨i, rfl, post_int M p⟩
      | bl i => rw [rep_bl rv]; exact .inr ⟨i, rfl, post_int M p⟩
      | _ => exact p.elim
/-- tuple(x), list(x) -/
def fTuple : List D → Mu → Out D
  | [d], m => (match seqOf m d with
    | some l => .ok (.tup l) m
    | none => .stuck)
  | _, _ => .stuck
def fList : List D → Mu → Out D
  | [d], m => (match seqOf m d with
    | some l => .ok (.lst l) m
    | none => .stuck)
  | _, _ => .stuck
theorem rel_tuple : RelL K W b (fun xs H Q => ∃ p ys, xs = [.ref p] ∧ ((SqL K H p ys ∧ ∀ l, H l = none → Q (.ref l) (upd H l (.tup ys))) ∨ (SqT K H p ys ∧ Q (.ref p) H))) fTuple := by
  intro c H σ μ vs ds hK M r Q p
  subst hK
  cases ds with
  | nil => exact p.elim
  | cons d t =>
    cases t with
    | cons _ _ => exact p.elim
    | nil =>
      obtain ⟨v, rfl, rv⟩ := repsF_one r
      have p' : Post false c σ H W (match seqOf μ d with | some l => .ok (.tup l) μ | none => .stuck) Q := p
      cases e : seqOf μ d with
      | none => rw [e] at p'; exact p'.elim
      | some l =>
        rw [e] at p'
        cases d with
        | tup l' =>
          cases e
          obtain ⟨a, vs, rfl, h1, h2, h3⟩ := rep_tup rv
          exact ⟨a, vs, rfl, .inr ⟨SqT.of h2, post_val M (.tup h1 h2 h3) p'⟩⟩
        | lst l' =>
          obtain ⟨a, vs, rfl, h2, h3⟩ := rep_list M rv (show listOf μ (.lst l') = some l from e)
          exact ⟨a, vs, rfl, .inl ⟨SqL.of h2, fun q hq => post_tup M h3 hq p'⟩⟩
        | cell l' =>
          obtain ⟨a, vs, rfl, h2, h3⟩ := rep_list M rv (show listOf μ (.cell l') = some l from e)
          exact ⟨a, vs, rfl, .inl ⟨SqL.of h2, fun q hq => post_tup M h3 hq p'⟩⟩
        | scr l' =>
          cases e
          obtain ⟨a, rfl, h2⟩ := rep_scr rv
          exact ⟨a, _, rfl, .inl ⟨h2, fun q hq => post_tup M (reps_ints l') hq p'⟩⟩
        | _ => cases e
theorem rel_list : RelL K W b (fun xs H Q => ∃ p ys, xs = [.ref p] ∧ (SqL K H p ys ∨ SqT K H p ys) ∧ ∀ l, H l = none → Q (.ref l) (upd H l (.lst ys))) fList := by
  intro c H σ μ vs ds hK M r Q p
  subst hK
  cases ds with
  | nil => exact p.elim
  | cons d t =>
    cases t with
    | cons _ _ => exact p.elim
    | nil =>
      obtain ⟨v, rfl, rv⟩ := repsF_one r
      have p' : Post false c σ H W (match seqOf μ d with | some l => .ok (.lst l) μ | none => .stuck) Q := p
      cases e : seqOf μ d with
      | none => rw [e] at p'; exact p'.elim
      | some l =>
        rw [e] at p'
        obtain ⟨a, vs, rfl, h2, h3⟩ := rep_seq M rv e
        exact ⟨a, vs, rfl, h2, fun q hq => post_lst M h3 hq p'⟩
end

/-! ### rules for expressions -/
section
variable {X : Cx} {W : WX} {b b' : Bool} {e f : Expr} {es : List Expr} {ma mb : SE} {mr : SA} {pos : Pos}
theorem pd_add (ha : PD X W true e ma) (hb : PD X W true f mb) : PD X W b (.BinOp e .Add f pos) (mOp fAdd ma mb) := pd_op op_addA rel_add ha hb
theorem pd_sub (ha : PD X W true e ma) (hb : PD X W true f mb) : PD X W b (.BinOp e .Sub f pos) (mOp fSub ma mb) := pd_op op_sub rel_I0 ha hb
theorem pd_mul (ha : PD X W true e ma) (hb : PD X W true f mb) : PD X W b (.BinOp e .Mult f pos) (mOp (fI cMul fun i j => i * j) ma mb) := pd_op op_mul (rel_I cMul_ok) ha hb
theorem pd_div (ha : PD X W true e ma) (hb : PD X W true f mb) : PD X W b (.BinOp e .FloorDiv f pos) (mOp fDiv ma mb) := pd_op op_fdivW (rel_I cDiv_ok) ha hb
theorem pd_mod (ha : PD X W true e ma) (hb : PD X W true f mb) : PD X W b (.BinOp e .Mod f pos) (mOp fMod ma mb) := pd_op op_mod (rel_I fun i j h => of_decide_eq_true h) ha hb
theorem pd_pow (ha : PD X W true e ma) (hb : PD X W true f mb) : PD X W b (.BinOp e .Pow f pos) (mOp fPow ma mb) := pd_op op_pow (rel_I cPow_ok) ha hb
theorem pd_lt (ha : PD X W true e ma) (hb : PD X W true f mb) : PD X W b (.Compare e [.Lt] [f] pos) (mOp fLt ma mb) := pd_cmp op_lt rel_B ha hb
theorem pd_le (ha : PD X W true e ma) (hb : PD X W true f mb) : PD X W b (.Compare e [.LtE] [f] pos) (mOp fLe ma mb) := pd_cmp op_le rel_B ha hb
theorem pd_gt (ha : PD X W true e ma) (hb : PD X W true f mb) : PD X W b (.Compare e [.Gt] [f] pos) (mOp fGt ma mb) := pd_cmp op_gt rel_B ha hb
theorem pd_ge (ha : PD X W true e ma) (hb : PD X W true f mb) : PD X W b (.Compare e [.GtE] [f] pos) (mOp fGe ma mb) := pd_cmp op_ge rel_B ha hb
theorem pd_eq (hu : X.A.units + 64 < cLine) (ha : PD X W true e ma) (hb : PD X W true f mb) : PD X W b (.Compare e [.Eq] [f] pos) (mOp fEq ma mb) := pd_cmp (op_eqD hu) rel_eq ha hb
theorem pd_ne (hu : X.A.units + 64 < cLine) (ha : PD X W true e ma) (hb : PD X W true f mb) : PD X W b (.Compare e [.NotEq] [f] pos) (mOp fNe ma mb) := pd_cmp (op_neD hu) rel_ne ha hb
theorem pd_in (hu : X.A.units + 65 < cLine) (ha : PD X W true e ma) (hb : PD X W true f mb) (hm : behindInMarks .In f = false := by rfl) : PD X W b (.Compare e [.In] [f] pos) (mOp (fInG false) ma mb) := pd_cmp (op_inA hu) (rel_in false) ha hb hm
theorem pd_notIn (hu : X.A.units + 65 < cLine) (ha : PD X W true e ma) (hb : PD X W true f mb) (hm : behindInMarks .NotIn f = false := by rfl) : PD X W b (.Compare e [.NotIn] [f] pos) (mOp (fInG true) ma mb) := pd_cmp (op_notInA hu) (rel_in true) ha hb hm
theorem pd_isN (ha : PD X W true e ma) (hb : PD X W true f mb) : PD X W b (.Compare e [.Is] [f] pos) (mOp fIsN ma mb) := pd_cmp op_isN rel_isN ha hb
theorem pd_notN (ha : PD X W true e ma) (hb : PD X W true f mb) : PD X W b (.Compare e [.IsNot] [f] pos) (mOp fNotN ma mb) := pd_cmp op_notN rel_notN ha hb
theorem pd_ix (ha : PD X W true e ma) (hb : PD X W true f mb) (hs : PlainIx f := by exact fun _ _ => rfl) : PD X W b (.Subscript e f pos) (mOp fIx ma mb) := by
  obtain ⟨t, h1, h2⟩ := ha
  obtain ⟨u, h3, h4⟩ := hb
  exact ⟨_, pe_ix ix_A h1 h3 hs, sim_op rel_ix h2 h4⟩
/-- written tuples, lists -/
def fTup (ds : List D) (m : Mu) : Out D := if line ds.length = true then .ok (.tup ds) m else .stuck
def fLst (ds : List D) (m : Mu) : Out D := if line ds.length = true then .ok (.lst ds) m else .stuck
theorem rel_tup : RelL X.K W false (fun xs H Q => xs.length ≤ sizeLine ∧ ∀ p, H p = none → Q (.ref p) (upd H p (.tup xs))) fTup := by
  intro c H σ μ vs ds hK M r Q p
  unfold fTup at p
  by_cases hc : line ds.length = true
  · rw [if_pos hc] at p
    exact ⟨by rw [r.length]; exact line_ok hc, fun q hq => post_tup M r.reps hq p⟩
  · rw [if_neg hc] at p
    exact p.elim
theorem rel_lst : RelL X.K W false (fun xs H Q => xs.length ≤ sizeLine ∧ ∀ p, H p = none → Q (.ref p) (upd H p (.lst xs))) fLst := by
  intro c H σ μ vs ds hK M r Q p
  unfold fLst at p
  by_cases hc : line ds.length = true
  · rw [if_pos hc] at p
    exact ⟨by rw [r.length]; exact line_ok hc, fun q hq => post_lst M r.reps hq p⟩
  · rw [if_neg hc] at p
    exact p.elim
theorem pd_tup {x1} (ha : PDA X W false es mr) : PD X W b (.Tuple es x1 pos) (mApp fTup mr) := by
  obtain ⟨t, h1, h2⟩ := ha
  exact ⟨_, pe_tup h1, sim_app rel_tup h2⟩
theorem pd_lst (ha : PDA X W false es mr) : PD X W b (.List es pos) (mApp fLst mr) := by
  obtain ⟨t, h1, h2⟩ := ha
  exact ⟨_, pe_lst h1, sim_app rel_lst h2⟩
end
end DL
/-! # DL, tests and statements -/
namespace DL
open PySem PySem.Spec L2
open PyProof.Rows hiding St
variable [HasL] [HasX] [HasH]

/-! ### tests -/
def isB : D → Mu → Out Bool
  | .bl k, m => .ok k m
  | _, _ => .stuck
def mTest (m : SE) : ST' := fun ρ μ => (m ρ μ).bnd isB
def mAnd (t u : ST') : ST' := fun ρ μ => (t ρ μ).bnd fun k μ1 => if k = true then u ρ μ1 else .ok false μ1
def mOr (t u : ST') : ST' := fun ρ μ => (t ρ μ).bnd fun k μ1 => if k = true then .ok true μ1 else u ρ μ1
def mNot (t : ST') : ST' := fun ρ μ => (t ρ μ).bnd fun k μ1 => .ok (!k) μ1
def mIf (t : ST') (ma mb : SE) : SE := fun ρ μ => (t ρ μ).bnd fun k μ1 => if k = true then ma ρ μ1 else mb ρ μ1
def mB (t : ST') : SE := fun ρ μ => (t ρ μ).bnd fun k μ1 => .ok (.bl k) μ1
section
variable {K : PySem.W.Frag} {W : WX} {b : Bool}
theorem postB_of {c : Ct} {σ : St} {H : Hp} {m : Mu} {k : Bool} {Q : Bool → Hp → Prop} (M : MRel c H m) (p : PostB c σ H W (.ok k m) Q) : Q k H := p k c H (Stp.refl c H) M rfl
theorem sim_test {t : TE} {m : SE} (h : SimE K W b t m) : SimT K W (fun σ H Q => t σ H fun x H' => ∃ k, x = .bl k ∧ Q k H') (mTest m) := by
  intro c H σ ρ μ hK k Q p
  refine h c H σ ρ μ hK k _ (PostG.bnd p fun d μ1 v c1 H1 s1 M1 r1 p1 => ?_)
  cases d with
  | bl q => exact ⟨q, rep_bl r1, postB_of M1 p1⟩
  | _ => exact p1.elim
theorem sim_and {t u : TT} {mt mu : ST'} (h1 : SimT K W t mt) (h2 : SimT K W u mu) : SimT K W (tAnd t u) (mAnd mt mu) := by
  intro c H σ ρ μ hK k Q p
  refine h1 c H σ ρ μ hK k _ (PostG.bnd p fun d μ1 v c1 H1 s1 M1 r1 p1 => ?_)
  subst r1
  cases v with
  | true => rw [if_pos rfl]; exact h2 c1 H1 σ ρ μ1 (s1.K.trans hK) (k.step s1 M1) Q (by rw [if_pos rfl] at p1; exact p1)
  | false => rw [if_neg Bool.false_ne_true]; exact postB_of M1 (by rw [if_neg Bool.false_ne_true] at p1; exact p1)
theorem sim_or {t u : TT} {mt mu : ST'} (h1 : SimT K W t mt) (h2 : SimT K W u mu) : SimT K W (tOr t u) (mOr mt mu) := by
  intro c H σ ρ μ hK k Q p
  refine h1 c H σ ρ μ hK k _ (PostG.bnd p fun d μ1 v c1 H1 s1 M1 r1 p1 => ?_)
  subst r1
  cases v with
  | false => rw [if_neg Bool.false_ne_true]; exact h2 c1 H1 σ ρ μ1 (s1.K.trans hK) (k.step s1 M1) Q (by rw [if_neg Bool.false_ne_true] at p1; exact p1)
  | true => rw [if_pos rfl]; exact postB_of M1 (by rw [if_pos rfl] at p1; exact p1)
theorem sim_not {t : TT} {mt : ST'} (h1 : SimT K W t mt) : SimT K W (tNot t) (mNot mt) := by
  intro c H σ ρ μ hK k Q p
  refine h1 c H σ ρ μ hK k _ (PostG.bnd p fun d μ1 v c1 H1 s1 M1 r1 p1 => ?_)
  subst r1
  exact postB_of M1 p1
theorem sim_if {t : TT} {mt : ST'} {ta tb : TE} {ma mb : SE} (h1 : SimT K W t mt) (h2 : SimE K W b ta ma) (h3 : SimE K W b tb mb) : SimE K W b (tIf t ta tb) (mIf mt ma mb) := by
  intro c H σ ρ μ hK k Q p
  refine h1 c H σ ρ μ hK k _ (PostG.bnd p fun d μ1 v c1 H1 s1 M1 r1 p1 => ?_)
  subst r1
  cases v with
  | true => rw [if_pos rfl]; exact h2 c1 H1 σ ρ μ1 (s1.K.trans hK) (k.step s1 M1) Q (by rw [if_pos rfl] at p1; exact p1)
  | false => rw [if_neg Bool.false_ne_true]; exact h3 c1 H1 σ ρ μ1 (s1.K.trans hK) (k.step s1 M1) Q (by rw [if_neg Bool.false_ne_true] at p1; exact p1)
end
section
variable {X : Cx} {W : WX} {b : Bool} {e f g : Expr} {es : List Expr} {ma mb mc : SE} {mt mu : ST'} {pos : Pos}
/-- a test by its value: a call, a name, an item -/
theorem pdt_val (h : PD X W true e ma) (he : ∀ whole, isTrue e X.env whole = (do let v ← whole; standAt e.pos; holding [v] (truthy v)) := by intro _; rfl) : PDT X W e (mTest ma) := by
  obtain ⟨t, h1, h2⟩ := h
  exact ⟨_, pt_val h1 he, sim_test h2⟩
theorem pdt_cmp {op : CmpOp} {r : R2} {gg : D → D → Mu → Out D} (ho : OpR X (compareOp op) r) (hr : RelO X.K W true r gg) (ha : PD X W true e ma) (hb : PD X W true f mb) (hm : behindInMarks op f = false := by first | exact nomark _ | rfl) : PDT X W (.Compare e [op] [f] pos) (mTest (mOp gg ma mb)) := by
  obtain ⟨t, h1, h2⟩ := ha
  obtain ⟨u, h3, h4⟩ := hb
  exact ⟨_, pt_cmpR ho h1 h3 hm, sim_test (b := true) (sim_op hr h2 h4)⟩
theorem pdt_lt (ha : PD X W true e ma) (hb : PD X W true f mb) : PDT X W (.Compare e [.Lt] [f] pos) (mTest (mOp fLt ma mb)) := pdt_cmp op_lt rel_B ha hb
theorem pdt_le (ha : PD X W true e ma) (hb : PD X W true f mb) : PDT X W (.Compare e [.LtE] [f] pos) (mTest (mOp fLe ma mb)) := pdt_cmp op_le rel_B ha hb
theorem pdt_gt (ha : PD X W true e ma) (hb : PD X W true f mb) : PDT X W (.Compare e [.Gt] [f] pos) (mTest (mOp fGt ma mb)) := pdt_cmp op_gt rel_B ha hb
theorem pdt_ge (ha : PD X W true e ma) (hb : PD X W true f mb) : PDT X W (.Compare e [.GtE] [f] pos) (mTest (mOp fGe ma mb)) := pdt_cmp op_ge rel_B ha hb
theorem pdt_eq (hu : X.A.units + 64 < cLine) (ha : PD X W true e ma) (hb : PD X W true f mb) : PDT X W (.Compare e [.Eq] [f] pos) (mTest (mOp fEq ma mb)) := pdt_cmp (op_eqD hu) rel_eq ha hb
theorem pdt_ne (hu : X.A.units + 64 < cLine) (ha : PD X W true e ma) (hb : PD X W true f mb) : PDT X W (.Compare e [.NotEq] [f] pos) (mTest (mOp fNe ma mb)) := pdt_cmp (op_neD hu) rel_ne ha hb
theorem pdt_in (hu : X.A.units + 65 < cLine) (ha : PD X W true e ma) (hb : PD X W true f mb) (hm : behindInMarks .In f = false := by rfl) : PDT X W (.Compare e [.In] [f] pos) (mTest (mOp (fInG false) ma mb)) := pdt_cmp (op_inA hu) (rel_in false) ha hb hm
theorem pdt_notIn (hu : X.A.units + 65 < cLine) (ha : PD X W true e ma) (hb : PD X W true f mb) (hm : behindInMarks .NotIn f = false := by rfl) : PDT X W (.Compare e [.NotIn] [f] pos) (mTest (mOp (fInG true) ma mb)) := pdt_cmp (op_notInA hu) (rel_in true) ha hb hm
theorem pdt_isN (ha : PD X W true e ma) (hb : PD X W true f mb) : PDT X W (.Compare e [.Is] [f] pos) (mTest (mOp fIsN ma mb)) := pdt_cmp op_isN rel_isN ha hb
theorem pdt_notN (ha : PD X W true e ma) (hb : PD X W true f mb) : PDT X W (.Compare e [.IsNot] [f] pos) (mTest (mOp fNotN ma mb)) := pdt_cmp op_notN rel_notN ha hb
theorem pdw_and1 (ha : PDT X W e mt) : PDW X W (.BoolOp .And [e] pos) mt := by
  obtain ⟨t, h1, h2⟩ := ha
  exact ⟨_, pw_and1 h1, h2⟩
theorem pdw_or1 (ha : PDT X W e mt) : PDW X W (.BoolOp .Or [e] pos) mt := by
  obtain ⟨t, h1, h2⟩ := ha
  exact ⟨_, pw_or1 h1, h2⟩
theorem pdw_and (ha : PDT X W e mt) (hb : PDW X W (.BoolOp .And (f :: es) pos) mu) : PDW X W (.BoolOp .And (e :: f :: es) pos) (mAnd mt mu) := by
  obtain ⟨t, h1, h2⟩ := ha
  obtain ⟨u, h3, h4⟩ := hb
  exact ⟨_, pw_and h1 h3, sim_and h2 h4⟩
theorem pdw_or (ha : PDT X W e mt) (hb : PDW X W (.BoolOp .Or (f :: es) pos) mu) : PDW X W (.BoolOp .Or (e :: f :: es) pos) (mOr mt mu) := by
  obtain ⟨t, h1, h2⟩ := ha
  obtain ⟨u, h3, h4⟩ := hb
  exact ⟨_, pw_or h1 h3, sim_or h2 h4⟩
theorem PDW.pdt (h : PDW X W e mt) : PDT X W e mt := by
  obtain ⟨t, h1, h2⟩ := h
  exact ⟨_, h1.pt, h2⟩
theorem pdt_not (ha : PDT X W e mt) : PDT X W (.UnaryOp .Not e pos) (mNot mt) := by
  obtain ⟨t, h1, h2⟩ := ha
  exact ⟨_, pt_not h1, sim_not h2⟩
theorem pd_if (ht : PDT X W g mt) (ha : PD X W b e ma) (hb : PD X W b f mb) : PD X W b (.IfExp g e f pos) (mIf mt ma mb) := by
  obtain ⟨t, h1, h2⟩ := ht
  obtain ⟨u, h3, h4⟩ := ha
  obtain ⟨w, h5, h6⟩ := hb
  exact ⟨_, pe_ifExp h1 h3 h5, sim_if h2 h4 h6⟩
/-- and, or, not as values: truth values all but the last -/
def mAndV (ma mb : SE) : SE := mIf (mTest ma) mb (mC (.bl false))
def mOrV (ma mb : SE) : SE := mIf (mTest ma) (mC (.bl true)) mb
theorem sim_andV {ta tb : TE} (h2 : SimE X.K W true ta ma) (h3 : SimE X.K W b tb mb) : SimE X.K W b (tAndV ta tb) (mAndV ma mb) := by
  intro c H σ ρ μ hK k Q p
  unfold mAndV mIf mTest at p
  refine h2 c H σ ρ μ hK k _ ?_
  cases e : ma ρ μ with
  | stuck => rw [e] at p; exact p
  | exn x fs m => rw [e] at p; exact p
  | ok d μ1 =>
    rw [e, bnd_ok] at p
    intro v c1 H1 s1 M1 r1
    have p := PostG.step s1 p
    cases d with
    | bl q =>
      refine ⟨q, rep_bl r1, ?_⟩
      have p' : Post b c1 σ H1 W (if q = true then mb ρ μ1 else .ok (.bl false) μ1) Q := p
      cases q with
      | true => rw [if_pos rfl]; exact h3 c1 H1 σ ρ μ1 (s1.K.trans hK) (k.step s1 M1) Q (by rw [if_pos rfl] at p'; exact p')
      | false => rw [if_neg Bool.false_ne_true]; exact post_bl M1 (by rw [if_neg Bool.false_ne_true] at p'; exact p')
    | _ => exact p.elim
theorem sim_orV {ta tb : TE} (h2 : SimE X.K W true ta ma) (h3 : SimE X.K W b tb mb) : SimE X.K W b (tOrV ta tb) (mOrV ma mb) := by
  intro c H σ ρ μ hK k Q p
  unfold mOrV mIf mTest at p
  refine h2 c H σ ρ μ hK k _ ?_
  cases e : ma ρ μ with
  | stuck => rw [e] at p; exact p
  | exn x fs m => rw [e] at p; exact p
  | ok d μ1 =>
    rw [e, bnd_ok] at p
    intro v c1 H1 s1 M1 r1
    have p := PostG.step s1 p
    cases d with
    | bl q =>
      refine ⟨q, rep_bl r1, ?_⟩
      have p' : Post b c1 σ H1 W (if q = true then .ok (.bl true) μ1 else mb ρ μ1) Q := p
      cases q with
      | false => rw [if_neg Bool.false_ne_true]; exact h3 c1 H1 σ ρ μ1 (s1.K.trans hK) (k.step s1 M1) Q (by rw [if_neg Bool.false_ne_true] at p'; exact p')
      | true => rw [if_pos rfl]; exact post_bl M1 (by rw [if_pos rfl] at p'; exact p')
    | _ => exact p.elim
theorem pd_and1 {op} (h : PD X W b e ma) : PD X W b (.BoolOp op [e] pos) ma := by
  obtain ⟨t, h1, h2⟩ := h
  exact ⟨_, pe_one h1, h2⟩
theorem pd_and (ha : PD X W true e ma) (hb : PD X W b (.BoolOp .And (f :: es) pos) mb) : PD X W b (.BoolOp .And (e :: f :: es) pos) (mAndV ma mb) := by
  obtain ⟨t, h1, h2⟩ := ha
  obtain ⟨u, h3, h4⟩ := hb
  exact ⟨_, pe_and h1 h3, sim_andV h2 h4⟩
theorem pd_or (ha : PD X W true e ma) (hb : PD X W b (.BoolOp .Or (f :: es) pos) mb) : PD X W b (.BoolOp .Or (e :: f :: es) pos) (mOrV ma mb) := by
  obtain ⟨t, h1, h2⟩ := ha
  obtain ⟨u, h3, h4⟩ := hb
  exact ⟨_, pe_or h1 h3, sim_orV h2 h4⟩
def mNotV (ma : SE) : SE := fun ρ μ => (mTest ma ρ μ).bnd fun k μ1 => .ok (.bl (!k)) μ1
theorem pd_not (ha : PD X W true e ma) : PD X W b (.UnaryOp .Not e pos) (mNotV ma) := by
  obtain ⟨t, h1, h2⟩ := ha
  refine ⟨_, pe_not h1, fun c H σ ρ μ hK k Q p => ?_⟩
  unfold mNotV mTest at p
  refine h2 c H σ ρ μ hK k _ ?_
  cases e : ma ρ μ with
  | stuck => rw [e] at p; exact p
  | exn x fs m => rw [e] at p; exact p
  | ok d μ1 =>
    rw [e, bnd_ok] at p
    intro v c1 H1 s1 M1 r1
    have p := PostG.step s1 p
    cases d with
    | bl q => exact ⟨q, rep_bl r1, post_bl M1 p⟩
    | _ => exact p.elim
/-- a < b < c -/
def mChain (g1 g2 : D → D → Mu → Out D) (ma mb mc : SE) : SE := fun ρ μ => (ma ρ μ).bnd fun x μ1 => (mb ρ μ1).bnd fun y μ2 => (g1 x y μ2).bnd fun z μ3 => match z with
  | .bl true => (mc ρ μ3).bnd fun w μ4 => g2 y w μ4
  | .bl false => .ok (.bl false) μ3
  | _ => .stuck
end

/-! ### the frame's way from its entry -/
/-- the entry: its place, its heap; values that are held besides (what a loop walks) -/
structure Bs where
  c : Ct
  H : Hp
  zs : List V
  zd : List D
structure FrR (B : Bs) (c : Ct) (H : Hp) (σ : St) (ρ : Env) (μ : Mu) : Prop where
  ok : Ok c H σ ρ μ
  stp : Stp B.c ⟨c.K, c.cs, B.c.br⟩ B.H H
  br : ∃ more, c.br = more ++ B.c.br
  own0 : ∀ (i : Nat) (o : OwnC) (a : Addr), ρ[i]? = some (some (.own o)) → σ[i]? = some (some (.ref a)) → B.H a = none
  held : Reps c H B.zs B.zd
  brH : ∀ x ∈ B.c.br, ∃ o, B.H x = some o
theorem Stp.lessB {c c' : Ct} {H H' : Hp} (s : Stp c c' H H') (br : List Addr) : Stp ⟨c.K, c.cs, br⟩ ⟨c'.K, c'.cs, br⟩ H H' := ⟨s.K, rfl, s.cs, s.keep, s.there, s.tbs⟩
theorem FrR.step {B : Bs} {c c' : Ct} {H H' : Hp} {σ : St} {ρ : Env} {μ μ' : Mu} (f : FrR B c H σ ρ μ) (s : Stp c c' H H') (M : MRel c' H' μ') : FrR B c' H' σ ρ μ' :=
  ⟨f.ok.step s M, f.stp.trans (s.lessB B.c.br), by rw [s.br]; exact f.br, f.own0, f.held.step s, f.brH⟩
mutual
theorem Rep.lessB {c : Ct} {H : Hp} {br : List Addr} (h : ∀ a ∈ br, a ∈ c.br) : ∀ {v : V} {d : D}, Rep c H v d → Rep ⟨c.K, c.cs, br⟩ H v d
  | _, _, .non => .non
  | _, _, .bl b => .bl b
  | _, _, .int i => .int i
  | _, _, .str x => .str x
  | _, _, .ty n => .ty n
  | _, _, .tup h1 h2 h3 => .tup h1 h2 (Reps.lessB h h3)
  | _, _, .lst h1 h0 h2 h3 => .lst h1 (fun q => h0 (h _ q)) h2 (Reps.lessB h h3)
  | _, _, .scr h1 h2 => .scr h1 h2
  | _, _, .scrK h => .scrK h
  | _, _, .dK h1 h0 h2 h3 h4 => .dK h1 (fun q => h0 (h _ q)) h2 h3 (Reps.lessB h h4)
  | _, _, .dT h1 h0 h2 h3 h4 => .dT h1 (fun q => h0 (h _ q)) h2 h3 (Reps.lessB h h4)
  | _, _, .cell h => .cell h
  | _, _, .fn h hf => .fn h hf
  | _, _, .lam h1 h2 h3 h4 => .lam h1 h2 h3 h4
theorem Reps.lessB {c : Ct} {H : Hp} {br : List Addr} (h : ∀ a ∈ br, a ∈ c.br) : ∀ {vs : List V} {ds : List D}, Reps c H vs ds → Reps ⟨c.K, c.cs, br⟩ H vs ds
  | _, _, .nil => .nil
  | _, _, .cons q t => .cons (Rep.lessB h q) (Reps.lessB h t)
end
theorem OAt.lessB {c : Ct} {H : Hp} {a : Addr} {o : OwnC} {br : List Addr} (h : ∀ a ∈ br, a ∈ c.br) (k : OAt c H a o) : OAt ⟨c.K, c.cs, br⟩ H a o := by
  cases o with
  | lst ds =>
    obtain ⟨vs, e, r⟩ := k
    exact ⟨vs, e, r.lessB h⟩
  | dic ks vs =>
    rcases k with ⟨kvs, e, q, r⟩ | ⟨kvs, e, q, r⟩
    · exact .inl ⟨kvs, e, q, r.lessB h⟩
    · exact .inr ⟨kvs, e, q, r.lessB h⟩
/-- no frame's any more: a value -/
theorem OAt.rep {c : Ct} {H : Hp} {a : Addr} {o : OwnC} {br : List Addr} (h : ∀ a ∈ br, a ∈ c.br) (hc : a ∉ c.cs) (hb : a ∉ br) (k : OAt c H a o) : Rep ⟨c.K, c.cs, br⟩ H (.ref a) o.val := by
  cases o with
  | lst ds =>
    obtain ⟨vs, e, r⟩ := k
    exact .lst hc hb e (r.lessB h)
  | dic ks vs =>
    rcases k with ⟨kvs, e, q, r⟩ | ⟨kvs, e, q, r⟩
    · exact .dK hc hb e q (r.lessB h)
    · exact .dT hc hb e q (r.lessB h)
theorem MRel.lessB {c : Ct} {H : Hp} {br : List Addr} {m : Mu} (h : ∀ a ∈ br, a ∈ c.br) (M : MRel c H m) : MRel ⟨c.K, c.cs, br⟩ H m := ⟨M.len, M.nd, fun n a ds e1 e2 => by
  obtain ⟨h1, vs, h2, h3⟩ := M.at_ n a ds e1 e2
  exact ⟨fun q => h1 (h _ q), vs, h2, h3.lessB h⟩, fun a q => M.br a (h a q), M.tabs, fun p hp => (M.held p hp).lessB h⟩
/-- what a def hands back -/
def Fin (c0 : Ct) (H0 : Hp) (H' : Hp) (μ' : Mu) (v : V) (d : D) : Prop := ∃ c', Stp c0 c' H0 H' ∧ MRel c' H' μ' ∧ Rep c' H' v d
theorem FrR.fin {B : Bs} {c : Ct} {H : Hp} {σ : St} {ρ : Env} {μ : Mu} {v : V} {d : D} (f : FrR B c H σ ρ μ) (r : Rep c H v d) : Fin B.c B.H H μ v d := by
  obtain ⟨more, e⟩ := f.br
  have h : ∀ a ∈ B.c.br, a ∈ c.br := fun a q => by rw [e]; exact List.mem_append_right _ q
  exact ⟨⟨c.K, c.cs, B.c.br⟩, f.stp, f.ok.m.lessB h, r.lessB h⟩

inductive SOut where
  | nx (ρ : Env) (m : Mu) | rt (d : D) (m : Mu) | bk (ρ : Env) (m : Mu) | ct (ρ : Env) (m : Mu) | exn (x : Str) (fs : List (Str × D)) (ρ : Env) (m : Mu) | stuck
abbrev SS := Env → Mu → SOut
def Out.go {α : Type} (o : Out α) (ρ : Env) (f : α → Mu → SOut) : SOut := match o with
  | .ok a m => f a m
  | .exn x fs m => .exn x fs ρ m
  | .stuck => .stuck
def SOut.seq (o : SOut) (f : SS) : SOut := match o with
  | .nx ρ m => f ρ m
  | o => o
@[simp] theorem go_ok {α : Type} (a : α) (m : Mu) (ρ : Env) (f : α → Mu → SOut) : (Out.ok a m).go ρ f = f a m := rfl
@[simp] theorem go_exn {α : Type} (x : Str) (fs : List (Str × D)) (m : Mu) (ρ : Env) (f : α → Mu → SOut) : (Out.exn x fs m : Out α).go ρ f = .exn x fs ρ m := rfl
@[simp] theorem go_stuck {α : Type} (ρ : Env) (f : α → Mu → SOut) : (Out.stuck : Out α).go ρ f = .stuck := rfl
@[simp] theorem seq_nx (ρ : Env) (m : Mu) (f : SS) : (SOut.nx ρ m).seq f = f ρ m := rfl
@[simp] theorem seq_rt (d : D) (m : Mu) (f : SS) : (SOut.rt d m).seq f = .rt d m := rfl
@[simp] theorem seq_bk (ρ : Env) (m : Mu) (f : SS) : (SOut.bk ρ m).seq f = .bk ρ m := rfl
@[simp] theorem seq_ct (ρ : Env) (m : Mu) (f : SS) : (SOut.ct ρ m).seq f = .ct ρ m := rfl
@[simp] theorem seq_exn (x : Str) (fs : List (Str × D)) (ρ : Env) (m : Mu) (f : SS) : (SOut.exn x fs ρ m).seq f = .exn x fs ρ m := rfl
@[simp] theorem seq_stuck (f : SS) : SOut.stuck.seq f = .stuck := rfl
def PostS (B : Bs) (W : WX) (o : SOut) (D : Ends) : Prop := match o with
  | .nx ρ m => ∀ c H σ, FrR B c H σ ρ m → D.nx σ H
  | .bk ρ m => ∀ c H σ, FrR B c H σ ρ m → D.bk σ H
  | .ct ρ m => ∀ c H σ, FrR B c H σ ρ m → D.ct σ H
  | .rt d m => ∀ H v, Fin B.c B.H H m v d → D.rt v H
  | .exn x fs ρ m => ∀ c H σ cls dd, FrR B c H σ ρ m → ExR c H cls dd x fs → W cls dd σ H
  | .stuck => False
def SimS (K : PySem.W.Frag) (W : WX) (t : TS) (m : SS) : Prop := ∀ B c H σ ρ μ, c.K = K → FrR B c H σ ρ μ → ∀ D, PostS B W (m ρ μ) D → t D σ H
def PSD (X : Cx) (W : WX) (s : Stmt) (m : SS) : Prop := ∃ t, PS X s t ∧ SimS X.K W t m
def PSDs (X : Cx) (W : WX) (s : List Stmt) (m : SS) : Prop := ∃ t, PSs X s t ∧ SimS X.K W t m

/-- from an expression's end on -/
theorem FrR.go {α β : Type} {G : Ct → Hp → β → α → Prop} {B : Bs} {c : Ct} {H : Hp} {σ : St} {ρ : Env} {μ : Mu} {W : WX} {o : Out α} {k : α → Mu → SOut} {D : Ends} {R : β → Hp → Prop} (f : FrR B c H σ ρ μ) (p : PostS B W (o.go ρ k) D)
    (h : ∀ d m v c' H', Stp c c' H H' → FrR B c' H' σ ρ m → G c' H' v d → PostS B W (k d m) D → R v H') : PostG G c σ H W o R := by
  cases o with
  | ok d m => exact fun v c' H' s M r => h d m v c' H' s (f.step s M) r p
  | exn x fs m => exact fun cls dd c' H' s M r => p c' H' σ cls dd (f.step s M) r
  | stuck => exact p

section
variable {X : Cx} {W : WX} {b : Bool} {e : Expr} {ma : SE} {mt : ST'} {s : Stmt} {rest : List Stmt} {m n : SS} {pos : Pos}
def sNx : SS := fun ρ μ => .nx ρ μ
def sSeq (m n : SS) : SS := fun ρ μ => (m ρ μ).seq n
theorem psd_nil : PSDs X W [] sNx := ⟨_, pss_nil, fun B c H σ ρ μ hK f D p => p c H σ f⟩
theorem FrR.K {B : Bs} {c : Ct} {H : Hp} {σ : St} {ρ : Env} {μ : Mu} (f : FrR B c H σ ρ μ) : c.K = B.c.K := f.stp.K
theorem psd_cons (h1 : PSD X W s m) (h2 : PSDs X W rest n) : PSDs X W (s :: rest) (sSeq m n) := by
  obtain ⟨t, h1, s1⟩ := h1
  obtain ⟨u, h2, s2⟩ := h2
  refine ⟨_, pss_cons h1 h2, fun B c H σ ρ μ hK f D p => ?_⟩
  refine s1 B c H σ ρ μ hK f _ ?_
  unfold sSeq at p
  cases q : m ρ μ with
  | nx ρ1 μ1 => rw [q] at p; exact fun c1 H1 σ1 f1 => s2 B c1 H1 σ1 ρ1 μ1 (f1.K.trans (f.K.symm.trans hK)) f1 D p
  | rt d m => rw [q] at p; exact p
  | bk ρ m => rw [q] at p; exact p
  | ct ρ m => rw [q] at p; exact p
  | exn x fs ρ m => rw [q] at p; exact p
  | stuck => rw [q] at p; exact p
theorem psd_one (h1 : PSD X W s m) : PSDs X W [s] m := by
  obtain ⟨t, h1, s1⟩ := h1
  exact ⟨_, pss_one h1, s1⟩
theorem psd_pass : PSD X W (.Pass pos) sNx := ⟨_, ps_pass, fun B c H σ ρ μ hK f D p => p c H σ f⟩
def sBk : SS := fun ρ μ => .bk ρ μ
def sCt : SS := fun ρ μ => .ct ρ μ
theorem psd_break : PSD X W (.Break pos) sBk := ⟨_, ps_break, fun B c H σ ρ μ hK f D p => p c H σ f⟩
theorem psd_continue : PSD X W (.Continue pos) sCt := ⟨_, ps_continue, fun B c H σ ρ μ hK f D p => p c H σ f⟩
def sRet (m : SE) : SS := fun ρ μ => (m ρ μ).go ρ fun d μ1 => .rt d μ1
theorem psd_ret (h : PD X W false e ma) : PSD X W (.Return (some e) pos) (sRet ma) := by
  obtain ⟨t, h1, s1⟩ := h
  refine ⟨_, ps_ret h1, fun B c H σ ρ μ hK f D p => ?_⟩
  exact s1 c H σ ρ μ hK f.ok _ (f.go p fun d m v c' H' s f' r p' => p' H' v (f'.fin r.rep))
/-- return of a list that the frame owns (or of any value): nothing of the frame lives on -/
def sRetN : SS := fun _ μ => .rt .non μ
theorem psd_retN : PSD X W (.Return none pos) sRetN := ⟨_, ps_retN, fun B c H σ ρ μ hK f D p => p H .non (f.fin .non)⟩
def sExpr (m : SE) : SS := fun ρ μ => (m ρ μ).go ρ fun _ μ1 => .nx ρ μ1
theorem psd_expr (h : PD X W true e ma) (hs : swapsWith e none pos.line X.env = pure false := by rfl) : PSD X W (.Expr e pos) (sExpr ma) := by
  obtain ⟨t, h1, s1⟩ := h
  refine ⟨_, ps_expr h1 hs, fun B c H σ ρ μ hK f D p => ?_⟩
  exact s1 c H σ ρ μ hK f.ok _ (f.go p fun d m v c' H' s f' r p' => p' c' H' σ f')
def sIf (t : ST') (m n : SS) : SS := fun ρ μ => (t ρ μ).go ρ fun k μ1 => if k = true then m ρ μ1 else n ρ μ1
theorem psd_if {c : Expr} {A A' : List Stmt} (ht : PDT X W c mt) (ha : PSDs X W A m) (hb : PSDs X W A' n) : PSD X W (.If c A A' pos) (sIf mt m n) := by
  obtain ⟨t, h1, s1⟩ := ht
  obtain ⟨u, h2, s2⟩ := ha
  obtain ⟨v, h3, s3⟩ := hb
  refine ⟨_, ps_if h1 h2 h3, fun B c H σ ρ μ hK f D p => ?_⟩
  refine s1 c H σ ρ μ hK f.ok _ (f.go p fun k m q c' H' s f' r p' => ?_)
  subst r
  cases q with
  | true => rw [if_pos rfl]; rw [if_pos rfl] at p'; exact s2 B c' H' σ ρ m (s.K.trans hK) f' D p'
  | false => rw [if_neg Bool.false_ne_true]; rw [if_neg Bool.false_ne_true] at p'; exact s3 B c' H' σ ρ m (s.K.trans hK) f' D p'

/-! ### names are stored -/
theorem set_get {α : Type} {l : List α} {i j : Nat} {x y : α} (h : (l.set i x)[j]? = some y) : (i = j ∧ i < l.length ∧ x = y) ∨ (i ≠ j ∧ l[j]? = some y) := by
  by_cases e : i = j
  · subst e
    obtain ⟨hl, q⟩ := List.getElem?_eq_some_iff.mp h
    rw [List.length_set] at hl
    rw [List.getElem?_set_self hl] at h
    exact .inl ⟨rfl, hl, Option.some.inj h⟩
  · rw [List.getElem?_set_ne e] at h
    exact .inr ⟨e, h⟩
theorem set_same {α : Type} {l : List α} {i : Nat} {x : α} (h : i < l.length) : (l.set i x)[i]? = some x := List.getElem?_set_self h
theorem set_other {α : Type} {l : List α} {i j : Nat} {x : α} (h : i ≠ j) : (l.set i x)[j]? = l[j]? := List.getElem?_set_ne h
theorem Ok.setv {c : Ct} {H : Hp} {σ : St} {ρ : Env} {μ : Mu} {i : Nat} {v : V} {d : D} (k : Ok c H σ ρ μ) (r : Rep c H v d) : Ok c H (σ.set i (some v)) (ρ.set i (some (.val d))) μ := by
  refine ⟨⟨fun j e h => ?_, fun j ds h => ?_, fun j j' ds es a ne h h' q => ?_⟩, k.m, by simp [k.len]⟩
  · rcases set_get h with ⟨rfl, hl, q⟩ | ⟨ne, q⟩
    · cases q
      rw [k.len] at hl
      exact ⟨v, set_same hl, r⟩
    · rw [set_other ne]
      exact k.e.val j e q
  · rcases set_get h with ⟨rfl, hl, q⟩ | ⟨ne, q⟩
    · cases q
    · rw [set_other ne]
      exact k.e.own j ds q
  · rcases set_get h with ⟨rfl, hl, z⟩ | ⟨ne1, z⟩
    · cases z
    · rcases set_get h' with ⟨rfl, hl', z'⟩ | ⟨ne2, z'⟩
      · cases z'
      · rw [set_other ne1] at q
        rw [set_other ne2]
        exact k.e.apart j j' ds es a ne z z' q
theorem FrR.setv {B : Bs} {c : Ct} {H : Hp} {σ : St} {ρ : Env} {μ : Mu} {i : Nat} {v : V} {d : D} (f : FrR B c H σ ρ μ) (r : Rep c H v d) : FrR B c H (σ.set i (some v)) (ρ.set i (some (.val d))) μ := by
  refine ⟨f.ok.setv r, f.stp, f.br, fun j ds a h q => ?_, f.held, f.brH⟩
  rcases set_get h with ⟨rfl, hl, z⟩ | ⟨ne, z⟩
  · cases z
  · rw [set_other ne] at q
    exact f.own0 j ds a z q
def setE (ρ : Env) (i : Nat) (d : D) : Env := ρ.set i (some (.val d))
def sSet (i : Nat) (m : SE) : SS := fun ρ μ => (m ρ μ).go ρ fun d μ1 => .nx (setE ρ i d) μ1
theorem psd_set {i : Nat} {x : Str} {pos' : Pos} (hN : X.N.Nodup) (h : PD X W false e ma) (hi : X.N[i]? = some x := by rfl) (hx : Loc X.env.scope x := by first | exact Or.inl rfl | exact Or.inr rfl) (hs : swapsWith e (some (.Name x pos')) pos.line X.env = pure false := by rfl)
    (hf : X.fn x = true ∨ X.env.scope.names.lookup x = some .local := by first | exact .inl rfl | exact .inr rfl | assumption) : PSD X W (.Assign [.Name x pos'] e pos) (sSet i ma) := by
  obtain ⟨t, h1, s1⟩ := h
  refine ⟨_, ps_set hN hi hx h1 hs hf, fun B c H σ ρ μ hK f D p => ?_⟩
  exact s1 c H σ ρ μ hK f.ok _ (f.go p fun d m v c' H' s f' r p' => p' c' H' _ (f'.setv r.rep))
end
end DL
/-! # Dg: promises of defs that also know that nothing is being shown (no repr is under way): so they may call repr of a list or a tuple -/
namespace DL
open PySem PySem.Spec L2
open PyProof.Rows hiding St
variable [HasL] [HasX] [HasH]

/-- room, and no repr is under way -/
structure Rm (k : Nat) (A : Around) : Prop where
  r : Room k A
  g : A.guards = some []
theorem Rm.mono {j k : Nat} {A : Around} (q : Rm k A) (h : j ≤ k) : Rm j A := ⟨q.r.mono h, q.g⟩
theorem Rm.deeper {k : Nat} {A : Around} (q : Rm (k + 1) A) (env : PySem.Env) : Rm k (A.deeper env) := ⟨q.r.deeper env, q.g⟩
theorem rm_caller : Rm 40 callerA := ⟨⟨rfl, by decide, by decide⟩, rfl⟩

structure FnG (P : Program) (w : World) (K : PySem.W.Frag) (mg : Str → Option Value) (base : Heap) (CX : CXT) (k : Nat) (f : Addr)
    (fd : FuncData) (ps : List Str) (sp : Sp) : Prop where
  len : ∀ vs H Q E, sp vs H Q E → vs.length = ps.length
  run : ∀ (A : Around) (outer : List PySem.Env) (s : Shared) (H : Hp) (args : Args) (us : List Value) (vs : List V) (Q : VK) (E : XK),
    Rm k A → Env0 P w K mg base A outer s H → BindsTo s fd args (ps.zip us) → Vals vs us → sp vs H Q E →
    codeAny (model P w) A (.call (.ref f) args) (CR CX outer P w H s Q E) s

section
variable {P : Program} {w : World} {K : PySem.W.Frag} {mg : Str → Option Value} {base : Heap} {x qual : Str} {params : Arguments}
  {body : List Stmt} {scope : Scope} {dvs : List V} {kws : List (Str × V)} {f : Addr} {fd : FuncData} {CX : CXT} {N ps : List Str} {k : Nat} {sp : Sp}
/-- by the body; what the frame says of its place is written out -/
theorem fnG_of (F : FunD K x qual params body scope dvs kws f fd) (S : FnScope N ps scope) (ln : ∀ vs H Q E, sp vs H Q E → vs.length = ps.length)
    (hb : ∀ (cdv : Value) (A : Around) (outer : List PySem.Env) (s : Shared) (H : Hp) (vs : List V) (Q : VK) (E : XK),
      Rm k (A.deeper (envOfC qual scope s.heap.objs.size f cdv)) → sp vs H Q E →
      ∃ t, PSs (cxOf CX P w K mg base N qual scope f cdv A outer s H E) body t ∧ t { rt := Q, nx := fun _ H' => Q .non H' } (L2.start N vs) H) :
    FnG P w K mg base CX (k + 1) f fd ps sp := by
  obtain ⟨oc, od, dV, kV, doc, pm, an, cdv, ct, osl, rfl, atF, inCode, _, _⟩ := F.ex
  refine ⟨ln, ?_⟩
  intro A outer s H args us vs Q E room e0 bound rel said
  have sameLen := ln _ _ _ _ said
  have kin : K.In s.heap := e0.mod.kin.keeps (fun b o e => (e0.bs b o e).1)
  have nolim : s.heap.NoLimit := e0.mod.nolimit.keeps (fun b o e => (e0.bs b o e).1)
  have kinds : ∀ y ∈ ps.zip us, scope.names.lookup y.1 = some .local ∨
      (scope.names.lookup y.1 = some .cell ∧ ((cellsFrom (s.heap.objs.size + 1) scope.names []).lookup y.1).isSome = true) := by
    rintro ⟨n, v⟩ hy
    have q := S.par n (List.of_mem_zip hy).1
    rcases q with q | q
    · left; exact q
    · right; exact ⟨q, PySem.W.cellsFrom_some _ _ _ (.inl q)⟩
  refine codeAny_call_function room.r.depth (kin _ _ atF) rfl S.co S.gen rfl (PySem.W.codeRec_of kin inCode) (bound _ _ _ _ ?_)
  refine wpAny_newFunctionEnv_cells S.kind kinds ?_
  intro env henv s1 x1
  subst henv
  refine ⟨nolim.keeps x1.toInCall.keep, codeAny_func ?_⟩
  obtain ⟨t, body1, wish⟩ := hb cdv A outer s H vs Q E (room.deeper _) said
  have I := inv_start (CX := CX) (P := P) (w := w) (qual := qual) (f := f) (cd := cdv) (E := E) S room.r.hd e0 sameLen rel x1
  refine wpAny_mono (body1.run [] s1 (L2.start N vs) H _ I wish) ?_ fun e s' hs => hs
  intro fl s' hs
  cases fl with
  | ret u =>
    obtain ⟨v, σ', H', J, rv, q⟩ := hs
    exact ⟨v, H', J.os, J.bare, J.base, J.hok, rv, q⟩
  | next =>
    obtain ⟨σ', H', J, q⟩ := hs
    exact ⟨V.non, H', J.os, J.bare, J.base, J.hok, rfl, q⟩
  | brk => obtain ⟨_, _, _, q⟩ := hs; exact q.elim
  | cont => obtain ⟨_, _, _, q⟩ := hs; exact q.elim
end

section
variable {X : Cx} {W : WX} {CX : CXT} {k : Nat} {f : Addr} {fd : FuncData} {ps : List Str} {sp : Sp} {E : St → XK}
/-- it runs -/
theorem run_fnG {pins : List (Addr × Obj)} {σ : St} {H : Hp} {s : Shared} {Q : VK} {us : List Value} {vs : List V} (G : FnG X.prog X.w X.K X.mg X.base CX k f fd ps sp)
    (room : Rm k X.A) (hb : Binds X.K fd ps []) (hx : PassesAt CX X σ (E σ)) (I : Inv X pins σ H s) (r : Vals vs us) (h : sp vs H Q (E σ)) :
    wpAny (model X.prog X.w) X.A (call (.ref f) us) (EP X pins σ Q) X.xe s := by
  have sameLen : us.length = ps.length := r.length ▸ G.len _ _ _ _ h
  have bound := hb s us I.kIn (by simpa using sameLen)
  rw [List.append_nil] at bound
  refine wpAny_call (codeAny_mono (G.run X.A X.stack s H ⟨us, []⟩ us vs Q (E σ) room I.env0 bound r h) ?_)
  intro res s' ends
  cases res with
  | error e => exact hx pins H s e s' I ends
  | ok fl =>
    cases fl with
    | ret u => exact I.after ends
    | next => exact ends.elim
    | brk => exact ends.elim
    | cont => exact ends.elim
theorem pe_callG {x : Str} {p pos : Pos} {e : Expr} {es : List Expr} {t : TA} (G : FnG X.prog X.w X.K X.mg X.base CX k f fd ps sp) (room : Rm k X.A) (hg : Gl X x) (hm : X.mg x = some (.ref f))
    (hk : PySem.W.keepIn X.K (.ref f) = true) (hb : Binds X.K fd ps []) (hx : ∀ σ, PassesAt CX X σ (E σ)) (ha : PA X (e :: es) t) (hdb : (x == ("__debug__" : Str)) = false := by decide)
    (he : starEach (e :: es) X.env = (false, eval e X.env) :: starEach es X.env := by rfl) (hpl : (backTo pos (starEach es X.env)).any (·.1) = false := by rfl) :
    PE X (.Call (.Name x p) (e :: es) [] pos) (tCallS sp E t) := by
  constructor
  intro pins s σ H Q I h
  refine wpAny_Call_Name_kw (ld_glob I hg hm ?_ hdb)
  refine PySem.W.callWith_K (h₀ := X.base) I.ok.mod.kin hk (thn (ha.run pos pins s σ H _ I h) ?_) he hpl
  rintro us s1 ⟨vs, H1, I1, r, q⟩
  exact ⟨I1.kIn, run_fnG G room hb (hx σ) I1 r q⟩
/-- without arguments -/
theorem pe_callG0 {x : Str} {p pos : Pos} (G : FnG X.prog X.w X.K X.mg X.base CX k f fd ps sp) (room : Rm k X.A) (hg : Gl X x) (hm : X.mg x = some (.ref f))
    (hk : PySem.W.keepIn X.K (.ref f) = true) (hb : Binds X.K fd ps []) (hx : ∀ σ, PassesAt CX X σ (E σ)) (hdb : (x == ("__debug__" : Str)) = false := by decide) :
    PE X (.Call (.Name x p) [] [] pos) (tCallS sp E tNil) := by
  constructor
  intro pins s σ H Q I h
  refine wpAny_Call_Name_kw (ld_glob I hg hm ?_ hdb)
  exact PySem.W.callWith_K0 I.kIn hk (run_fnG (us := []) G room hb (hx σ) I .nil h)
end

/-! ### the end -/
theorem lawG_call {P : Program} {w : World} {K : PySem.W.Frag} {mg mb : Str → Option Value} {CX : CXT} {k : Nat} {fa a : Addr} {fd : FuncData} {x : Str} {sp : Sp} {s₁ : Shared} {vs : List Value} {ns : List Int}
    (kin : K.In s₁.heap) (glob : s₁.heap.Ns mainGlobals mg) (blt : s₁.heap.Ns builtinsNs mb) (boot : ∀ x : Str, x ≠ "__name__" → mb x = bootBuiltins x) (nolim : s₁.heap.NoLimit) (nogens : s₁.gens = #[])
    (atA : s₁.heap.get? a = some { cls := .type "list", data := .seq vs.toArray }) (allI : IntsAre vs ns) (short : ns.length ≤ sizeLine) (room : Rm k callerA)
    (F : ∀ base : Heap, K.In base → base.Ns mainGlobals mg → FnG P w K mg base CX k fa fd [x] sp) (bound : ∀ (s : Shared) (u : Value), BindsTo s fd ⟨[u], []⟩ [(x, u)])
    (hsp : ∀ H : Hp, Only H → SqL K H a (ns.map V.int) → sp [.ref a] H (fun v _ => v = .bl true) fun _ _ _ => False)
    (noexc : ∀ H e s', CX [] H s₁ (fun _ _ _ => False) e s' → False) :
    codeAny (model P w) callerA (.call (.ref fa) ⟨[.ref a], []⟩) (fun r s' => r = .ok (.ret (.bool true)) ∧ OldK s₁.heap s'.heap ∧ s'.os = s₁.os ∧ AllBare s'.gens) s₁ := by
  have rv := vals_ints allI
  have lenV := allI.length
  have core : ∀ H : Hp, Only H → SqL K H a (ns.map V.int) → HOk P w H s₁.heap → (∀ b, H b ≠ none → b = a) → (H a ≠ none → K.lookup a = none) →
      codeAny (model P w) callerA (.call (.ref fa) ⟨[.ref a], []⟩) (fun r s' => r = .ok (.ret (.bool true)) ∧ OldK s₁.heap s'.heap ∧ s'.os = s₁.os ∧ AllBare s'.gens) s₁ := by
    intro H only sq hok onlyA notK
    have noDict : ∀ {b : Addr} {o : Obj} {es : Array DictEntry} {ep : Nat}, s₁.heap.get? b = some o → o.data = .dict es ep → H b = none := by
      intro b o es ep e d
      rcases hq : H b with _ | u
      · rfl
      · have hb : b = a := onlyA b (by rw [hq]; exact nofun)
        subst hb
        rw [atA] at e
        cases e
        cases (show Data.seq vs.toArray _ = Data.dict es ep from d)
    have nsK : ∀ {b : Addr} {m : Str → Option Value}, s₁.heap.Ns b m → (hidT s₁.heap H).Ns b m := by
      rintro b m ⟨o, es, ep, e, d, r⟩
      exact ⟨o, es, ep, hidT_get e (noDict e d), d, r⟩
    have kinB : K.In (hidT s₁.heap H) := by
      intro b o e
      refine hidT_get (kin b o e) ?_
      rcases hq : H b with _ | u
      · rfl
      · have hb : b = a := onlyA b (by rw [hq]; exact nofun)
        subst hb
        rw [notK (by rw [hq]; exact nofun)] at e
        cases e
    obtain ⟨mc, c1, c2⟩ := nolim
    have mod : Mod K mg (hidT s₁.heap H) := ⟨kinB, nsK glob, ⟨mb, nsK blt, boot⟩, mc, nsK c1, c2⟩
    have e0 : Env0 P w K mg (hidT s₁.heap H) callerA [] s₁ H :=
      ⟨rfl, mod, fun b o e => of_hidT e, Nat.le_of_eq (hidT_size _ _), trivial, fun b hb => absurd (show b ∈ ([] : List Addr) from hb) (by simp), hok, .of_eq nogens⟩
    refine codeAny_mono ((F _ kinB (nsK glob)).run callerA [] s₁ H ⟨[.ref a], []⟩ [.ref a] [.ref a] _ _ room e0 (bound s₁ (.ref a)) (.cons rfl .nil) (hsp H only sq)) ?_
    intro r s' ends
    cases r with
    | error e => exact (noexc H e s' ends).elim
    | ok fl =>
      cases fl with
      | next => exact ends.elim
      | brk => exact ends.elim
      | cont => exact ends.elim
      | ret u =>
        obtain ⟨v, H', os, bare, un, hok', r', q⟩ := ends
        obtain rfl : v = .bl true := q
        obtain rfl : u = Value.bool true := r'
        refine ⟨rfl, OldK.of_keep ?_, os, bare⟩
        intro b o e
        rcases hq : H b with _ | u
        · exact un.keep b o e hq (fun z => absurd (show b ∈ ([] : List Addr) from z) (by simp)) (by simp)
        · rcases only b with z | ⟨ob, xs, z⟩
          · rw [hq] at z; cases z
          · obtain ⟨e1, _⟩ := hok b _ z
            obtain ⟨e2, _⟩ := hok' b _ (un.frzs b ob _ z)
            rw [e] at e1
            cases e1
            exact e2
  rcases hk : K.lookup a with _ | o
  · refine core (fun b => if b = a then some (.frz { cls := .type "list", data := .seq vs.toArray } (.lst (ns.map V.int))) else none) (fun b => ?_) (.inl (.inr ⟨{ cls := .type "list", data := .seq vs.toArray }, if_pos rfl⟩)) (fun b u z => ?_) (fun b z => ?_) fun _ => hk
    · rcases Decidable.em (b = a) with hb | hb
      · right; exact ⟨_, _, if_pos hb⟩
      · left; exact if_neg hb
    · rcases Decidable.em (b = a) with hb | hb
      · have z' := (if_pos hb).symm.trans z
        cases z'
        subst hb
        exact ⟨atA, by rw [List.length_map]; exact short, vs, _, rv, atA⟩
      · have z' := (if_neg hb).symm.trans z
        cases z'
    · rcases Decidable.em (b = a) with hb | hb
      · exact hb
      · exact absurd (if_neg hb) z
  · have e := kin a o hk
    rw [atA] at e
    cases e
    exact core (fun _ => none) (fun _ => .inl rfl) (.inr ⟨_, vs.toArray, _, hk, rfl, rfl, rfl, by rw [List.size_toArray, lenV]; exact short, by simpa using rv⟩)
      (fun b u z => by cases (show (none : Option HO) = some u from z)) (fun b z => absurd rfl z) (fun z => absurd rfl z)

/-- the end of a walk -/
theorem walkG_of {l : PySem.W.OpenLaw} {n k : Nat} {q : Program} {loose : List Str} {XP : (Str → Option Value) → Heap → Prop} {YP : World → Heap → Prop} {d : DefRec} {K : Params → PySem.W.Frag} {CX : World → CXT} {sp : World → Sp} {x : Str}
    (most : l.most = some n) (short : n ≤ sizeLine) (nodef : d.params.defaults = []) (room : Rm k callerA) (hY : ∀ (w : World) (h : Heap), YP w h → (K w.params).In h)
    (F : ∀ (w : World) (mg : Str → Option Value) (fa : Addr) (h : Heap), (K w.params).In h → h.Ns mainGlobals mg → mg d.name = some (.ref fa) →
      ∃ fd : FuncData, (∀ (s : Shared) (u : Value), BindsTo s fd ⟨[u], []⟩ [(x, u)]) ∧
        ∀ base : Heap, (K w.params).In base → base.Ns mainGlobals mg → FnG l.prog w (K w.params) mg base (CX w) k fa fd [x] (sp w))
    (hsp : ∀ (w : World) (H : Hp) (a : Addr) (ns : List Int), ns.length ≤ n → (∀ z ∈ ns, Builtin.Int.intBits z ≤ 1048576) → Only H → SqL (K w.params) H a (ns.map V.int) → sp w [.ref a] H (fun v _ => v = .bl true) fun _ _ _ => False)
    (noexc : ∀ (w : World) (H : Hp) (s : Shared) (e : Value) (s' : Shared), CX w [] H s (fun _ _ _ => False) e s' → False) :
    PySem.W.WalkO q loose XP YP l.row.toRowW d [] (fun f vs => PySem.call f vs) := by
  refine Att.attach_callB most nodef ?_
  intro w s₀ s₁ mg mb fa o pm cd doc a vs ns G Y ho hd hcd hmg hobj hints hlen hbits hg
  have kin := hY w _ Y
  obtain ⟨fd, bound, hF⟩ := F w mg fa _ kin G.T.g hmg
  exact lawG_call kin G.T.g G.T.b G.T.builtins G.T.nolimit hg hobj hints (Nat.le_trans hlen short) room hF bound (fun H only sq => hsp w H a ns hlen hbits only sq) (fun H e s' => noexc w H s₁ e s')
end DL
/-! # DL, defs, loops, the store -/
namespace DL
open PySem PySem.Spec L2
open PyProof.Rows hiding St
variable [HasL] [HasX] [HasH]

/-! ### what a def promises, told of data -/
abbrev FD := List D → Mu → Out D
def PostF (c : Ct) (H : Hp) (o : Out D) (Q : VK) (E : XK) : Prop := match o with
  | .ok d m => ∀ v H', Fin c H H' m v d → Q v H'
  | .exn x fs m => ∀ cls dd c' H', Stp c c' H H' → MRel c' H' m → ExR c' H' cls dd x fs → E cls dd H'
  | .stuck => False
def spOf [h : HasH] (K : PySem.W.Frag) (n : Nat) (F : FD) : Sp := fun vs H Q E => ∃ c μ ds, c.K = K ∧ MRel c H μ ∧ Reps c H vs ds ∧ ds.length = n ∧ PostF c H (F ds μ) Q E
def SOut.out : SOut → Out D
  | .nx _ m => .ok .non m
  | .rt d m => .ok d m
  | .exn x fs _ m => .exn x fs m
  | _ => .stuck
/-- the names at the entry -/
def env0 (N : Nat) (ds : List D) : Env := ds.map (fun d => some (.val d)) ++ List.replicate (N - ds.length) none
/-- a def of n parameters and N names -/
def mFn (n N : Nat) (m : SS) : FD := fun ds μ => if ds.length = n then (m (env0 N ds) μ).out else .stuck

theorem start_get {N : List Str} {vs : List V} {i : Nat} {v : V} (h : vs[i]? = some v) : (L2.start N vs)[i]? = some (some v) := by
  unfold L2.start
  obtain ⟨hl, _⟩ := List.getElem?_eq_some_iff.mp h
  rw [List.getElem?_append_left (by rw [List.length_map]; exact hl), List.getElem?_map, h]
  rfl
theorem env0_get {N : Nat} {ds : List D} {i : Nat} {s : Slot} (h : (env0 N ds)[i]? = some (some s)) : ∃ d, ds[i]? = some d ∧ s = .val d := by
  unfold env0 at h
  by_cases hl : i < ds.length
  · rw [List.getElem?_append_left (by rw [List.length_map]; exact hl), List.getElem?_map, List.getElem?_eq_getElem hl] at h
    cases h
    exact ⟨_, List.getElem?_eq_getElem hl, rfl⟩
  · rw [List.getElem?_append_right (by rw [List.length_map]; omega)] at h
    obtain ⟨_, q⟩ := List.getElem?_eq_some_iff.mp h
    rw [List.getElem_replicate] at q
    cases q
theorem frR_start {c : Ct} {H : Hp} {μ : Mu} {N : List Str} {vs : List V} {ds : List D} (M : MRel c H μ) (r : Reps c H vs ds) (hl : vs.length ≤ N.length) : FrR ⟨c, H, [], []⟩ c H (L2.start N vs) (env0 N.length ds) μ := by
  refine ⟨⟨⟨fun i d h => ?_, fun i l h => ?_, fun i j l l' a _ h => ?_⟩, M, ?_⟩, ⟨rfl, rfl, ⟨[], by simp, by simp⟩, fun _ _ h _ _ => h, fun _ o h => ⟨o, h⟩, fun t => t⟩, ⟨[], rfl⟩, fun i l a h => ?_, .nil, M.br⟩
  · obtain ⟨e, h1, h2⟩ := env0_get h
    cases h2
    obtain ⟨v, h3, h4⟩ := r.getD h1
    exact ⟨v, start_get h3, h4⟩
  · obtain ⟨e, h1, h2⟩ := env0_get h
    cases h2
  · obtain ⟨e, h1, h2⟩ := env0_get h
    cases h2
  · unfold env0 L2.start
    rw [List.length_append, List.length_append, List.length_map, List.length_map, List.length_replicate, List.length_replicate, r.length]
  · obtain ⟨e, h1, h2⟩ := env0_get h
    cases h2

section
variable {P : Program} {w : World} {K : PySem.W.Frag} {mg : Str → Option Value} {base : Heap}
abbrev WE' (E : XK) : WX := fun cls d _ H => E cls d H
/-- a def by its body -/
theorem fn_data {x qual : Str} {params : Arguments} {body : List Stmt} {scope : Scope} {dvs : List V} {kws : List (Str × V)} {f : Addr} {fd : FuncData} {N ps : List Str} {k : Nat} {m : SS} (F : FunD K x qual params body scope dvs kws f fd) (S : FnScope N ps scope) (hNp : ps.length ≤ N.length)
    (hb : ∀ (cdv : Value) (A : Around) (outer : List PySem.Env) (s : Shared) (H : Hp) (E : XK), Rm k (A.deeper (envOfC qual scope s.heap.objs.size f cdv)) →
      PSDs (cxOf (L2.CX P w) P w K mg base N qual scope f cdv A outer s H E) (WE' E) body m) : FnG P w K mg base (L2.CX P w) (k + 1) f fd ps (spOf K ps.length (mFn ps.length N.length m)) := by
  refine fnG_of F S (fun vs H Q E h => ?_) (fun cdv A outer s H vs Q E hr h => ?_)
  · obtain ⟨c, μ, ds, _, _, r, e, _⟩ := h
    rw [r.length, e]
  · obtain ⟨c, μ, ds, hK, M, r, e, p⟩ := h
    obtain ⟨t, h1, h2⟩ := hb cdv A outer s H E hr
    refine ⟨t, h1, h2 ⟨c, H, [], []⟩ c H (L2.start N vs) (env0 N.length ds) μ hK (frR_start M r (by rw [r.length, e]; exact hNp)) _ ?_⟩
    unfold mFn at p
    rw [if_pos e] at p
    cases q : m (env0 N.length ds) μ with
    | nx ρ' μ' =>
      rw [q] at p
      exact fun c' H' σ' f' => p .non H' (f'.fin .non)
    | rt d μ' => rw [q] at p; exact fun H' v f' => p v H' f'
    | exn y fs ρ' μ' =>
      rw [q] at p
      intro c' H' σ' cls dd f' r'
      obtain ⟨more, eb⟩ := f'.br
      have hbr : ∀ a ∈ c.br, a ∈ c'.br := fun a z => by rw [eb]; exact List.mem_append_right _ z
      refine p cls dd ⟨c'.K, c'.cs, c.br⟩ H' f'.stp (f'.ok.m.lessB hbr) ⟨r'.cls, ?_⟩
      rcases r'.fs with z | ⟨d, ff, v, e', z1, z2, z3, z4, z5⟩
      · exact .inl z
      · exact .inr ⟨d, ff, v, e', z1, z2, z3, z4, z5.lessB hbr⟩
    | bk ρ' μ' => rw [q] at p; exact p.elim
    | ct ρ' μ' => rw [q] at p; exact p.elim
    | stuck => rw [q] at p; exact p.elim

/-- a def of the module that may be called by its name -/
structure Cal (P : Program) (w : World) (K : PySem.W.Frag) (mg : Str → Option Value) (base : Heap) (k : Nat) (x : Str) (n : Nat) (F : FD) : Prop where
  ex : ∃ f fd ps, mg x = some (.ref f) ∧ PySem.W.keepIn K (.ref f) = true ∧ (∀ h : HasH, FnG P w K mg base (L2.CX P w) k f fd ps (spOf (h := h) K n F)) ∧ Binds K fd ps [] ∧ ps.length = n
end

section
variable {X : Cx} {W : WX} {b : Bool} {e : Expr} {es : List Expr} {mr : SA} {x : Str} {p pos : Pos} {k j n : Nat} {F : FD}
/-- with the number of arguments looked at -/
def mCall (n : Nat) (F : FD) (mr : SA) : SE := fun ρ μ => (mr ρ μ).bnd fun ds μ1 => if ds.length = n then F ds μ1 else .stuck
theorem fin_post {c c1 : Ct} {H H1 : Hp} {m : Mu} {v : V} {d : D} {σ : St} {Q : VK} (p : Post b c σ H W (.ok d m) Q) (s : Stp c c1 H H1) {H2 : Hp} (f : Fin c1 H1 H2 m v d) : Q v H2 := by
  obtain ⟨c2, s2, M2, r2⟩ := f
  exact p v c2 H2 (s.trans s2) M2 r2.f
theorem pd_call (c : Cal X.prog X.w X.K X.mg X.base k x n F) (hr : Rm j X.A) (hk : k ≤ j) (tk : Takes X W) (ha : PDA X W false (e :: es) mr) (hg : Gl X x := by rfl) (hdb : (x == ("__debug__" : Str)) = false := by decide)
    (he : starEach (e :: es) X.env = (false, eval e X.env) :: starEach es X.env := by rfl) (hpl : (backTo pos (starEach es X.env)).any (·.1) = false := by rfl) : PD X W b (.Call (.Name x p) (e :: es) [] pos) (mCall n F mr) := by
  obtain ⟨f, fd, ps, hm, hkp, G, hb, hn⟩ := c.ex
  obtain ⟨t, h1, h2⟩ := ha
  refine ⟨_, pe_callG (G ‹HasH›) (hr.mono hk) hg hm hkp hb (fun σ => passAt tk σ) h1 hdb he hpl, fun c0 H σ ρ μ hK k Q p => ?_⟩
  refine h2 c0 H σ ρ μ hK k _ (PostG.bnd p fun ds μ1 vs c1 H1 s1 M1 r1 p1 => ?_)
  by_cases hl : ds.length = n
  · rw [if_pos hl] at p1
    refine ⟨c1, μ1, ds, s1.K.trans hK, M1, r1.reps, hl, ?_⟩
    cases q : F ds μ1 with
    | ok d m => rw [q] at p1; exact fun v H' f' => fin_post p1 (Stp.refl _ _) f'
    | exn y fs m => rw [q] at p1; exact fun cls dd c' H' s M r => p1 cls dd c' H' s M r
    | stuck => rw [q] at p1; exact p1
  · rw [if_neg hl] at p1
    exact p1.elim
end

/-! ### loops: for x in range(..) -/
def rngL (lo : Int) (n : Nat) : List D := (List.range n).map fun (i : Nat) => D.int (lo + (i : Int))
/-- a target: what it does to the names -/
abbrev TgD := D → Env → Option Env
/-- the body for each item; nx: what stands behind the loop -/
def forL (tg : TgD) (m : SS) : List D → SS
  | [], ρ, μ => .nx ρ μ
  | d :: r, ρ, μ => match tg d ρ with
    | none => .stuck
    | some ρ1 => (match m ρ1 μ with
      | .nx ρ2 μ2 => forL tg m r ρ2 μ2
      | .ct ρ2 μ2 => forL tg m r ρ2 μ2
      | .bk ρ2 μ2 => .nx ρ2 μ2
      | o => o)
def sFor (mi : Env → Mu → Out (List D)) (tg : TgD) (m : SS) : SS := fun ρ μ => (mi ρ μ).go ρ fun ds μ1 => forL tg m ds ρ μ1
/-- a target's reading bears it; it stores into the slots is alone -/
def SimG (K : PySem.W.Frag) (g : TG) (tg : TgD) (is : List Nat) : Prop := ∀ (c : Ct) (H : Hp) (v : V) (d : D), c.K = K → Rep c H v d → ∀ R : St → Env → Prop, (∀ σ ρ i v d, i ∈ is → R σ ρ → Rep c H v d → R (σ.set i (some v)) (setE ρ i d)) →
  ∀ σ ρ ρ1, R σ ρ → tg d ρ = some ρ1 → ∀ Q : St → Hp → Prop, (∀ σ1, R σ1 ρ1 → Q σ1 H) → g v σ H Q
def PGD (X : Cx) (e : Expr) (tg : TgD) (is : List Nat) : Prop := ∃ g, PG X e g ∧ SimG X.K g tg is
def tgName (i : Nat) : TgD := fun d ρ => some (setE ρ i d)
theorem pgd_name {X : Cx} {i : Nat} {x : Str} {pos : Pos} (hN : X.N.Nodup) (hi : X.N[i]? = some x := by rfl) (hx : Loc X.env.scope x := by first | exact Or.inl rfl | exact Or.inr rfl) (hf : X.fn x = true ∨ X.env.scope.names.lookup x = some .local := by first | exact .inl rfl | exact .inr rfl | assumption) : PGD X (.Name x pos) (tgName i) [i] :=
  ⟨_, pg_name hN hi hx hf, fun c H v d hK r R cl σ ρ ρ1 f e Q q => by cases e; exact q _ (cl _ _ i _ _ (List.mem_singleton.mpr rfl) f r)⟩
/-- several targets of a tuple's items -/
def tgNil : List D → Env → Option Env
  | [], ρ => some ρ
  | _, _ => none
def tgCons (t : TgD) (u : List D → Env → Option Env) : List D → Env → Option Env
  | d :: r, ρ => (t d ρ).bind fun ρ1 => u r ρ1
  | [], _ => none
def tgTup (u : List D → Env → Option Env) : TgD
  | .tup l, ρ => u l ρ
  | .lst l, ρ => u l ρ
  | _, _ => none
theorem PG_or {X : Cx} {e : Expr} {g1 g2 : TG} (h1 : PG X e g1) (h2 : PG X e g2) : PG X e fun v σ H Q => g1 v σ H Q ∨ g2 v σ H Q :=
  ⟨fun pins s σ H v u Q I r hw => hw.elim (h1.run pins s σ H v u Q I r) (h2.run pins s σ H v u Q I r)⟩
def SimGs (K : PySem.W.Frag) (g : TGs) (tg : List D → Env → Option Env) (is : List Nat) : Prop := ∀ (c : Ct) (H : Hp) (vs : List V) (ds : List D), c.K = K → Reps c H vs ds → ∀ R : St → Env → Prop, (∀ σ ρ i v d, i ∈ is → R σ ρ → Rep c H v d → R (σ.set i (some v)) (setE ρ i d)) →
  ∀ σ ρ ρ1, R σ ρ → tg ds ρ = some ρ1 → ∀ Q : St → Hp → Prop, (∀ σ1, R σ1 ρ1 → Q σ1 H) → g vs σ H Q
def PGDs (X : Cx) (es : List Expr) (n : Nat) (tg : List D → Env → Option Env) (is : List Nat) : Prop := ∃ g, PGs X es g ∧ SimGs X.K g tg is ∧ ∀ ds ρ ρ1, tg ds ρ = some ρ1 → ds.length = n
theorem sim_gnil {K : PySem.W.Frag} : SimGs K gNil tgNil [] := by
  intro c H vs ds hK r R cl σ ρ ρ1 f e Q q
  cases ds with
  | nil => cases e; cases r; exact ⟨rfl, q _ f⟩
  | cons _ _ => cases e
theorem pgds_nil {X : Cx} : PGDs X [] 0 tgNil [] := ⟨_, pgs_nil, sim_gnil, fun ds ρ ρ1 e => by
  cases ds with
  | nil => rfl
  | cons _ _ => cases e⟩
theorem sim_gcons {K : PySem.W.Frag} {g : TG} {gs : TGs} {t : TgD} {u : List D → Env → Option Env} {is js : List Nat} (h1 : SimG K g t is) (h2 : SimGs K gs u js) : SimGs K (gCons g gs) (tgCons t u) (is ++ js) := by
  intro c H vs ds hK r R cl σ ρ ρ1 f e Q q
  cases ds with
  | nil => cases e
  | cons d rest =>
    cases r with
    | cons r rr =>
      have e' : (t d ρ).bind (fun ρ1 => u rest ρ1) = some ρ1 := e
      cases e1 : t d ρ with
      | none => rw [e1] at e'; cases e'
      | some ρ2 =>
        rw [e1, Option.bind_some] at e'
        exact ⟨_, _, rfl, h1 c H _ d hK r R (fun σ ρ i v d hi => cl σ ρ i v d (List.mem_append_left _ hi)) σ ρ ρ2 f e1 _ fun σ1 f1 =>
          h2 c H _ rest hK rr R (fun σ ρ i v d hi => cl σ ρ i v d (List.mem_append_right _ hi)) σ1 ρ2 ρ1 f1 e' Q q⟩
theorem pgds_cons {X : Cx} {e : Expr} {es : List Expr} {n : Nat} {t : TgD} {u : List D → Env → Option Env} {is js : List Nat} (h1 : PGD X e t is) (h2 : PGDs X es n u js) (hs : (assignEach (e :: es) X.env).map (·.2) = assign e X.env :: (assignEach es X.env).map (·.2) := by rfl) : PGDs X (e :: es) (n + 1) (tgCons t u) (is ++ js) := by
  obtain ⟨g, a1, a2⟩ := h1
  obtain ⟨gs, b1, b2, b3⟩ := h2
  refine ⟨_, pgs_cons a1 b1 hs, sim_gcons a2 b2, fun ds ρ ρ1 e => ?_⟩
  cases ds with
  | nil => cases e
  | cons d rest =>
    have e' : (t d ρ).bind (fun ρ1 => u rest ρ1) = some ρ1 := e
    cases e1 : t d ρ with
    | none => rw [e1] at e'; cases e'
    | some ρ2 =>
      rw [e1, Option.bind_some] at e'
      rw [List.length_cons, b3 rest ρ2 ρ1 e']
theorem pgd_tup {X : Cx} {es : List Expr} {k n : Nat} {u : List D → Env → Option Env} {is : List Nat} {pos : Pos} (hc : X.calm = true) (h : PGDs X es n u is) (hn : (assignEach es X.env).length = n := by rfl) (hst : (assignEach es X.env).findIdx? (·.1) = none := by rfl) : PGD X (.Tuple es k pos) (tgTup u) is := by
  obtain ⟨gs, b1, b2, b3⟩ := h
  refine ⟨_, PG_or (pg_tup hc b1 hn hst) (pg_lst hc b1 hn hst), fun c H v d hK r R cl σ ρ ρ1 f e Q q => ?_⟩
  cases d with
  | tup l =>
    obtain ⟨a, vs, rfl, h1, h2, h3⟩ := rep_tup (b := false) r.f
    exact .inl ⟨a, vs, rfl, SqT.of h2, by rw [h3.length]; exact b3 l ρ ρ1 e, b2 c H vs l hK h3 R cl σ ρ ρ1 f e Q q⟩
  | lst l =>
    cases r with
    | lst g1 g0 g2 g3 => exact .inr ⟨_, _, rfl, SqL.of g2, by rw [g3.length]; exact b3 l ρ ρ1 e, b2 c H _ l hK g3 R cl σ ρ ρ1 f e Q q⟩
  | _ => cases e

/-! ### what is walked -/
/-- J walks the data ds wherever G stands -/
structure Wlk (K : PySem.W.Frag) (J : It) (G : Ct → Hp → Prop) (ds : List D) : Prop where
  go : ∀ i c H, c.K = K → i < ds.length → G c H → J.go i H
  stop : ∀ c H, c.K = K → G c H → J.stop ds.length H
  yld : ∀ i c H x H' (m : Mu), c.K = K → MRel c H m → G c H → i < ds.length → J.yld i H x H' → Same H H' ∧ ∃ d, ds[i]? = some d ∧ Rep c H' x d
/-- what is walked is held (v as d), or hangs on nothing -/
inductive Hld (K : PySem.W.Frag) (J : It) (ds : List D) : List V → List D → Prop
  | free (h : Wlk K J (fun _ _ => True) ds) : Hld K J ds [] []
  | one {v : V} {d : D} (h : Wlk K J (fun c H => Rep c H v d) ds) : Hld K J ds [v] [d]
  | two {v v' : V} {d d' : D} (h : Wlk K J (fun c H => Rep c H v d ∧ Rep c H v' d') ds) : Hld K J ds [v, v'] [d, d']
theorem Hld.wlk {K : PySem.W.Frag} {J : It} {ds : List D} {vs : List V} {es : List D} (h : Hld K J ds vs es) : Wlk K J (fun c H => Reps c H vs es) ds := by
  cases h with
  | free h => exact ⟨fun i c H hK hi _ => h.go i c H hK hi trivial, fun c H hK _ => h.stop c H hK trivial, fun i c H x H' m hK M _ => h.yld i c H x H' m hK M trivial⟩
  | one h =>
    rename_i v d
    have q : ∀ {c H}, Reps c H [v] [d] → Rep c H v d := fun r => by cases r with | cons r _ => exact r
    exact ⟨fun i c H hK hi r => h.go i c H hK hi (q r), fun c H hK r => h.stop c H hK (q r), fun i c H x H' m hK M r => h.yld i c H x H' m hK M (q r)⟩
  | two h =>
    rename_i v v' d d'
    have q : ∀ {c H}, Reps c H [v, v'] [d, d'] → Rep c H v d ∧ Rep c H v' d' := fun r => by
      cases r with
      | cons r t => cases t with | cons r' _ => exact ⟨r, r'⟩
    exact ⟨fun i c H hK hi r => h.go i c H hK hi (q r), fun c H hK r => h.stop c H hK (q r), fun i c H x H' m hK M r => h.yld i c H x H' m hK M (q r)⟩
abbrev SI := Env → Mu → Out (List D)
abbrev PostI (K : PySem.W.Frag) := PostG (α := List D) (β := It) (fun c H J ds => ∃ vs es, Hld K J ds vs es ∧ Reps c H vs es)
def SimI (K : PySem.W.Frag) (W : WX) (wi : TI) (m : SI) : Prop := ∀ c H σ ρ μ, c.K = K → Ok c H σ ρ μ → ∀ R, PostI K c σ H W (m ρ μ) R → wi σ H R
def PID (X : Cx) (W : WX) (tg iter : Expr) (m : SI) : Prop := ∃ wi, PI X tg iter wi ∧ SimI X.K W wi m

/-- the entry with values held besides -/
def Bs.hold (B : Bs) (vs : List V) (es : List D) : Bs := ⟨B.c, B.H, vs ++ B.zs, es ++ B.zd⟩
theorem Reps.split {c : Ct} {H : Hp} {zs : List V} {zd : List D} : ∀ {vs : List V} {es : List D}, vs.length = es.length → Reps c H (vs ++ zs) (es ++ zd) → Reps c H vs es ∧ Reps c H zs zd
  | [], [], _, r => ⟨.nil, r⟩
  | v :: vs, e :: es, h, .cons r t => let ⟨a, b⟩ := Reps.split (by simpa using h) t; ⟨.cons r a, b⟩
theorem FrR.hold {B : Bs} {c : Ct} {H : Hp} {σ : St} {ρ : Env} {μ : Mu} {vs : List V} {es : List D} (f : FrR B c H σ ρ μ) (r : Reps c H vs es) : FrR (B.hold vs es) c H σ ρ μ := ⟨f.ok, f.stp, f.br, f.own0, r.append f.held, f.brH⟩
theorem FrR.drop {B : Bs} {c : Ct} {H : Hp} {σ : St} {ρ : Env} {μ : Mu} {vs : List V} {es : List D} (f : FrR (B.hold vs es) c H σ ρ μ) (h : vs.length = es.length) : FrR B c H σ ρ μ ∧ Reps c H vs es :=
  ⟨⟨f.ok, f.stp, f.br, f.own0, (Reps.split h f.held).2, f.brH⟩, (Reps.split h f.held).1⟩
section
variable {X : Cx} {W : WX} {m : SS} {mi : SI} {tg : TgD} {target iter : Expr} {body : List Stmt} {pos : Pos}
theorem sim_for {K : PySem.W.Frag} {wi : TI} {g : TG} {tb : TS} {is : List Nat} (h1 : SimI K W wi mi) (h2 : SimG K g tg is) (h3 : SimS K W tb m) : SimS K W (tFor wi g tb) (sFor mi tg m) := by
  intro B c H σ ρ μ hK f D p
  refine h1 c H σ ρ μ hK f.ok _ (f.go p fun ds μ1 J c1 H1 s1 f1 r p1 => ?_)
  obtain ⟨vs, es, hl, r⟩ := r
  have wk := hl.wlk
  have el : vs.length = es.length := r.length
  refine ⟨fun i mm σ' H' => mm + i = ds.length ∧ ∃ c' ρ' μ', FrR (B.hold vs es) c' H' σ' ρ' μ' ∧ PostS B W (forL tg m (ds.drop i) ρ' μ') D, ⟨ds.length, by omega, c1, ρ, μ1, f1.hold r, p1⟩, ?_⟩
  rintro i mm σ' H' ⟨em, c', ρ', μ', f', p'⟩
  obtain ⟨fB, rB⟩ := f'.drop el
  by_cases hi : i < ds.length
  · have hKc : c'.K = K := f'.K.trans (f.K.symm.trans hK)
    refine .inr ⟨wk.go i c' H' hKc hi rB, fun σ2 H2 => ∃ c2 ρ2 μ2, FrR (B.hold vs es) c2 H2 σ2 ρ2 μ2 ∧ PostS B W (forL tg m (ds.drop (i + 1)) ρ2 μ2) D, fun σ2 H2 ⟨c2, ρ2, μ2, q1, q2⟩ => ⟨mm - 1, by omega, by omega, c2, ρ2, μ2, q1, q2⟩, fun x H2 y => ?_⟩
    obtain ⟨sm, d, hd, rd⟩ := wk.yld i c' H' x H2 μ' hKc f'.ok.m rB hi y
    have e1 : ds.drop i = d :: ds.drop (i + 1) := by
      obtain ⟨hl2, q⟩ := List.getElem?_eq_some_iff.mp hd
      rw [← q]
      exact (List.drop_eq_getElem_cons hl2)
    rw [e1] at p'
    have f2 : FrR (B.hold vs es) c' H2 σ' ρ' μ' := f'.step (Stp.same sm) (f'.ok.m.same sm)
    have p2 : PostS B W (match tg d ρ' with
      | none => .stuck
      | some ρ1 => (match m ρ1 μ' with
        | .nx ρ2 μ2 => forL tg m (ds.drop (i + 1)) ρ2 μ2
        | .ct ρ2 μ2 => forL tg m (ds.drop (i + 1)) ρ2 μ2
        | .bk ρ2 μ2 => .nx ρ2 μ2
        | o => o)) D := p'
    cases et : tg d ρ' with
    | none => rw [et] at p2; exact p2.elim
    | some ρ1 =>
      rw [et] at p2
      refine h2 c' H2 x d (f'.K.trans (f.K.symm.trans hK)) rd (fun σ ρ => FrR (B.hold vs es) c' H2 σ ρ μ') (fun _ _ _ _ _ _ f r => f.setv r) σ' ρ' ρ1 f2 et _ fun σ1 f3 => ?_
      refine h3 (B.hold vs es) c' H2 σ1 ρ1 μ' (f'.K.trans (f.K.symm.trans hK)) f3 _ ?_
      have p3 : PostS B W (match m ρ1 μ' with
        | .nx ρ2 μ2 => forL tg m (ds.drop (i + 1)) ρ2 μ2
        | .ct ρ2 μ2 => forL tg m (ds.drop (i + 1)) ρ2 μ2
        | .bk ρ2 μ2 => .nx ρ2 μ2
        | o => o) D := p2
      clear p2
      have p2 := p3
      clear p3
      cases eo : m ρ1 μ' with
      | nx ρ2 μ2 => rw [eo] at p2; exact fun c3 H3 σ3 f4 => ⟨c3, ρ2, μ2, f4, p2⟩
      | ct ρ2 μ2 => rw [eo] at p2; exact fun c3 H3 σ3 f4 => ⟨c3, ρ2, μ2, f4, p2⟩
      | bk ρ2 μ2 => rw [eo] at p2; exact fun c3 H3 σ3 f4 => p2 c3 H3 σ3 (f4.drop el).1
      | rt d2 μ2 => rw [eo] at p2; exact fun H3 v3 f4 => p2 H3 v3 f4
      | exn y fs ρ2 μ2 => rw [eo] at p2; exact fun c3 H3 σ3 cls dd f4 r4 => p2 c3 H3 σ3 cls dd (f4.drop el).1 r4
      | stuck => rw [eo] at p2; exact p2.elim
  · have e : i = ds.length := by omega
    subst e
    rw [List.drop_length] at p'
    exact .inl ⟨wk.stop c' H' (f'.K.trans (f.K.symm.trans hK)) rB, p' c' H' σ' fB⟩
theorem psd_for (hp : PassesOwn (model X.prog X.w) X.A X.env X.xe) (hc : X.calm = true) (hi : PID X W target iter mi) {is : List Nat} (hg : PGD X target tg is) (hb : PSDs X W body m) (hs : ∀ x, foldedSetIterable iter X.env x = pure x := by intro _; rfl) : PSD X W (.For target iter body [] pos) (sFor mi tg m) := by
  obtain ⟨wi, a1, a2⟩ := hi
  obtain ⟨g, b1, b2⟩ := hg
  obtain ⟨t, c1, c2⟩ := hb
  exact ⟨_, ps_for hp hc a1 b1 c1 hs, sim_for a2 b2 c2⟩

/-! ### range, lists, tuples -/
theorem wlk_range (K : PySem.W.Frag) (lo : Int) (n : Nat) : Wlk K (Itr lo n) (fun _ _ => True) (rngL lo n) := by
  have hl : (rngL lo n).length = n := by simp [rngL]
  refine ⟨fun i c H _ hi _ => ?_, fun c H _ _ => ?_, fun i c H x H' _ _ _ _ hi y => ?_⟩
  · rw [hl] at hi; exact hi
  · rw [hl]; exact Nat.le_refl _
  · obtain ⟨e1, e2⟩ := y
    subst e1 e2
    rw [hl] at hi
    exact ⟨Same.refl _, .int (lo + i), by simp [rngL, hi], .int _⟩
def in62 (j : Int) : Bool := decide (-(2 ^ 62) ≤ j) && decide (j < 2 ^ 62)
theorem in62_ok {j : Int} (h : in62 j = true) : -(2 ^ 62) ≤ j ∧ j < 2 ^ 62 := by
  obtain ⟨a, b⟩ := Bool.and_eq_true_iff.mp h
  exact ⟨of_decide_eq_true a, of_decide_eq_true b⟩
def fRng1 : List D → Mu → Out (List D)
  | [.int j], m => if in62 j = true then .ok (rngL 0 j.toNat) m else .stuck
  | _, _ => .stuck
def fRng2 : List D → Mu → Out (List D)
  | [.int i, .int j], m => if in62 i = true ∧ in62 j = true then .ok (rngL i (j - i).toNat) m else .stuck
  | _, _ => .stuck
def mRng (f : List D → Mu → Out (List D)) (ma : SA) : SI := fun ρ μ => (ma ρ μ).bnd f
theorem pid_range1 {a : Expr} {p : Pos} {ma : SA} (hm : X.mg "range" = none) (ha : PDA X W true [a] ma) (hg : Gl X "range" := by rfl) (hs : starEach [a] X.env = [(false, eval a X.env)] := by rfl) : PID X W target (.Call (.Name "range" p) [a] [] pos) (mRng fRng1 ma) := by
  obtain ⟨t, h1, h2⟩ := ha
  refine ⟨_, pi_range1 hg hm h1 hs, fun c H σ ρ μ hK k R q => ?_⟩
  refine h2 c H σ ρ μ hK k _ (PostG.bnd q fun ds μ1 vs c1 H1 s1 M1 r1 p1 => ?_)
  unfold fRng1 at p1
  split at p1
  · rename_i m j
    split at p1
    · rename_i hj
      obtain ⟨v, rfl, rv⟩ := repsF_one r1
      exact ⟨j, by rw [rep_int rv], (in62_ok hj).1, (in62_ok hj).2, p1 _ c1 H1 (Stp.refl _ _) M1 ⟨[], [], .free (wlk_range _ 0 j.toNat), .nil⟩⟩
    · exact p1.elim
  · exact p1.elim
theorem pid_range2 {a b : Expr} {p : Pos} {ma : SA} (hm : X.mg "range" = none) (ha : PDA X W true [a, b] ma) (hg : Gl X "range" := by rfl) (hs : starEach [a, b] X.env = [(false, eval a X.env), (false, eval b X.env)] := by rfl) (hs2 : starEach [b] X.env = [(false, eval b X.env)] := by rfl) : PID X W target (.Call (.Name "range" p) [a, b] [] pos) (mRng fRng2 ma) := by
  obtain ⟨t, h1, h2⟩ := ha
  refine ⟨_, pi_range2 hg hm h1 hs hs2, fun c H σ ρ μ hK k R q => ?_⟩
  refine h2 c H σ ρ μ hK k _ (PostG.bnd q fun ds μ1 vs c1 H1 s1 M1 r1 p1 => ?_)
  unfold fRng2 at p1
  split at p1
  · rename_i m i j
    split at p1
    · rename_i hj
      obtain ⟨v, w, rfl, rv, rw_⟩ := repsF_two r1
      exact ⟨i, j, by rw [rep_int rv, rep_int rw_], ⟨(in62_ok hj.1).1, (in62_ok hj.1).2, (in62_ok hj.2).1, (in62_ok hj.2).2⟩, p1 _ c1 H1 (Stp.refl _ _) M1 ⟨[], [], .free (wlk_range _ i (j - i).toNat), .nil⟩⟩
    · exact p1.elim
  · exact p1.elim
end
end DL
/-! # Dk: an own error class called with keywords -/
namespace PySem
namespace EX
open PySem.W PySem.Calls PyProof.Rows PySem.HandSPX
section
variable {prog : Program} {w : World} {A : Around} {M : Model} {E : Value → Shared → Prop} {R : Result → Shared → Prop} {h : Heap} {g : Array GenState} {d : Drawn} {t : Nat} {os : OsState}
variable {nm q : Str} {C N : Addr} {bs bm bmB : List Value} {hdct : Bool} {sn : List Str} {sub : List Value} {ab : Bool} {col : Option Bool} {dd : Option Addr} {k0 k1 k2 k3 k5 : Option Value} {B newId initId : String}
  {rest : List Value} {kw : List (Str × Value)} {fI : Addr}
/-- with keywords: the look at the arguments of __new__ -/
theorem check_newK (F : ExcBaseFacts B newId initId bmB) (hT : ∀ X : String, bm.contains (.type X) = bmB.contains (.type X)) {Q : Unit → Shared → Prop}
    (hC : h.get? C = some (excClassObj nm q C N bs bm hdct sn sub ab col dd k0 k1 k2 k3 k5 newId)) (hq : Q () ⟨h, g, d, t, os⟩) : wpAny M A (checkBuiltinCall newId ⟨.ref C :: rest, kw⟩) Q E ⟨h, g, d, t, os⟩ := by
  have has : (Value.ref C :: bm).contains (.type B) = true := by
    rw [List.contains_cons, hT, F.hasB]
    exact Bool.or_true _
  have short := F.noStar
  simp only [checkBuiltinCall, F.newKind, F.newSplit, F.newRow]
  repeat (first
    | refine wpAny_loadPart_at hC ?_
    | (refine wpAny_isSubtype_exc hC ?_; rw [has])
    | refine wpAny_staticBase_exc hC ?_
    | refine wpAny_madeBy_exc hC ?_
    | simp only [bne_self_eq_false, Bool.false_eq_true, if_false]
    | wp_step)
  exact hq
theorem newK (F : ExcBaseFacts B newId initId bmB) (hT : ∀ X : String, bm.contains (.type X) = bmB.contains (.type X))
    (hC : h.get? C = some (excClassObj nm q C N bs bm hdct sn sub ab col dd k0 k1 k2 k3 k5 newId))
    (fin : R (.ok (.ret (.ref (h.objs.size + 1)))) ⟨(h.push (W.kdv_tup rest)).push (excO C h.objs.size), g, d, t, os⟩) (short : rest.length ≤ sizeLine) :
    codeAny (model prog w) A (.builtin newId ⟨.ref C :: rest, kw⟩) R ⟨h, g, d, t, os⟩ := by
  have ends := F.ends
  have c1 : (Value.ref C :: bm).contains (.type B) = true := by
    rw [List.contains_cons, hT, F.hasB]
    exact Bool.or_true _
  have c2 : (Value.ref C :: bm).contains (.type "AttributeError") = false := by
    rw [List.contains_cons, hT, F.noAttr]
    rfl
  have c3 : (Value.ref C :: bm).contains (.type "NameError") = false := by
    rw [List.contains_cons, hT, F.noName]
    rfl
  refine codeAny_builtinAt F.entry ?_
  unfold Builtin.«BaseException.__new__»
  refine wpAt_bind ?_
  show wpAt _ _ _ (stack >>= _) _ _ _
  refine wpAt_bind (wpAt_stack fun p below => wpAt_of_wpAny ?_)
  wp_walk
  refine wpAt_of_wpAny ?_
  rw [F.owner]
  repeat (first
    | with_reducible refine wpAny_madeHere_exc F.canon hC ?_
    | with_reducible refine wpAny_loadPart_at hC ?_
    | (with_reducible refine wpAny_isSubtype_exc hC ?_; first | rw [c1] | rw [c2] | rw [c3])
    | wp_step)
  show R _ _
  rw [Heap.size_push]
  exact fin
theorem typeCallK (F : ExcBaseFacts B newId initId bmB) (hT : ∀ X : String, bm.contains (.type X) = bmB.contains (.type X)) {Q : Fin → Shared → Prop}
    (hC : h.get? C = some (excClassObj nm q C N bs bm hdct sn sub ab col dd k0 k1 k2 k3 k5 newId))
    (hi : W.Looks (model prog w) h (typeLookup (.ref C) "__init__") (some (.ref fI))) (hb : ∀ self, W.Looks (model prog w) h (bindSpecial (.ref fI) self) (.ref fI, [self])) (short : rest.length ≤ sizeLine)
    (fin : codeAny (model prog w) A (.call (.ref fI) ⟨.ref (h.objs.size + 1) :: rest, kw⟩)
      (fun r s' => match r with | .ok (.ret v) => v = .none ∧ Q (.done (.ret (.ref (h.objs.size + 1)))) s' | .ok _ => False | .error e => E e s')
      ⟨(h.push (W.kdv_tup rest)).push (excO C h.objs.size), g, d, t, os⟩) :
    wpAny (model prog w) A (Builtin.«type.__call__» ⟨.ref C :: rest, kw⟩) Q E ⟨h, g, d, t, os⟩ := by
  repeat (first
    | with_reducible refine wpAny_loadPart_at hC ?_
    | with_reducible refine wpAny_madeBy_exc hC ?_
    | wp_step)
  refine codeAny_call_builtin_code (Code.quiet_builtin _ F.quiet) (check_newK F hT hC ?_)
  refine newK F hT hC ?_ short
  show wpAny _ _ _ _ _ _
  have keep : ∀ b o, h.get? b = some o → ((h.push (W.kdv_tup rest)).push (excO C h.objs.size)).get? b = some o := fun b o e => Heap.get?_push_of_some _ (Heap.get?_push_of_some _ e)
  have hC1 := keep _ _ hC
  have there : ((h.push (W.kdv_tup rest)).push (excO C h.objs.size)).get? (h.objs.size + 1) = some (excO C h.objs.size) := by heap_get
  have own : (Value.ref C :: bm).contains (.ref C) = true := by simp
  have look := hi.keeps keep
  have bound := (hb (.ref (h.objs.size + 1))).keeps keep
  unfold isInstance
  repeat (first
    | with_reducible refine wpAny_loadPart_at there ?_
    | (with_reducible refine wpAny_isSubtype_exc hC1 ?_; rw [own])
    | wp_step)
  show wpAny _ _ (typeLookup (.ref C) _) _ _ _
  refine look.at ?_
  refine wpAny_holding (wpAny_bind (bound.at ?_))
  refine wpAny_bind (wpAny_call (codeAny_mono fin ?_))
  intro r s' z
  rcases r with e | (v | _ | _ | _)
  · exact z
  all_goals first | exact z.elim | skip
  obtain ⟨rfl, z⟩ := z
  first
    | exact wpAny_pure (wpAny_pure z)
    | (wp_walk; exact z)
theorem callK (F : ExcBaseFacts B newId initId bmB) (hT : ∀ X : String, bm.contains (.type X) = bmB.contains (.type X))
    (hC : h.get? C = some (excClassObj nm q C N bs bm hdct sn sub ab col dd k0 k1 k2 k3 k5 newId))
    (hi : W.Looks (model prog w) h (typeLookup (.ref C) "__init__") (some (.ref fI))) (hb : ∀ self, W.Looks (model prog w) h (bindSpecial (.ref fI) self) (.ref fI, [self])) (short : rest.length ≤ sizeLine)
    (fin : codeAny (model prog w) (A.under (.builtin "type.__call__" ⟨.ref C :: rest, kw⟩)) (.call (.ref fI) ⟨.ref (h.objs.size + 1) :: rest, kw⟩) (W.InitBack (h.objs.size + 1) R)
      ⟨(h.push (W.kdv_tup rest)).push (excO C h.objs.size), g, d, t, os⟩) :
    codeAny (model prog w) A (.call (.ref C) ⟨rest, kw⟩) R ⟨h, g, d, t, os⟩ := by
  have f1 := tc_lookup
  have f2 := tc_bind (.ref C)
  have isTy : (⟨h, g, d, t, os⟩ : Shared).TypeIs (.ref C) "type" := ⟨_, hC, rfl⟩
  refine codeAny_of_tree ?_
  show wpAny _ _ (callAny (.ref C) _) _ _ _
  repeat (any_goals (first
    | assumption
    | with_reducible refine wpAny_loadPart_at hC ?_
    | wp_step))
  refine ⟨rfl, ?_⟩
  have chk : ∀ {Q : Unit → Shared → Prop} {E : Value → Shared → Prop} {A : Around}, Q () ⟨h, g, d, t, os⟩ → wpAny (model prog w) A (checkBuiltinCall "type.__call__" ⟨.ref C :: rest, kw⟩) Q E ⟨h, g, d, t, os⟩ := by
    intro Q E A hq
    exact wpAny_check_type_call_sub hC hq
  refine codeAny_call_builtin_at (Code.quiet_builtin _ (by decide +kernel)) entry_typeCall (chk (typeCallK F hT hC hi hb short ?_))
  refine codeAny_mono fin fun r s' z => ?_
  rcases r with e | (v | _ | _ | _) <;> exact z
end
end EX
end PySem
/-! # DL, errors: an own error class, two classes above Exception, whose __init__ says super().__init__(text) and stores one field (or none) -/
namespace PySem
namespace EX
open PySem.W PySem.Calls PyProof.Rows PySem.HandSPX
abbrev exTail : List Value := [.type "Exception", .type "BaseException", .type "object"]
abbrev iA (f : Str) (p1 p2 : Pos) : Arguments := { posonlyargs := [], args := [{ arg := "self", annotation := none, pos := p1 }, { arg := f, annotation := none, pos := p2 }], vararg := none, kwonlyargs := [], kw_defaults := [], kwarg := none, defaults := [] }
abbrev iS (f : Str) : Scope := { kind := .function, names := [(PySem.Str.ofString "self", .local), (f, .local), (PySem.Str.ofString "__class__", .free), (PySem.Str.ofString "super", .globalImplicit)], isGenerator := false, isCoroutine := false, more := [] }
abbrev iB (f tx : Str) (j : Nat) (p0 p1 p2 p3 p4 p5 p6 p7 p8 p9 : Pos) : List Stmt :=
  [.Expr (.Call (.Attribute (.Call (.Name "super" p0) [] [] p1) "__init__" p2) [.Constant (.str tx) j p3] [] p4) p5, .Assign [.Attribute (.Name "self" p6) f p7] (.Name f p8) p9]
theorem eval_meth {o : Expr} {name : Str} {q2 q4 : Pos} {args : List Expr} {env : Env} (h : (q2.endLine == q4.line) = true) (hf : methodCallForm (args.length + 0) (backTo q4 (starEach args env)) [] = true) : eval (.Call (.Attribute o name q2) args [] q4) env = (do
      let ov ← attributeBase o name env (eval o env)
      standAt q2.atName
      let (f, first) ← holding [ov] (getMethod ov name (do return (← importBound o env).getD true))
      callWith q4 f first (backTo q4 (starEach args env)) []) := by
  show (attributeBase o name env (eval o env) >>= fun ov => standAt q2.atName >>= fun _ => methodCall o name q2 q4 env ov (args.length + 0) (backTo q4 (starEach args env)) []) = _
  have hm : ∀ ov, methodCall o name q2 q4 env ov (args.length + 0) (backTo q4 (starEach args env)) [] = (do
      let (f, first) ← holding [ov] (getMethod ov name (do return (← importBound o env).getD true))
      callWith q4 f first (backTo q4 (starEach args env)) []) := by
    intro ov
    unfold methodCall methodCallPos calleeOf
    simp only [hf, h, Bool.or_true, if_true]
    rfl
  simp only [hm]

/-- what the written part tells of the class x at C -/
structure ErrT (P : Program) (K : Frag) (x : Str) (C fI cda cc : Addr) (f : Str) : Prop where
  gC : nsIn K mainGlobals x = some (some (.ref C))
  q : excInitIn K C exTail "Exception.__new__" = true
  ov : excOver K C exTail = true
  sa : findIn K (.ref C) "__setattr__" = some (some (.builtin "object.__setattr__"))
  tk : takerIn K C f = some none
  hd : hasDictIn K C = true
  ga : findIn K (.ref C) "__getattribute__" = some (some (.builtin "BaseException.__getattribute__"))
  gg : findIn K (.ref C) "__getattr__" = some none
  no : findIn K (.ref C) f = some none
  iC : findIn K (.ref C) "__init__" = some (some (.ref fI))
  isF : isFn K (.ref fI) = true
  kp : keepIn K (.ref C) = true
  sB : subIn K (.ref C) (.type "BaseException") = some true
  sE : subIn K (.ref C) (.type "Exception") = some true
  ty : typeIn K (.ref C) = some (.type "type")
  tp : nsIn K cStatics "thirdparty.any" = some none
  su : ks_superIn K C C "__init__" = some (some (.builtin "Exception.__init__"))
  mr : mroIn K C (.ref C) = some true
  isC : (clsIn K C).isSome = true
  sup : nsIn K mainGlobals "super" = some none
  fn : ∃ oc od kV doc pm an ct osl qual p1 p2 tx j q0 q1 q2 q3 q4 q5 q6 q7 q8 q9, K.lookup fI = some ⟨oc, od, .func (fnX "__init__" qual (iA f p1 p2) (iB f tx j q0 q1 q2 q3 q4 q5 q6 q7 q8 q9) (iS f) [("__class__", cc)] .none kV doc pm an (.ref cda) ct), osl⟩ ∧ codeIn K (.ref cda) qual = true ∧ (q2.endLine == q4.line) = true
  code : ∃ ccl cdd vs ccs file tf, K.lookup cda = some ⟨ccl, cdd, .fields vs, ccs⟩ ∧ vs[2]? = some (.str file tf) ∧ ((P.main.file : Str) == file) = true
  cell : ∃ cl cld csl, K.lookup cc = some ⟨cl, cld, .cell (some (.ref C)), csl⟩
  top : (P.main.scope.names.lookup ("super" : Str)).isSome = false
structure OkF (f : Str) : Prop where
  n1 : f ≠ PySem.Str.ofString "self"
  n2 : f ≠ PySem.Str.ofString "__class__"
  n3 : f ≠ PySem.Str.ofString "super"
  n4 : (f == ("__debug__" : Str)) = false
  bind : ∀ qual p1 p2 body cl kV doc pm an cd ct a v, bindArgs (fnX "__init__" qual (iA f p1 p2) body (iS f) cl .none kV doc pm an cd ct) ⟨[a, v], []⟩ = pure [((PySem.Str.ofString "self" : Str), a), (f, v)]
  bindK : ∀ qual p1 p2 body cl kV doc pm an cd ct a v, bindArgs (fnX "__init__" qual (iA f p1 p2) body (iS f) cl .none kV doc pm an cd ct) ⟨[a], [(f, v)]⟩ = pure [((PySem.Str.ofString "self" : Str), a), (f, v)]
theorem okF_at : OkF "at" := ⟨by decide +kernel, by decide +kernel, by decide +kernel, by decide +kernel, fun _ _ _ _ _ _ _ _ _ _ _ _ _ => rfl, fun _ _ _ _ _ _ _ _ _ _ _ _ _ => rfl⟩
theorem okF_word : OkF "word" := ⟨by decide +kernel, by decide +kernel, by decide +kernel, by decide +kernel, fun _ _ _ _ _ _ _ _ _ _ _ _ _ => rfl, fun _ _ _ _ _ _ _ _ _ _ _ _ _ => rfl⟩
/-- the arguments rest, kw give the field the value v -/
def Gives (f : Str) (rest : List Value) (kw : List (Str × Value)) (v : Value) : Prop := (rest = [v] ∧ kw = []) ∨ (rest = [] ∧ kw = [(f, v)])
theorem Gives.bind {f : Str} {rest : List Value} {kw : List (Str × Value)} {v : Value} (hf : OkF f) (h : Gives f rest kw v) : ∀ qual p1 p2 body cl kV doc pm an cd ct a,
    bindArgs (fnX "__init__" qual (iA f p1 p2) body (iS f) cl .none kV doc pm an cd ct) ⟨a :: rest, kw⟩ = pure [((PySem.Str.ofString "self" : Str), a), (f, v)] := by
  rcases h with ⟨rfl, rfl⟩ | ⟨rfl, rfl⟩
  · exact fun _ _ _ _ _ _ _ _ _ _ _ _ => hf.bind _ _ _ _ _ _ _ _ _ _ _ _ _
  · exact fun _ _ _ _ _ _ _ _ _ _ _ _ => hf.bindK _ _ _ _ _ _ _ _ _ _ _ _ _
theorem Gives.short {f : Str} {rest : List Value} {kw : List (Str × Value)} {v : Value} (h : Gives f rest kw v) : rest.length ≤ sizeLine := by
  rw [sizeLine_eq]
  rcases h with ⟨rfl, rfl⟩ | ⟨rfl, rfl⟩
  · exact (by decide : 1 ≤ 16777216)
  · exact (by decide : 0 ≤ 16777216)
/-- what a made error is -/
structure Made (h h' : Heap) (x C dx : Addr) (f : Str) (v : Value) : Prop where
  keep : ∀ b o, b ≠ x → h.get? b = some o → h'.get? b = some o
  obj : ∃ t1 : Addr, h'.get? x = some { cls := .ref C, dict := some dx, data := .fields #[.ref t1, .none, .none, .none, .bool false, .none] }
  dbig : h.objs.size ≤ dx
  dne : dx ≠ x
  ns : h'.Ns1 dx (fun y => if y = f then some v else none)
theorem ldL2 {M : Model} {A : Around} {E : Value → Shared → Prop} {s : Shared} {q : Str} {scope : Scope} {L a cc : Addr} {cd : Value} {h₀ : Heap} {m : Str → Option Value} {x : Str} {pos : Pos} {v : Value} {Q : Value → Shared → Prop} (F : Fr h₀ L s.heap m) (hv : m x = some v)
    (hl : scope.names.lookup x = some .local) (hd : (x == ("__debug__" : Str)) = false) (h : Q v s) (hk : scope.kind = .function := by rfl) : wpAny M A (eval (.Name x pos) (ksEnv q scope L a cd cc)) Q E s := wpAny_Name (wpAny_loadName_local hk hl F.ns hv h) hd
theorem ns_one {h : Heap} {dx : Addr} {f : Str} {v : Value} {hh : Int} {tk : Tok} {n : Nat} (e : h.get? dx = some (dictOf [⟨hh, .str f tk, v⟩] n)) : h.Ns1 dx (fun y => if y = f then some v else none) := by
  refine ⟨_, _, _, e, rfl, ?_, ?_, fun y => ?_⟩
  · intro z hz
    have q : z = ⟨hh, .str f tk, v⟩ := by simpa using hz
    exact ⟨f, tk, by rw [q]⟩
  · unfold UniqKeys
    simp
  · show _ = (if y = f then some v else none)
    by_cases h1 : y = f
    · rw [if_pos h1, h1]
      simp [nsFind, findBy, Value.isStr]
    · rw [if_neg h1]
      have q : (f == y) = false := beq_eq_false_iff_ne.mpr (fun z => h1 z.symm)
      simp [nsFind, findBy, Value.isStr, q]
section
variable {prog : Program} {w : World} {A : Around} {E : Value → Shared → Prop} {R : Result → Shared → Prop} {s : Shared} {K : Frag} {mg : Str → Option Value} {base : Heap} {x : Str} {C fI cda cc : Addr} {f : Str}
theorem sup_init (T : ErrT prog K x C fI cda cc f) (hf : OkF f) {e t0 : Addr} {v : Value} {rest : List Value} {kw : List (Str × Value)} (hG : Gives f rest kw v) (M : L2.Mod K mg base) (bk : ∀ b o, base.get? b = some o → s.heap.get? b = some o) (X : K.In s.heap) (hlim : s.heap.NoLimit) (he : s.heap.get? e = some (excO C t0)) (hne : K.lookup e = none) (hbe : base.get? e = none)
    (hroom : A.depth < recursionLimit) (hq : ∀ h' tk dx, Made s.heap h' e C dx f v → R (.ok (.ret .none)) { s with heap := h', toks := tk }) :
    codeAny (model prog w) A (.call (.ref fI) ⟨.ref e :: rest, kw⟩) R s := by
  have hbind := hG.bind hf
  obtain ⟨oc, od, kV, doc, pm, an, ct, osl, qual, p1, p2, tx, j, q0, q1, q2, q3, q4, q5, q6, q7, q8, q9, lk, hcd, hline⟩ := T.fn
  obtain ⟨ccl, cdd, vs, ccs, file, tf, lc, hvs, hfile⟩ := T.code
  obtain ⟨cl, cld, csl, lcell⟩ := T.cell
  obtain ⟨f1, f2, f3, f4, _, _⟩ := hf
  refine ks_codeAny_call_defAt (binds := [("self", .ref e), (f, v)]) hroom (X _ _ lk) rfl hlim (codeRec_of X hcd) rfl (BindsTo.of_eq (hbind _ _ _ _ _ _ _ _ _ _ _ _)) ?_ ?_ (fun h0 hns hk => ?_)
  · intro y hy
    simp only [List.mem_cons, List.not_mem_nil, or_false] at hy
    rcases hy with rfl | rfl | rfl | rfl <;> exact fun z => nomatch z
  · intro y hy
    simp only [List.mem_cons, List.not_mem_nil, or_false] at hy
    rcases hy with rfl | rfl
    · rfl
    · show List.lookup f [((PySem.Str.ofString "self" : Str), NameKind.local), (f, .local), (PySem.Str.ofString "__class__", .free), (PySem.Str.ofString "super", .globalImplicit)] = some .local
      have q : (f == (PySem.Str.ofString "self" : Str)) = false := beq_eq_false_iff_ne.mpr f1
      simp [List.lookup, q]
  have xL : s.heap.objs.size ≠ e := Nat.ne_of_gt (Heap.lt_size he)
  -- the ground: all but the new error
  have hG : ∀ b o, (hideAll s.heap [e]).get? b = some o → s.heap.get? b = some o := fun b o z => of_hideAll [e] z
  have hGe : (hideAll s.heap [e]).get? e = none := hideAll_none [e] (by simp)
  have XG : K.In (hideAll s.heap [e]) := fun b o z => hideAll_get [e] (X b o z) (by
    intro m
    rcases List.mem_singleton.mp m with rfl
    rw [hne] at z
    cases z)
  have F0 : Fr (hideAll s.heap [e]) s.heap.objs.size h0 (fun y => ([("self", Value.ref e), (f, v)] : List (Str × Value)).reverse.lookup y) := ⟨hns, fun b o z => hk b o (hG b o z), by rw [hideAll_size]; exact Nat.le_refl _⟩
  have N0 : News (hideAll s.heap [e]) s.heap.objs.size h0 [(e, excObj C t0 none .none)] := fun p hp => by
    rcases List.mem_singleton.mp hp with rfl
    exact ⟨hk _ _ he, fun z => xL z.symm, hGe⟩
  have kS : Str.ofString "self" ≠ f := fun z => f1 z.symm
  have mself : ([("self", Value.ref e), (f, v)] : List (Str × Value)).reverse.lookup (PySem.Str.ofString "self") = some (Value.ref e) := by
    show List.lookup (PySem.Str.ofString "self") [(f, v), ((PySem.Str.ofString "self" : Str), Value.ref e)] = some (Value.ref e)
    have q : ((PySem.Str.ofString "self" : Str) == f) = false := beq_eq_false_iff_ne.mpr kS
    simp [List.lookup, q]
  have mf : ([("self", Value.ref e), (f, v)] : List (Str × Value)).reverse.lookup f = some v := by
    show List.lookup f [(f, v), ((PySem.Str.ofString "self" : Str), Value.ref e)] = some v
    simp [List.lookup]
  have lf : List.lookup f (iS f).names = some .local := by
    have q : (f == (PySem.Str.ofString "self" : Str)) = false := beq_eq_false_iff_ne.mpr f1
    simp [List.lookup, q]
  obtain ⟨cdC, hcC⟩ := Option.isSome_iff_exists.mp T.isC
  obtain ⟨mb, hb1, hb2⟩ := M.blt
  show wpAt (model prog w) _ (.func _ (ksEnv qual (iS f) s.heap.objs.size fI (.ref cda) cc)) (execs (iB f tx j q0 q1 q2 q3 q4 q5 q6 q7 q8 q9) (ksEnv qual (iS f) s.heap.objs.size fI (.ref cda) cc)) _ _ _
  have kind : ∀ y, (ksEnv qual (iS f) s.heap.objs.size fI (.ref cda) cc).kindOf y = List.lookup y (iS f).names := fun y => rfl
  have ksup : List.lookup (PySem.Str.ofString "super") (iS f).names = some .globalImplicit := by
    have q : ((PySem.Str.ofString "super" : Str) == f) = false := beq_eq_false_iff_ne.mpr (fun z => f3 z.symm)
    simp [List.lookup, q]
    decide
  have kcls : List.lookup (PySem.Str.ofString "__class__") (iS f).names = some .free := by
    have q : ((PySem.Str.ofString "__class__" : Str) == f) = false := beq_eq_false_iff_ne.mpr (fun z => f2 z.symm)
    simp [List.lookup, q]
    decide
  have kself : List.lookup (PySem.Str.ofString "self") (iS f).names = some .local := rfl
  have IE : InstAt h0 e (excObj C t0 none .none) C none := ⟨hk _ _ he, rfl, rfl, trivial⟩
  obtain ⟨oC, hC1, hC2⟩ : ∃ oC, s.heap.get? C = some oC ∧ oC.data = .cls cdC := by
    unfold clsIn at hcC
    split at hcC
    · rename_i c d cd' sl ho
      cases hcC
      exact ⟨_, X _ _ ho, rfl⟩
    · cases hcC
  refine ks_wpAt_execs_cons (ks_wpAt_Expr_any (ks_wpAt_MethodCall (ks_wpAt_super_base ksup kcls (by decide +kernel) rfl (hk _ _ (X _ _ lk)) rfl rfl rfl (hk _ _ (X _ _ lc)) rfl hvs hfile T.top ?_) (eval_meth hline rfl)))
  refine ks_loadName_global rfl ksup (loadGlobal_builtin (M.glob.keeps fun b o z => hk b o (bk b o z)) (mg_none_of M.kin M.glob T.sup) (hb1.keeps fun b o z => hk b o (bk b o z)) ((hb2 _ (by decide)).trans (by decide +kernel)) ⟨rfl, ?_⟩)
  refine wpAny_loadName_free rfl kcls rfl ⟨_, hk _ _ (X _ _ lcell), rfl⟩ ?_
  refine wpAny_loadName_local rfl kself hns mself ?_
  refine ks_wpAny_isType_cls (hk _ _ hC1) hC2 ⟨rfl, ?_⟩
  refine ks_wpAny_call_super (hk _ _ hC1) hC2 IE.at_ rfl (fun c z => by cases z) (looks_mroIn (X.keeps hk) T.mr) (fun h1 e1 k1 => ?_)
  obtain ⟨F1, N1, l1⟩ := ks_newsPush (s := ⟨h0, s.gens, s.drawn, s.toks + [((PySem.Str.ofString "self" : Str), Value.ref e), (f, v)].length, s.os⟩) F0 N0 rfl e1 k1
  have IE1 : InstAt h1 e (excObj C t0 none .none) C none := ⟨k1 _ _ (hk _ _ he), rfl, rfl, trivial⟩
  refine kxs_method kxs_Exception F1 XG N1 (.head _) IE1 T.tp T.su T.sE (by decide +kernel) (fun u h2 F2 N2 l2 => ?_)
  refine kxs_callWith1 N2 (.head _) ?_
  show wpAny _ _ (spliced ((false, eval (.Constant (.str tx) j q3) (ksEnv qual (iS f) s.heap.objs.size fI (.ref cda) cc)) :: [])) _ _ _
  refine Calls.spliced_cons (Calls.Constant_str (Calls.spliced_nil ⟨kxs_at N2 (.head _), ?_⟩))
  have ue : u ≠ e := fun z => by
    have q := l2 (e, excObj C t0 none .none) (.tail _ (.head _))
    exact absurd (z ▸ q) (Nat.lt_irrefl _)
  have se : h0.objs.size ≠ e := fun z => by
    have q := l1 (e, excObj C t0 none .none) (.head _)
    exact absurd (z ▸ q) (Nat.lt_irrefl _)
  refine kxs_call F2 XG N2 PySem.F.excBase_Exception T.q (.head _) (.tail ue (.tail se (.head fun p hp => nomatch hp))) (by rw [sizeLine_eq]; exact (by decide : 1 ≤ 16777216)) (fun t1 h3 F3 N3 l3 => ?_)
  -- self.f = f
  have te : t1 ≠ e := fun z => by
    have q := l3 (e, excObj C t0 none .none) (.tail _ (.tail _ (.head _)))
    exact absurd (z ▸ q) (Nat.lt_irrefl _)
  refine ks_wpAt_execs_cons (wpAt_of_wpAny (plainObj_wpAny_Assign_Attribute ?_))
  refine ldL2 F3 mf lf f4 (ldL2 F3 mself kself (by decide +kernel) ?_)
  refine set_exc0 PySem.F.store_Exception F3 XG N3 (.tail _ (.tail _ (.tail _ (.head _)))) T.sa T.ov T.tk T.hd rfl (.tail te (.tail ue (.tail se (.head fun p hp => nomatch hp)))) (by show 1 ≤ 1000; decide) (fun dx h4 F4 N4 l4 => ?_)
  refine wpAt_of_wpAny (wpAny_execs_nil ?_)
  have m4 := N4 (dx, _) (.head _)
  refine hq h4 _ dx ⟨fun b o hb ho => ?_, ⟨t1, (N4 (e, excObj C t1 (some dx) .none) (.tail _ (.tail _ (.tail _ (.tail _ (.head _)))))).1⟩, ?_, ?_, ns_one m4.1⟩
  · exact F4.keep b o (hideAll_get [e] ho (by intro m; exact hb (List.mem_singleton.mp m)))
  · have q := l4 (t1, _) (.head _)
    have q3 := l3 (u, kxs_mw "Exception.__init__" e) (.head _)
    have q2 := l2 (h0.objs.size, ks_superObj C e C) (.head _)
    have hs : s.heap.objs.size ≤ h0.objs.size := by
      have := hns.lt
      exact Nat.le_of_lt this
    exact Nat.le_trans hs (Nat.le_of_lt (Nat.lt_trans q2 (Nat.lt_trans q3 q)))
  · intro z
    have q := l4 (e, excObj C t1 none .none) (.tail _ (.tail _ (.tail _ (.head _))))
    exact absurd (z ▸ q) (Nat.lt_irrefl _)
/-- the class is called: the new error, its own dict -/
structure MadeC (h h' : Heap) (e C dx : Addr) (f : Str) (v : Value) : Prop where
  keep : ∀ b o, h.get? b = some o → h'.get? b = some o
  new : h.objs.size ≤ e
  obj : ∃ t1 : Addr, h'.get? e = some { cls := .ref C, dict := some dx, data := .fields #[.ref t1, .none, .none, .none, .bool false, .none] }
  dbig : h.objs.size ≤ dx
  dne : dx ≠ e
  ns : h'.Ns1 dx (fun y => if y = f then some v else none)
theorem err_made (T : ErrT prog K x C fI cda cc f) (hf : OkF f) {v : Value} {rest : List Value} {kw : List (Str × Value)} (hG : Gives f rest kw v) (M : L2.Mod K mg base) (bk : ∀ b o, base.get? b = some o → s.heap.get? b = some o) (hlim : s.heap.NoLimit) (hroom : A.depth + 1 < recursionLimit)
    (hq : ∀ h' tk e dx, MadeC s.heap h' e C dx f v → R (.ok (.ret (.ref e))) { s with heap := h', toks := tk }) :
    codeAny (model prog w) A (.call (.ref C) ⟨rest, kw⟩) R s := by
  have X : K.In s.heap := M.kin.keeps bk
  obtain ⟨nm, N, qn, bs, bm, hdct, sn, sub, ab, col, dd, k0, k1, k2, k3, k5, hC, hT⟩ := excInit_of X T.q
  have tF : typeIn K (.ref fI) = some (.type "function") := beq_iff_eq.mp T.isF
  obtain ⟨hp, g, dr, tk, os⟩ := s
  have k : ∀ b o, hp.get? b = some o → ((hp.push (kdv_tup rest)).push (excO C hp.objs.size)).get? b = some o := fun b o e => Heap.get?_push_of_some _ (Heap.get?_push_of_some _ e)
  have hget : ((hp.push (kdv_tup rest)).push (excO C hp.objs.size)).get? (hp.objs.size + 1) = some (excO C hp.objs.size) := by heap_get
  have big : ∀ {b : Addr} {o : Obj}, hp.get? b = some o → b ≠ hp.objs.size + 1 := fun {b o} z => Nat.ne_of_lt (Nat.lt_succ_of_lt (Heap.lt_size z))
  have hnx : K.lookup (hp.objs.size + 1) = none := by
    cases e : K.lookup (hp.objs.size + 1) with
    | none => rfl
    | some o => exact absurd rfl (big (X _ _ e))
  have hbx : base.get? (hp.objs.size + 1) = none := by
    cases e : base.get? (hp.objs.size + 1) with
    | none => rfl
    | some o => exact absurd rfl (big (bk _ _ e))
  refine callK PySem.F.excBase_Exception hT hC (looks_findIn X T.iC) (fun self => bind_fn X self tF) hG.short ?_
  refine sup_init (s := ⟨(hp.push (kdv_tup rest)).push (excO C hp.objs.size), g, dr, tk, os⟩) T hf hG M (fun b o z => k b o (bk b o z)) (X.keeps k) (hlim.keeps k) hget hnx hbx hroom (fun h' tk' dx D => ?_)
  have sz : ((hp.push (kdv_tup rest)).push (excO C hp.objs.size)).objs.size = hp.objs.size + 1 + 1 := by rw [Heap.size_push, Heap.size_push]
  have dq := D.dbig
  have dq2 : hp.objs.size + 1 + 1 ≤ dx := by
    rw [← sz]
    exact dq
  exact ⟨rfl, hq h' tk' (hp.objs.size + 1) dx ⟨fun b o z => D.keep b o (big z) (k b o z), Nat.le_succ _, D.obj, Nat.le_trans (Nat.le_trans (Nat.le_succ _) (Nat.le_succ _)) dq2, D.dne, D.ns⟩⟩
end
end EX
end PySem

namespace DL
open PySem PySem.Spec L2
open PyProof.Rows hiding St
variable [HasL] [HasX] [HasH]
theorem relO_one {v : V} {v' : Value} (r : RelV v v') (f g : Str) : L2.RelO (List.lookup g [(f, v)]) (if g = f then some v' else none) := by
  by_cases h : g = f
  · subst h
    rw [if_pos rfl]
    have q : List.lookup g [(g, v)] = some v := by simp [List.lookup]
    rw [q]
    exact r
  · rw [if_neg h]
    have q : (g == f) = false := beq_eq_false_iff_ne.mpr h
    have q2 : List.lookup g [(f, v)] = none := by simp [List.lookup, q]
    rw [q2]
    trivial
section
variable {X : Cx} {x f : Str} {C fI cda cc : Addr}
/-- C(e): what is wanted of the error that is made -/
def tMkErr (C : Addr) (f : Str) (ta : TA) : St → Hp → XK → Prop := fun σ H Q => ta σ H fun vs H1 => ∃ v, vs = [v] ∧ ∀ d, H1 d = none → Q (.ref C) (some d) (upd H1 d (.xd [(f, v)]))
theorem pmk_err {a : Expr} {ta : TA} {p pos : Pos} {k : Nat} (T : PySem.EX.ErrT X.prog X.K x C fI cda cc f) (hf : PySem.EX.OkF f) (hr : Room k X.A) (hk : 1 ≤ k) (hm : X.mg x = some (.ref C)) (ha : PA X [a] ta) (hg : Gl X x) (hdb : (x == ("__debug__" : Str)) = false)
    (he : starEach (a :: []) X.env = (false, eval a X.env) :: starEach [] X.env) (hpl : (backTo pos (starEach [] X.env)).any (·.1) = false) :
    PMk X (.Call (.Name x p) [a] [] pos) (tMkErr C f ta) := by
  intro pins s σ H Q I h
  refine wpAny_Call_Name_kw (ld_glob I hg hm ?_ hdb)
  refine PySem.W.callWith_K (h₀ := X.base) I.ok.mod.kin T.kp (thn (ha.run pos pins s σ H _ I h) fun us s1 hh => ?_) he hpl
  obtain ⟨vs, H1, I1, r1, v, ev, q1⟩ := hh
  subst ev
  refine ⟨I1.kIn, ?_⟩
  cases r1 with
  | cons rv rn =>
    rename_i v' us'
    cases rn
    show wpAny _ _ (call (.ref C) [v']) _ _ _
    have hlim := I1.nolimit
    have I1' := I1
    obtain ⟨hp, g, dr, tk, os⟩ := s1
    refine wpAny_call (PySem.EX.err_made T hf (.inl ⟨rfl, rfl⟩) I1.mod I1.bk hlim (by have := hr.dp; omega) fun h' tk' e d M => ?_)
    show MkP X pins σ Q (.ref e) ⟨h', g, dr, tk', os⟩
    obtain ⟨t1, hoe⟩ := M.obj
    have hns := M.ns
    obtain ⟨G', g1, g2⟩ := restrict h' fun b => decide (b ≠ e)
    have gk : ∀ b, b ≠ e → G'.get? b = h'.get? b := fun b hb => g1 b (decide_eq_true hb)
    have ge : G'.get? e = none := g2 e (by simp)
    have old : ∀ b o, hp.get? b = some o → G'.get? b = some o := fun b o q => (gk b (Nat.ne_of_lt (Nat.lt_of_lt_of_le (Heap.lt_size q) M.new))).trans (M.keep b o q)
    have ob : ObjOk X.prog X.w (upd H1 d (.xd [(f, v)])) G' d (.xd [(f, v)]) :=
      ⟨_, hns.at (fun o q => (gk d M.dne).trans q), fun y => relO_one rv f y⟩
    have J : Inv X pins σ (upd H1 d (.xd [(f, v)])) ⟨G', g, dr, tk', os⟩ := I1.laid (t' := tk') old M.dbig ob
    refine ⟨e, _, _, ⟨G', g, dr, tk', os⟩, _, .ref C, some d, rfl, J, fun b o q => ?_, ge, hoe, ⟨rfl, rfl⟩, rfl, rfl, ?_, rfl, I1.bare, raises_own T.sB T.ty, q1 d (I1.hok.fresh M.dbig)⟩
    · by_cases hb : b = e
      · have q' : G'.get? b = some o := q
        rw [hb, ge] at q'
        cases q'
      · exact (gk b hb).symm.trans q
    · rw [upd_ne (Ne.symm M.dne)]
      exact I1.hok.fresh M.new
/-- an error class of the module: its name, its field -/
structure Err (P : Program) (K : PySem.W.Frag) (mg : Str → Option Value) (x f : Str) : Prop where
  ex : ∃ C fI cda cc, PySem.EX.ErrT P K x C fI cda cc f ∧ mg x = some (.ref C)
/-- raise X(e) -/
def sRaise (x f : Str) (m : SE) : SS := fun ρ μ => (m ρ μ).go ρ fun d μ1 => .exn x [(f, d)] ρ μ1
theorem psd_raise {W : WX} {a : Expr} {ma : SE} {p pos pos2 : Pos} {k : Nat} (T : Err X.prog X.K X.mg x f) (hf : PySem.EX.OkF f) (hc : X.calm = true) (hr : Room k X.A) (hk : 1 ≤ k) (tk : Takes X W) (ha : PD X W false a ma) (hg : Gl X x := by rfl) (hdb : (x == ("__debug__" : Str)) = false := by decide)
    (he : starEach (a :: []) X.env = (false, eval a X.env) :: starEach [] X.env := by rfl) (hpl : (backTo pos (starEach [] X.env)).any (·.1) = false := by rfl) :
    PSD X W (.Raise (some (.Call (.Name x p) [a] [] pos)) none pos2) (sRaise x f ma) := by
  obtain ⟨C, fI, cda, cc, T, hm⟩ := T.ex
  obtain ⟨t, h1, h2⟩ := ha
  refine ⟨_, ps_raise hc tk (pmk_err T hf hr hk hm (pa_cons h1 pa_nil he) hg hdb he hpl), fun B c H σ ρ μ hK fr D q => ?_⟩
  refine h2 c H σ ρ μ hK fr.ok _ (fr.go q fun d m v c' H' s' f' r p' => ?_)
  refine ⟨v, rfl, fun dx hd => ?_⟩
  have sm := same_upd (o := .xd [(f, v)]) hd
  have M' := f'.ok.m.same sm
  refine p' c' _ σ (.ref C) (some dx) (f'.step (Stp.same sm) M') ⟨⟨C, rfl, ?_⟩, .inr ⟨dx, f, v, d, rfl, rfl, upd_same, fresh_cs f'.ok.m hd, r.rep.step (Stp.same sm)⟩⟩
  rw [s'.K, hK]
  exact T.gC
end
end DL
/-! # DL, try .. except X as e: return .. -/
namespace DL
open PySem PySem.Spec L2
open PyProof.Rows hiding St
variable [HasL] [HasX] [HasH]

/-- does a clause that names c take an error of the class x -/
def catches (x c : Str) : Bool := x == c || c == "TwinError"
/-- the errors' classes: what an except clause asks of them -/
def Errs (K : PySem.W.Frag) (nm : List Str) : Prop := ∀ x ∈ nm, ∀ c ∈ ("TwinError" : Str) :: nm, ∀ X C, PySem.W.nsIn K mainGlobals x = some (some (.ref X)) → PySem.W.nsIn K mainGlobals c = some (some (.ref C)) → PySem.W.exmOne K (.ref X) (.ref C) = some (catches x c)
abbrev Cl := Str × (List (Str × D) → Env → Option D)
def catch_ (nm : List Str) (x : Str) (fs : List (Str × D)) (ρ : Env) (μ : Mu) : List Cl → SOut
  | [] => .exn x fs ρ μ
  | (c, g) :: r => if catches x c = true then (match g fs ρ with
    | some d => .rt d μ
    | none => .stuck) else catch_ nm x fs ρ μ r
def sTry (nm : List Str) (m : SS) (cl : List Cl) : SS := fun ρ μ => match m ρ μ with
  | .exn x fs ρ' μ' => if x ∈ nm then catch_ nm x fs ρ' μ' cl else .stuck
  | o => o

/-- in an except suite: a is the error (class cls, own dict dd), x and fs its data; i: its name's slot -/
structure Su where
  a : Addr
  cls : Value
  dd : Option Addr
  x : Str
  fs : List (Str × D)
  i : Option Nat
def Su.at (u : Su) (σ : St) : Prop := ∀ i, u.i = some i → σ[i]? = some (some (.ref u.a))
def PXD (X : Cx) (u : Su) (e : Expr) (g : Env → Option D) : Prop := ∃ t, PE X e t ∧ ∀ c H σ ρ μ, c.K = X.K → Ok c H σ ρ μ → ExR c H u.cls u.dd u.x u.fs → u.at σ → ∀ d, g ρ = some d → ∀ Q : VK, (∀ v c' H', Stp c c' H H' → MRel c' H' μ → Rep c' H' v d → Q v H') → t σ H Q
def PXA (X : Cx) (u : Su) (es : List Expr) (g : Env → Option (List D)) : Prop := ∃ t, PA X es t ∧ ∀ c H σ ρ μ, c.K = X.K → Ok c H σ ρ μ → ExR c H u.cls u.dd u.x u.fs → u.at σ → ∀ ds, g ρ = some ds → ∀ Q, (∀ vs c' H', Stp c c' H H' → MRel c' H' μ → Reps c' H' vs ds → Q vs H') → t σ H Q
theorem ExR.step {c c' : Ct} {H H' : Hp} {cls : Value} {dd : Option Addr} {x : Str} {fs : List (Str × D)} (s : Stp c c' H H') (r : ExR c H cls dd x fs) : ExR c' H' cls dd x fs := by
  refine ⟨by rw [s.K]; exact r.cls, ?_⟩
  rcases r.fs with z | ⟨d, f, v, e, z1, z2, z3, z4, z5⟩
  · exact .inl z
  · exact .inr ⟨d, f, v, e, z1, z2, s.keep _ _ z3 z4 (fun _ z => by cases z), s.notin z4 z3, z5.step s⟩
section
variable {X : Cx} {u : Su} {e : Expr} {es : List Expr} {g : Env → Option D} {gs : Env → Option (List D)} {pos : Pos}
def xC (d : D) : Env → Option D := fun _ => some d
theorem pxd_int {i j} : PXD X u (.Constant (.int i) j pos) (xC (.int i)) := ⟨_, pe_int, fun c H σ ρ μ _ k _ _ d e Q q => by cases e; exact q _ c H (Stp.refl c H) k.m (.int i)⟩
theorem pxd_str {i j} : PXD X u (.Constant (.str i) j pos) (xC (.str i)) := ⟨_, pe_str, fun c H σ ρ μ _ k _ _ d e Q q => by cases e; exact q _ c H (Stp.refl c H) k.m (.str i)⟩
theorem pxd_bl {i j} : PXD X u (.Constant (.bool i) j pos) (xC (.bl i)) := ⟨_, pe_bl, fun c H σ ρ μ _ k _ _ d e Q q => by cases e; exact q _ c H (Stp.refl c H) k.m (.bl i)⟩
theorem pxd_non {j} : PXD X u (.Constant .none j pos) (xC .non) := ⟨_, pe_non, fun c H σ ρ μ _ k _ _ d e Q q => by cases e; exact q _ c H (Stp.refl c H) k.m .non⟩
def xVal (i : Nat) : Env → Option D := fun ρ => match ρ[i]? with
  | some (some (.val d)) => some d
  | _ => none
theorem pxd_val (i : Nat) {x : Str} (hN : X.N[i]? = some x := by rfl) (hv : Vis X.env.scope x := by first | exact Or.inl rfl | exact Or.inr (Or.inl rfl) | exact Or.inr (Or.inr rfl)) (hd : (x == ("__debug__" : Str)) = false := by decide)
    (hcd : (x == ("__classdict__" : Str)) = false := by decide) : PXD X u (.Name x pos) (xVal i) := by
  refine ⟨_, pe_var hN hv hd hcd, fun c H σ ρ μ _ k _ _ d e Q q => ?_⟩
  unfold xVal at e
  split at e
  · rename_i z
    cases e
    obtain ⟨v, h1, h2⟩ := k.e.val i _ z
    exact ⟨v, h1, q v c H (Stp.refl c H) k.m h2⟩
  · cases e
def xNil : Env → Option (List D) := fun _ => some []
def xCons (g : Env → Option D) (gs : Env → Option (List D)) : Env → Option (List D) := fun ρ => match g ρ, gs ρ with
  | some d, some ds => some (d :: ds)
  | _, _ => none
theorem pxa_nil : PXA X u [] xNil := ⟨_, pa_nil, fun c H σ ρ μ _ k _ _ d e Q q => by cases e; exact q _ c H (Stp.refl c H) k.m .nil⟩
theorem pxa_cons (h1 : PXD X u e g) (h2 : PXA X u es gs) (hs : starEach (e :: es) X.env = (false, eval e X.env) :: starEach es X.env := by rfl) : PXA X u (e :: es) (xCons g gs) := by
  obtain ⟨t, a1, a2⟩ := h1
  obtain ⟨t', b1, b2⟩ := h2
  refine ⟨_, pa_cons a1 b1 hs, fun c H σ ρ μ hK k r ua ds e Q q => ?_⟩
  unfold xCons at e
  cases e1 : g ρ with
  | none => rw [e1] at e; cases e
  | some d =>
    cases e2 : gs ρ with
    | none => rw [e1, e2] at e; cases e
    | some ds' =>
      rw [e1, e2] at e
      cases e
      exact a2 c H σ ρ μ hK k r ua d e1 _ fun v c1 H1 s1 M1 r1 => b2 c1 H1 σ ρ μ (s1.K.trans hK) (k.step s1 M1) (r.step s1) ua ds' e2 _ fun vs c2 H2 s2 M2 r2 => q _ c2 H2 (s1.trans s2) M2 (.cons (r1.step s2) r2)
def xTup (gs : Env → Option (List D)) : Env → Option D := fun ρ => match gs ρ with
  | some ds => if line ds.length = true then some (.tup ds) else none
  | none => none
theorem pxd_tup {x1} (h : PXA X u es gs) : PXD X u (.Tuple es x1 pos) (xTup gs) := by
  obtain ⟨t, a1, a2⟩ := h
  refine ⟨_, pe_tup a1, fun c H σ ρ μ hK k r ua d e Q q => ?_⟩
  unfold xTup at e
  cases e1 : gs ρ with
  | none => rw [e1] at e; cases e
  | some ds =>
    rw [e1] at e
    have e' : (if line ds.length = true then some (D.tup ds) else none) = some d := e
    by_cases hl : line ds.length = true
    · rw [if_pos hl] at e'
      cases e'
      refine a2 c H σ ρ μ hK k r ua ds e1 _ fun vs c1 H1 s1 M1 r1 => ⟨by rw [r1.length]; exact line_ok hl, fun p hp => ?_⟩
      have sm := same_upd (o := .tup vs) hp
      exact q _ c1 _ (s1.trans (Stp.same sm)) (M1.same sm) (.tup (fresh_cs M1 hp) upd_same (r1.step (Stp.same sm)))
    · rw [if_neg hl] at e'
      cases e'
end

/-- e.f, e the error that the suite holds -/
def tByE (C : Addr) (f : Str) (a : Addr) (cls : Value) (d : Option Addr) (te : TE) : TE := fun σ H Q => te σ H fun x H1 => x = .ref a ∧ cls = .ref C ∧ ∃ (dd : Addr) (v : V), d = some dd ∧ H1 dd = some (.xd [(f, v)]) ∧ Q v H1
theorem pe_byE {X : Cx} {x f : Str} {C fI cda cc : Addr} {a : Addr} {oe : Obj} {cls : Value} {d : Option Addr} {pn : List (Addr × Obj)} {e : Expr} {te : TE} {pos : Pos} (T : PySem.EX.ErrT X.prog X.K x C fI cda cc f) (hz : Zc cls d oe) (hf : ∃ vs, oe.data = .fields vs) (he : PE (X.suite a ((a, oe) :: pn)) e te)
    (hb : attributeBase e f X.env (eval e X.env) = eval e X.env) : PE (X.suite a ((a, oe) :: pn)) (.Attribute e f pos) (tByE C f a cls d te) := by
  refine ⟨fun pins s σ H Q I h => ?_⟩
  refine attr_of hb (thn (he.run pins s σ H _ I h) fun u s1 hh => ?_)
  obtain ⟨y, H1, I1, rx, ex, ec, dd, v, ed, ea, q⟩ := hh
  subst ex
  obtain rfl : u = Value.ref a := rx
  subst ec
  subst ed
  obtain ⟨ha, _⟩ := I1.pin (a, oe) (List.mem_append_left _ List.mem_cons_self)
  obtain ⟨vs, hd⟩ := hf
  have hx : ObjOk X.prog X.w H1 s1.heap dd (.xd [(f, v)]) := I1.hok dd _ ea
  obtain ⟨mA, hns, hr⟩ := hx
  obtain ⟨od, ho, hl⟩ := lookIn_ns hns
  have l : List.lookup f [(f, v)] = some v := by simp [List.lookup]
  obtain ⟨u, hu, ru⟩ := RelO.some_of (v := v) (o := mA f) (by rw [← l]; exact hr f)
  have J : PySem.W.InstAt s1.heap a oe C (some od) := ⟨ha, hz.1, by unfold PySem.W.notCls; rw [hd] <;> rfl, by rw [hz.2]; exact ho⟩
  exact HandSPX.exc_get I1.kIn J T.ga T.gg T.sB (PySem.W.findObj_own T.hd T.no rfl (by rw [hl, hu])) (handed_of ru) ⟨v, H1, I1.tok _, ru, q⟩
def xFld (fs : List (Str × D)) (f : Str) : Env → Option D := fun _ => match fs with
  | [(g, d)] => if g = f then some d else none
  | _ => none
theorem pxd_fld {X : Cx} {u : Su} {c f n : Str} {i : Nat} {oe : Obj} {pn : List (Addr × Obj)} {p pos : Pos} (T : Err X.prog X.K X.mg c f) (hx : u.x = c) (hi : u.i = some i) (hz : Zc u.cls u.dd oe) (hf : ∃ vs, oe.data = .fields vs)
    (hN : X.N[i]? = some n) (hv : Vis X.env.scope n) (hd : (n == ("__debug__" : Str)) = false) (hcd : (n == ("__classdict__" : Str)) = false) (hb : attributeBase (.Name n p) f X.env (eval (.Name n p) X.env) = eval (.Name n p) X.env) :
    PXD (X.suite u.a ((u.a, oe) :: pn)) u (.Attribute (.Name n p) f pos) (xFld u.fs f) := by
  obtain ⟨C, fI, cda, cc, T, hm⟩ := T.ex
  refine ⟨_, pe_byE T hz hf (pe_var (X := X.suite u.a ((u.a, oe) :: pn)) (i := i) hN hv hd hcd) hb, fun c' H σ ρ μ hK k r ua d e Q q => ?_⟩
  refine ⟨_, ua i hi, rfl, ?_⟩
  obtain ⟨C', ec, en⟩ := r.cls
  have hK' : c'.K = X.K := hK
  rw [hK', hx, T.gC] at en
  cases en
  refine ⟨ec, ?_⟩
  unfold xFld at e
  rcases r.fs with ⟨z, _⟩ | ⟨d', g, v, e', z1, z2, z3, z4, z5⟩
  · rw [z] at e
    cases e
  · rw [z2] at e
    have e2 : (if g = f then some e' else none) = some d := e
    by_cases hg : g = f
    · rw [if_pos hg] at e2
      cases e2
      subst hg
      exact ⟨d', v, z1, z3, q v c' H (Stp.refl _ _) k.m z5⟩
    · rw [if_neg hg] at e2
      cases e2

/-- a clause: except c: return e | except c as n: return e -/
inductive HdsD (X : Cx) : List ExceptHandler → List Cl → Prop
  | nil : HdsD X [] []
  | plain {c : Str} {C : Addr} {e : Expr} {g : List (Str × D) → Env → Option D} {np rp pos : Pos} {hds : List ExceptHandler} {l : List Cl} (hg : Gl X c) (hd : (c == ("__debug__" : Str)) = false) (hm : X.mg c = some (.ref C)) (hC : PySem.W.nsIn X.K mainGlobals c = some (some (.ref C)))
      (hs : ∀ (u : Su) (oe : Obj) (pn : List (Addr × Obj)), u.i = none → Zc u.cls u.dd oe → (∃ vs, oe.data = .fields vs) → PXD (X.suite u.a ((u.a, oe) :: pn)) u e (g u.fs)) (r : HdsD X hds l) :
      HdsD X (.ExceptHandler (some (.Name c np)) none [.Return (some e) rp] pos :: hds) ((c, g) :: l)
  | as_ {c n : Str} {C : Addr} {i : Nat} {e : Expr} {g : List (Str × D) → Env → Option D} {np rp pos : Pos} {hds : List ExceptHandler} {l : List Cl} (hg : Gl X c) (hd : (c == ("__debug__" : Str)) = false) (hm : X.mg c = some (.ref C)) (hC : PySem.W.nsIn X.K mainGlobals c = some (some (.ref C)))
      (hi : X.N[i]? = some n) (hln : X.env.kindOf n = some .local)
      (hs : ∀ (u : Su) (oe : Obj) (pn : List (Addr × Obj)), u.i = some i → catches u.x c = true → Zc u.cls u.dd oe → (∃ vs, oe.data = .fields vs) → PXD (X.suite u.a ((u.a, oe) :: pn)) u e (fun ρ => g u.fs ρ)) (hgn : ∀ fs ρ d, g fs ρ = some d → g fs (ρ.set i none) = some d) (r : HdsD X hds l) :
      HdsD X (.ExceptHandler (some (.Name c np)) (some n) [.Return (some e) rp] pos :: hds) ((c, g) :: l)
theorem Ok.setn {c : Ct} {H : Hp} {σ : St} {ρ : Env} {μ : Mu} {i : Nat} {v : V} (k : Ok c H σ ρ μ) : Ok c H (σ.set i (some v)) (ρ.set i none) μ := by
  refine ⟨⟨fun j e h => ?_, fun j ds h => ?_, fun j j' ds es a ne h h' q => ?_⟩, k.m, by simp [k.len]⟩
  · rcases set_get h with ⟨rfl, hl, q⟩ | ⟨ne, q⟩
    · cases q
    · rw [set_other ne]
      exact k.e.val j e q
  · rcases set_get h with ⟨rfl, hl, q⟩ | ⟨ne, q⟩
    · cases q
    · rw [set_other ne]
      exact k.e.own j ds q
  · rcases set_get h with ⟨rfl, hl, z⟩ | ⟨ne1, z⟩
    · cases z
    · rcases set_get h' with ⟨rfl, hl', z'⟩ | ⟨ne2, z'⟩
      · cases z'
      · rw [set_other ne1] at q
        rw [set_other ne2]
        exact k.e.apart j j' ds es a ne z z' q
theorem FrR.fin2 {B : Bs} {c c' : Ct} {H H' : Hp} {σ : St} {ρ : Env} {μ μ' : Mu} {v : V} {d : D} (f : FrR B c H σ ρ μ) (s : Stp c c' H H') (M : MRel c' H' μ') (r : Rep c' H' v d) : Fin B.c B.H H' μ' v d := (f.step s M).fin r

section
variable {X : Cx} {W : WX} {m : SS} {body : List Stmt} {h₀ : ExceptHandler} {hds : List ExceptHandler} {l : List Cl} {nm : List Str} {pos : Pos}
theorem psd_try (hs : X.stack = X.env :: X.outer) (hf : X.env.frame = some X.env.locals) (hN : X.N.Nodup) (tk : Takes X W) (he : Errs X.K nm) (hl : ∀ p ∈ l, p.1 ∈ ("TwinError" : Str) :: nm)
    (hb : ∀ (W' : WX) (pn : List (Addr × Obj)) (xe : Value → Shared → Prop), Takes (X.tr pn xe) W' → PassesOwn (model X.prog X.w) X.A X.env xe → PSDs (X.tr pn xe) W' body m)
    (hh : HdsD X (h₀ :: hds) l) : PSD X W (.Try body (h₀ :: hds) [] [] pos) (sTry nm m l) := by
  refine ⟨fun D σ H => ∃ B c ρ μ, c.K = X.K ∧ FrR B c H σ ρ μ ∧ PostS B W (sTry nm m l ρ μ) D, ⟨fun pins s σ H D I h => ?_⟩, fun B c H σ ρ μ hK f D p => ⟨B, c, ρ, μ, hK, f, p⟩⟩
  obtain ⟨Bs', c0, ρ0, μ0, hK0, f0, p0⟩ := h
  have ok := I.ok
  have hfr : X.A.frames = some (X.env :: X.outer) := by rw [ok.frames, hs]
  refine wpAny_Try_except ?_
  have wish : ∃ W' : WX, W' = fun cls dd σ' H' => ∃ c' ρ' μ' x fs, FrR Bs' c' H' σ' ρ' μ' ∧ ExR c' H' cls dd x fs ∧ x ∈ nm ∧ PostS Bs' W (catch_ nm x fs ρ' μ' l) D := ⟨_, rfl⟩
  obtain ⟨W', eW⟩ := wish
  have tkk : Takes (X.tr (X.pn ++ pins) (fun e s₁ => wpAny (model X.prog X.w) X.A (noteFrame e X.env) (fun _ s₂ => wpAny (model X.prog X.w) X.A (setFlight e none) (fun _ s₃ =>
      wpAny (model X.prog X.w) X.A (handleBy e X.env (h₀ :: hds)) (SP X pins D) X.xe s₃) X.xe s₂) X.xe s₁)) W' := by
    intro u s' xx
    obtain ⟨a, B, sI, pins', σ', H', cls, d, rfl, J', nb, up, sky, na, os, ag, w⟩ := xx
    have J : Inv X pins σ' H' sI := J'.ofTry ok
    have sky' : Sky B (X.env :: X.outer) a (Zc cls d) X.env.locals s'.heap := by rw [← hs]; exact sky
    show wpAny (model X.prog X.w) X.A (noteFrame (.ref a) X.env) _ _ _
    refine Sky.land Zc.steady hfr hf sky' fun h3 fl3 up3 => ?_
    have J3 : Inv X pins σ' H' { s' with heap := h3 } := J.landed nb fl3.1 (up.trans up3) os ag
    obtain ⟨oe3, vs3, he3, hz3, hd3⟩ := fl3.there
    have nfr : a ∉ frs (X.env :: X.outer) := fun hm => by
      obtain ⟨_, o', e', hnf⟩ := fl3.2.2.1.mem hm
      rw [he3] at e'
      cases e'
      exact hnf _ hd3
    have nL : a ≠ X.env.locals := fun z => nfr (List.mem_filterMap.mpr ⟨X.env, List.mem_cons_self, by rw [hf, z]⟩)
    have nF : a ∉ X.fs := fun hm => by
      obtain ⟨e, he, q⟩ := List.mem_filterMap.mp hm
      exact nfr (List.mem_filterMap.mpr ⟨e, List.mem_cons_of_mem _ he, q⟩)
    have S3 := J3.suite he3 hd3 na nL nF
    rw [eW] at w
    obtain ⟨c', ρ', μ', x, fs, fr, er, hxn, pc⟩ := w
    have hK' : c'.K = X.K := fr.K.trans (f0.K.symm.trans hK0)
    obtain ⟨Cx', ecls, enx⟩ := er.cls
    rw [hK'] at enx
    -- the clauses, one by one
    have finish : ∀ {cc : Ct} {v : V} {dv : DL.D} {H6 : Hp}, PostS Bs' W (.rt dv μ') D → Stp c' cc H' H6 → MRel cc H6 μ' → Rep cc H6 v dv → D.rt v H6 := fun {cc v dv H6} p s M r => p H6 v (fr.fin2 s M r)
    have go : ∀ {hds' : List ExceptHandler} {l' : List Cl}, HdsD X hds' l' → (∀ p ∈ l', p.1 ∈ ("TwinError" : Str) :: nm) → PostS Bs' W (catch_ nm x fs ρ' μ' l') D →
        wpAny (model X.prog X.w) X.A (handleBy (.ref a) X.env hds') (SP X pins D) X.xe { s' with heap := h3 } := by
      intro hds' l' hk
      induction hk with
      | nil =>
        intro _ w
        refine wpAny_handleBy_nil ?_
        obtain ⟨k1, k2, k3, oe, vs, T, oT, ts', he', hz, hd, h1, hr⟩ := id fl3
        unfold PySem.passOn
        refine wpAny_bind (wpAny_field he' hd h1 ?_)
        rw [if_neg (show ¬ ((Value.ref T == Value.none) = true) from by simp)]
        have fin : wpAny (model X.prog X.w) X.A (setFlight (.ref a) X.env.frame) (fun _ s4 => wpAny (model X.prog X.w) X.A (throw (.ref a) : Sem Flow) (SP X pins D) X.xe s4) X.xe { s' with heap := h3 } := by
          rw [hf]
          refine HandSPX.setFlight_upZ fl3 fun h4 hh4 up4 => wpAny_throw (tk _ _ ?_)
          exact ⟨a, B, sI, pins, σ', H', cls, d, rfl, J, nb, (up.trans up3).trans up4, .inr (.inr (by rw [hs]; exact hh4)), na, os, ag, w c' H' σ' cls d fr er⟩
        first
          | exact wpAny_bind (wpAny_pure (wpAny_bind fin))
          | exact wpAny_bind fin
      | @plain c C e g np rp pos' hds2 l2 hg hdb hm hC hsu r ih =>
        intro hl' w
        have hb1 : PySem.W.exmOne X.K cls (.ref C) = some (catches x c) := by
          rw [ecls]
          exact he x hxn c (hl' _ List.mem_cons_self) _ _ enx hC
        refine wpAny_handleBy_cons (codeAny_handlers_test ?_) (by intro q; cases q)
        have LT : PySem.W.Looks (model X.prog X.w) h3 (typeOf (.ref a)) cls := fun A Q E s k q => wpAny_typeOf_ref (k _ _ he3) (by rw [hz3.1]; exact q)
        have LM := PySem.W.exm_one (M := model X.prog X.w) (J3.kIn) LT hb1
        refine (ld_glob (X := X.suite a ((a, oe3) :: (X.pn ++ pins))) S3 hg hm (LM.here ?_) hdb)
        have w2 : PostS Bs' W (if catches x c = true then (match g fs ρ' with | some d => .rt d μ' | none => .stuck) else catch_ nm x fs ρ' μ' l2) D := w
        cases hcx : catches x c with
        | true =>
          rw [hcx, if_pos rfl] at w2
          refine codeAny_handlers_suite ?_
          refine HandSPX.lands_againZ fl3 fun h4 fl4 up4 => ?_
          have J4 : Inv X pins σ' H' { s' with heap := h4 } := J.landed nb fl4.1 ((up.trans up3).trans up4) os ag
          obtain ⟨oe4, vs4, he4, hz4, hd4⟩ := fl4.there
          have S4 := J4.suite he4 hd4 na nL nF
          cases eg : g fs ρ' with
          | none => rw [eg] at w2; exact w2.elim
          | some dv =>
            rw [eg] at w2
            obtain ⟨t, ht1, ht2⟩ := hsu ⟨a, cls, d, x, fs, none⟩ oe4 (X.pn ++ pins) rfl hz4 ⟨_, hd4⟩
            refine wpAny_mono ((pss_one (ps_ret ht1)).run [] _ _ H' D S4 (ht2 c' H' σ' ρ' μ' hK' fr.ok er (fun i z => nomatch z) dv eg _ fun v c6 H6 s6 M6 r6 => finish w2 s6 M6 r6)) (fun f s6 hsp => ?_) (fun _ _ z => False.elim z)
            cases f with
            | next =>
              obtain ⟨σ6, H6, S6, q6⟩ := hsp
              exact ⟨_, _, S6.unsuite ok, q6⟩
            | brk =>
              obtain ⟨σ6, H6, S6, q6⟩ := hsp
              exact ⟨_, _, S6.unsuite ok, q6⟩
            | cont =>
              obtain ⟨σ6, H6, S6, q6⟩ := hsp
              exact ⟨_, _, S6.unsuite ok, q6⟩
            | ret u =>
              obtain ⟨v6, σ6, H6, S6, r6, q6⟩ := hsp
              exact ⟨_, _, _, S6.unsuite ok, r6, q6⟩
        | false =>
          rw [hcx, if_neg Bool.false_ne_true] at w2
          show wpAny _ X.A (handleBy (.ref a) X.env hds2) _ _ _
          exact ih (fun p hp => hl' p (List.mem_cons_of_mem _ hp)) w2
      | @as_ c n C i e g np rp pos' hds2 l2 hg hdb hm hC hi hln hsu hgn r ih =>
        intro hl' w
        have hloc : Loc X.env.scope n := .inl hln
        have hb1 : PySem.W.exmOne X.K cls (.ref C) = some (catches x c) := by
          rw [ecls]
          exact he x hxn c (hl' _ List.mem_cons_self) _ _ enx hC
        refine wpAny_handleBy_cons (codeAny_handlers_test ?_) (by intro q; cases q)
        have LT : PySem.W.Looks (model X.prog X.w) h3 (typeOf (.ref a)) cls := fun A Q E s k q => wpAny_typeOf_ref (k _ _ he3) (by rw [hz3.1]; exact q)
        have LM := PySem.W.exm_one (M := model X.prog X.w) (J3.kIn) LT hb1
        refine (ld_glob (X := X.suite a ((a, oe3) :: (X.pn ++ pins))) S3 hg hm (LM.here ?_) hdb)
        have w2 : PostS Bs' W (if catches x c = true then (match g fs ρ' with | some d => .rt d μ' | none => .stuck) else catch_ nm x fs ρ' μ' l2) D := w
        cases hcx : catches x c with
        | true =>
          rw [hcx, if_pos rfl] at w2
          refine codeAny_handlers_suite_as ?_
          refine HandSPX.lands_againZ fl3 fun h4 fl4 up4 => ?_
          have J4 : Inv X pins σ' H' { s' with heap := h4 } := J.landed nb fl4.1 ((up.trans up3).trans up4) os ag
          obtain ⟨oe4, vs4, he4, hz4, hd4⟩ := fl4.there
          have S4 := J4.suite he4 hd4 na nL nF
          refine store_ok (X := X.suite a ((a, oe4) :: (X.pn ++ pins))) (v := .ref a) S4 hN hi hloc rfl (fun s5 S5 => ?_) (.inr hln)
          cases eg : g fs ρ' with
          | none => rw [eg] at w2; exact w2.elim
          | some dv =>
            rw [eg] at w2
            obtain ⟨t, ht1, ht2⟩ := hsu ⟨a, cls, d, x, fs, some i⟩ oe4 (X.pn ++ pins) rfl hcx hz4 ⟨_, hd4⟩
            have hlen : i < σ'.length := by rw [J.len]; exact (List.getElem?_eq_some_iff.mp hi).1
            refine wpAny_mono ((pss_one (ps_ret ht1)).run [] s5 _ H' { nx := fun σ' H' => D.nx (σ'.set i none) H', rt := D.rt, bk := fun σ' H' => D.bk (σ'.set i none) H', ct := fun σ' H' => D.ct (σ'.set i none) H' } S5
              (ht2 c' H' (σ'.set i (some (.ref a))) (ρ'.set i none) μ' hK' fr.ok.setn er (fun j z => by cases z; exact set_same hlen) dv (hgn fs ρ' dv eg) _ fun v c6 H6 s6 M6 r6 => finish w2 s6 M6 r6)) (fun f s6 hsp => ?_) (fun _ _ z => False.elim z)
            have end_ : ∀ {σ6 : St} {H6 : Hp} {Q : Shared → Prop}, Inv (X.suite a ((a, oe4) :: (X.pn ++ pins))) [] σ6 H6 s6 → (∀ s7, Inv X pins (σ6.set i none) H6 s7 → Q s7) →
                wpAny (model X.prog X.w) X.A (do bindName X.env n .none; unbindBehindTheSuite X.env n pos') (fun _ s7 => Q s7) X.xe s6 := fun {σ6 H6 Q} S6 hq => gone_ok (S6.unsuite ok) hN hi hln hq
            cases f with
            | next =>
              obtain ⟨σ6, H6, S6, q6⟩ := hsp
              exact end_ S6 fun s7 J7 => ⟨_, _, J7, q6⟩
            | brk =>
              obtain ⟨σ6, H6, S6, q6⟩ := hsp
              exact end_ S6 fun s7 J7 => ⟨_, _, J7, q6⟩
            | cont =>
              obtain ⟨σ6, H6, S6, q6⟩ := hsp
              exact end_ S6 fun s7 J7 => ⟨_, _, J7, q6⟩
            | ret u =>
              obtain ⟨v6, σ6, H6, S6, r6, q6⟩ := hsp
              exact end_ S6 fun s7 J7 => ⟨_, _, _, J7, r6, q6⟩
        | false =>
          rw [hcx, if_neg Bool.false_ne_true] at w2
          show wpAny _ X.A (handleBy (.ref a) X.env hds2) _ _ _
          exact ih (fun p hp => hl' p (List.mem_cons_of_mem _ hp)) w2
    exact go hh hl pc
  obtain ⟨tb, hb1, hb2⟩ := hb W' _ _ tkk PassesOwn.looking
  refine wpAny_mono (hb1.run [] s σ H D (I.toTry _) (hb2 Bs' c0 H σ ρ0 μ0 hK0 f0 D ?_)) (fun f s1 hsp => ?_) (fun e s1 he => he)
  · unfold sTry at p0
    cases eo : m ρ0 μ0 with
    | exn x fs ρ' μ' =>
      rw [eo] at p0
      have p1 : PostS Bs' W (if x ∈ nm then catch_ nm x fs ρ' μ' l else .stuck) D := p0
      by_cases hx : x ∈ nm
      · rw [if_pos hx] at p1
        rw [eW]
        exact fun c' H' σ' cls dd f' r' => ⟨c', ρ', μ', x, fs, f', r', hx, p1⟩
      · rw [if_neg hx] at p1
        exact p1.elim
    | nx ρ' μ' => rw [eo] at p0; exact p0
    | rt d μ' => rw [eo] at p0; exact p0
    | bk ρ' μ' => rw [eo] at p0; exact p0
    | ct ρ' μ' => rw [eo] at p0; exact p0
    | stuck => rw [eo] at p0; exact p0
  · cases f with
    | next =>
      obtain ⟨σ', H', J', q⟩ := hsp
      exact wpAny_execs_nil ⟨σ', H', J'.ofTry ok, q⟩
    | brk =>
      obtain ⟨σ', H', J', q⟩ := hsp
      exact ⟨σ', H', J'.ofTry ok, q⟩
    | cont =>
      obtain ⟨σ', H', J', q⟩ := hsp
      exact ⟨σ', H', J'.ofTry ok, q⟩
    | ret u =>
      obtain ⟨v, σ', H', J', r, q⟩ := hsp
      exact ⟨v, σ', H', J'.ofTry ok, r, q⟩
end
end DL
/-! # Dr: repr of data -/
namespace DL
open PySem PySem.Spec L2
open PyProof.Rows hiding St
variable [HasL] [HasX] [HasH]

mutual
/-- data as repr reads them -/
def D.pd : D → PyData
  | .non => .none
  | .bl b => .bool b
  | .int i => .int i
  | .str x => .str x
  | .tup l => .tuple (pdAll l)
  | .lst l => .list (pdAll l)
  | _ => .none
def pdAll : List D → List PyData
  | [] => []
  | d :: l => d.pd :: pdAll l
end
mutual
/-- no number is too long for a text, nothing stands in it that has an address to show -/
def D.plain : D → Bool
  | .non => true
  | .bl _ => true
  | .int i => decide (i.natAbs.log2 < 1920)
  | .str _ => true
  | .tup l => plainAll l
  | .lst l => plainAll l
  | _ => false
def plainAll : List D → Bool
  | [] => true
  | d :: l => d.plain && plainAll l
end
mutual
theorem pd_depth_ok : ∀ (d : D), d.plain = true → d.pd.showable = true ∧ d.pd.hasDict = false
  | .non, _ => ⟨rfl, rfl⟩
  | .bl _, _ => ⟨rfl, rfl⟩
  | .int i, h => ⟨h, rfl⟩
  | .str _, _ => ⟨rfl, rfl⟩
  | .tup l, h => by
    obtain ⟨h1, h2⟩ := pdAll_ok l h
    exact ⟨by simpa only [D.pd, PyData.showable] using h1, by simpa only [D.pd, PyData.hasDict] using h2⟩
  | .lst l, h => by
    obtain ⟨h1, h2⟩ := pdAll_ok l h
    exact ⟨by simpa only [D.pd, PyData.showable] using h1, by simpa only [D.pd, PyData.hasDict] using h2⟩
  | .scr _, h => by cases h
  | .ty _, h => by cases h
  | .cell _, h => by cases h
  | .fn _, h => by cases h
  | .lam _ _, h => by cases h
  | .dct _ _, h => by cases h
theorem pdAll_ok : ∀ (l : List D), plainAll l = true → PyData.showableAll (pdAll l) = true ∧ PyData.hasDictAll (pdAll l) = false
  | [], _ => ⟨rfl, rfl⟩
  | d :: l, h => by
    have h' : (d.plain && plainAll l) = true := h
    rw [Bool.and_eq_true] at h'
    obtain ⟨a1, a2⟩ := pd_depth_ok d h'.1
    obtain ⟨b1, b2⟩ := pdAll_ok l h'.2
    exact ⟨by simp only [pdAll, PyData.showableAll, a1, b1, Bool.and_self], by simp only [pdAll, PyData.hasDictAll, a2, b2, Bool.or_self]⟩
end
section
variable {P : Program} {w : World} {c : Ct} {H : Hp} {h : Heap}
mutual
theorem reads_of (hok : HOk P w H h) : ∀ {v : V} {d : D} {u : Value}, Rep c H v d → RelV v u → d.plain = true → ∃ as, Reads h u d.pd as
  | _, _, _, .non, r, _ => by cases r; exact ⟨_, .none⟩
  | _, _, _, .bl b, r, _ => by cases r; exact ⟨_, .bool b⟩
  | _, _, _, .int i, r, _ => by obtain ⟨t, rfl⟩ := r; exact ⟨_, .int i t⟩
  | _, _, _, .str x, r, _ => by obtain ⟨t, rfl⟩ := r; exact ⟨_, .str x t⟩
  | _, _, _, .tup (a := a) h1 h2 h3, r, p => by
    cases r
    obtain ⟨_, its, rv, o, e1, e2, n, e3⟩ := hok a _ h2
    obtain ⟨as, q⟩ := reads_all hok h3 rv p
    exact ⟨_, .tuple e1 e2 e3 q⟩
  | _, _, _, .lst (a := a) h1 h0 h2 h3, r, p => by
    cases r
    obtain ⟨_, its, n, rv, e1⟩ := hok a _ h2
    obtain ⟨as, q⟩ := reads_all hok h3 rv p
    exact ⟨_, .list e1 rfl rfl q⟩
  | _, _, _, .scr _ _, _, p => by cases p
  | _, _, _, .scrK _, _, p => by cases p
  | _, _, _, .cell _, _, p => by cases p
  | _, _, _, .dK _ _ _ _ _, _, p => by cases p
  | _, _, _, .dT _ _ _ _ _, _, p => by cases p
  | _, _, _, .ty _, _, p => by cases p
  | _, _, _, .fn _ _, _, p => by cases p
  | _, _, _, .lam _ _ _ _, _, p => by cases p
theorem reads_all (hok : HOk P w H h) : ∀ {vs : List V} {ds : List D} {us : List Value}, Reps c H vs ds → Vals vs us → plainAll ds = true → ∃ as, ReadsAll h us (pdAll ds) as
  | _, _, _, .nil, .nil, _ => ⟨_, .nil⟩
  | _, _, _, .cons (d := d) (ds := ds) q t, .cons r rs, p => by
    have p' : (d.plain && plainAll ds) = true := p
    rw [Bool.and_eq_true] at p'
    obtain ⟨a, h1⟩ := reads_of hok q r p'.1
    obtain ⟨b, h2⟩ := reads_all hok t rs p'.2
    exact ⟨_, .cons h1 h2⟩
end
end
theorem reads_F {P : Program} {w : World} {c : Ct} {H : Hp} {h : Heap} (hok : HOk P w H h) {b : Bool} {v : V} {d : D} {u : Value} (q : RepF b c H v d) (r : RelV v u) (p : d.plain = true) : ∃ as, Reads h u d.pd as := by
  rcases q with q | ⟨_, ⟨a, vs, ds, rfl, rfl, _, _, h4, h5⟩ | ⟨a, ks, vs, rfl, rfl, _⟩⟩
  · exact reads_of hok q r p
  · cases r
    obtain ⟨_, its, n, rv, e1⟩ := hok a _ h4
    obtain ⟨as, q⟩ := reads_all hok h5 rv p
    exact ⟨_, .list e1 rfl rfl q⟩
  · cases p

/-- what a repr may show -/
def D.fit (d : D) : Bool := d.plain && decide (d.pd.depth ≤ 100) && decide (d.pd.shown.length ≤ sizeLine)
def fRepr : List D → Mu → Out D
  | [d], μ => if d.fit then .ok (.str d.pd.shown) μ else .stuck
  | _, _ => .stuck
def rRepr (xs : List V) (H : Hp) (Q : VK) : Prop := ∃ (c : Ct) (v : V) (d : D), xs = [v] ∧ RepF true c H v d ∧ d.fit = true ∧ Q (.str d.pd.shown) H
theorem call_repr {X : Cx} (hg : X.A.guards = some []) (hu : X.A.units + 200 < cLine) : CallR X (.builtin "repr") rRepr := by
  intro pins s σ H xs us Q I r h
  obtain ⟨c, v, d, rfl, rep, fit, q⟩ := h
  obtain ⟨u, rfl, rv⟩ := vals1 r
  unfold D.fit at fit
  rw [Bool.and_eq_true, Bool.and_eq_true, decide_eq_true_eq, decide_eq_true_eq] at fit
  obtain ⟨⟨f1, f2⟩, f3⟩ := fit
  obtain ⟨ok1, ok2⟩ := pd_depth_ok d f1
  obtain ⟨as, rd⟩ := reads_F I.hok rep rv f1
  have fin : ∀ h' tk u', (∀ b o, s.heap.get? b = some o → h'.get? b = some o) → EP X pins σ Q (.str d.pd.shown u') { s with heap := h', toks := tk } := fun h' tk u' k => ⟨.str _, H, I.kept k, ⟨_, rfl⟩, q⟩
  have tok : ∀ tk u', EP X pins σ Q (.str d.pd.shown u') { s with toks := tk } := fun tk u' => ⟨.str _, H, I.tok _, ⟨_, rfl⟩, q⟩
  cases u with
  | ref a =>
    exact PySem.repr_of_reads' rd ok1 (PyData.noDict_hsm ok2) hg (by omega) (fun _ _ e => e) (fun h' u' tk k => fin h' tk u' k) f3
  | none => cases hd : d.pd <;> rw [hd] at rd <;> cases rd; rw [hd] at fin tok; exact PySem.P.repr_of_none (tok _ _)
  | bool b => cases hd : d.pd <;> rw [hd] at rd <;> cases rd; rw [hd] at fin tok; exact PySem.P.repr_of_bool (tok _ _)
  | int i t => cases hd : d.pd <;> rw [hd] at rd ok1 <;> cases rd; rw [hd] at fin tok; exact PySem.P.repr_of_int (by simpa [PyData.showable] using ok1) (tok _ _)
  | str x t => cases hd : d.pd <;> rw [hd] at rd f3 <;> cases rd; rw [hd] at fin tok; exact PySem.P.repr_of_str (tok _ _) f3
  | _ => cases hd : d.pd <;> rw [hd] at rd <;> cases rd
theorem rel_repr {K : PySem.W.Frag} {W : WX} : RelL K W true rRepr fRepr := by
  intro c H σ μ vs ds hK M r Q p
  cases r with
  | nil => exact p.elim
  | cons r t =>
    cases t with
    | cons _ _ => exact p.elim
    | nil =>
      rename_i v d
      have p' : Post false c σ H W (if d.fit then .ok (.str d.pd.shown) μ else .stuck) Q := p
      by_cases h : d.fit = true
      · rw [if_pos h] at p'
        exact ⟨c, v, d, rfl, r, h, p' _ c H (Stp.refl c H) M (Rep.str _).f⟩
      · rw [if_neg h] at p'
        exact p'.elim
theorem pd_repr {X : Cx} {W : WX} {b : Bool} {j : Nat} {e : Expr} {mr : SA} {p pos : Pos} (rm : Rm j X.A) (hm : X.mg "repr" = none) (ha : PDA X W true [e] mr) (hgl : Gl X "repr" := by rfl)
    (he : starEach [e] X.env = (false, eval e X.env) :: starEach [] X.env := by rfl) : PD X W b (.Call (.Name "repr" p) [e] [] pos) (mApp fRepr mr) :=
  pd_callB (call_repr rm.g (by have := rm.r.un; omega)) rel_repr hm rfl ha hgl (by decide) (by decide) he
end DL
/-! # De: an own error class without a field; the field of an error that is made by keyword; lists that are changed by others -/
namespace PySem
namespace EX
open PySem.W PySem.Calls PyProof.Rows PySem.HandSPX
abbrev iA0 (p1 : Pos) : Arguments := { posonlyargs := [], args := [{ arg := "self", annotation := none, pos := p1 }], vararg := none, kwonlyargs := [], kw_defaults := [], kwarg := none, defaults := [] }
abbrev iS0 : Scope := { kind := .function, names := [(PySem.Str.ofString "self", .local), (PySem.Str.ofString "__class__", .free), (PySem.Str.ofString "super", .globalImplicit)], isGenerator := false, isCoroutine := false, more := [] }
abbrev iB0 (tx : Str) (j : Nat) (p0 p1 p2 p3 p4 p5 : Pos) : List Stmt := [.Expr (.Call (.Attribute (.Call (.Name "super" p0) [] [] p1) "__init__" p2) [.Constant (.str tx) j p3] [] p4) p5]
structure ErrT0 (P : Program) (K : Frag) (x : Str) (C fI cda cc : Addr) : Prop where
  gC : nsIn K mainGlobals x = some (some (.ref C))
  q : excInitIn K C exTail "Exception.__new__" = true
  iC : findIn K (.ref C) "__init__" = some (some (.ref fI))
  isF : isFn K (.ref fI) = true
  kp : keepIn K (.ref C) = true
  sB : subIn K (.ref C) (.type "BaseException") = some true
  sE : subIn K (.ref C) (.type "Exception") = some true
  ty : typeIn K (.ref C) = some (.type "type")
  tp : nsIn K cStatics "thirdparty.any" = some none
  su : ks_superIn K C C "__init__" = some (some (.builtin "Exception.__init__"))
  mr : mroIn K C (.ref C) = some true
  isC : (clsIn K C).isSome = true
  sup : nsIn K mainGlobals "super" = some none
  fn : ∃ oc od kV doc pm an ct osl qual p1 tx j q0 q1 q2 q3 q4 q5, K.lookup fI = some ⟨oc, od, .func (fnX "__init__" qual (iA0 p1) (iB0 tx j q0 q1 q2 q3 q4 q5) iS0 [("__class__", cc)] .none kV doc pm an (.ref cda) ct), osl⟩ ∧ codeIn K (.ref cda) qual = true ∧ (q2.endLine == q4.line) = true
  code : ∃ ccl cdd vs ccs file tf, K.lookup cda = some ⟨ccl, cdd, .fields vs, ccs⟩ ∧ vs[2]? = some (.str file tf) ∧ ((P.main.file : Str) == file) = true
  cell : ∃ cl cld csl, K.lookup cc = some ⟨cl, cld, .cell (some (.ref C)), csl⟩
  top : (P.main.scope.names.lookup ("super" : Str)).isSome = false
abbrev ksEnv0 (q : Str) (L a : Addr) (cd : Value) (cc : Addr) := ksEnv q iS0 L a cd cc
section
variable {prog : Program} {w : World} {A : Around} {E : Value → Shared → Prop} {R : Result → Shared → Prop} {s : Shared} {K : Frag} {mg : Str → Option Value} {base : Heap} {x : Str} {C fI cda cc : Addr}
theorem sup_init0 (T : ErrT0 prog K x C fI cda cc) {e t0 : Addr} (M : L2.Mod K mg base) (bk : ∀ b o, base.get? b = some o → s.heap.get? b = some o) (X : K.In s.heap) (hlim : s.heap.NoLimit) (he : s.heap.get? e = some (excO C t0)) (hne : K.lookup e = none)
    (hroom : A.depth < recursionLimit) (hq : ∀ h' tk, (∀ b o, b ≠ e → s.heap.get? b = some o → h'.get? b = some o) → (∃ t1 : Addr, h'.get? e = some (excO C t1)) → R (.ok (.ret .none)) { s with heap := h', toks := tk }) :
    codeAny (model prog w) A (.call (.ref fI) ⟨[.ref e], []⟩) R s := by
  obtain ⟨oc, od, kV, doc, pm, an, ct, osl, qual, p1, tx, j, q0, q1, q2, q3, q4, q5, lk, hcd, hline⟩ := T.fn
  obtain ⟨ccl, cdd, vs, ccs, file, tf, lc, hvs, hfile⟩ := T.code
  obtain ⟨cl, cld, csl, lcell⟩ := T.cell
  refine ks_codeAny_call_defAt (binds := [("self", .ref e)]) hroom (X _ _ lk) rfl hlim (codeRec_of X hcd) rfl (BindsTo.of_eq rfl) ?_ ?_ (fun h0 hns hk => ?_)
  · intro y hy
    simp only [List.mem_cons, List.not_mem_nil, or_false] at hy
    rcases hy with rfl | rfl | rfl <;> exact fun z => nomatch z
  · intro y hy
    simp only [List.mem_cons, List.not_mem_nil, or_false] at hy
    rcases hy with rfl
    rfl
  have xL : s.heap.objs.size ≠ e := Nat.ne_of_gt (Heap.lt_size he)
  have under : ∀ b o, (hideAll s.heap [e]).get? b = some o → s.heap.get? b = some o := fun b o z => of_hideAll [e] z
  have gone : (hideAll s.heap [e]).get? e = none := hideAll_none [e] (by simp)
  have XG : K.In (hideAll s.heap [e]) := by
    intro b o z
    refine hideAll_get [e] (X b o z) ?_
    intro m
    rcases List.mem_singleton.mp m with rfl
    rw [hne] at z
    cases z
  have F0 : Fr (hideAll s.heap [e]) s.heap.objs.size h0 (fun y => ([("self", Value.ref e)] : List (Str × Value)).reverse.lookup y) := ⟨hns, fun b o z => hk b o (under b o z), by rw [hideAll_size]; exact Nat.le_refl _⟩
  have N0 : News (hideAll s.heap [e]) s.heap.objs.size h0 [(e, excObj C t0 none .none)] := by
    intro p hp
    rcases List.mem_singleton.mp hp with rfl
    exact ⟨hk _ _ he, fun z => xL z.symm, gone⟩
  obtain ⟨cdC, hcC⟩ := Option.isSome_iff_exists.mp T.isC
  obtain ⟨mb, hb1, hb2⟩ := M.blt
  show wpAt (model prog w) _ (.func _ (ksEnv0 qual s.heap.objs.size fI (.ref cda) cc)) (execs (iB0 tx j q0 q1 q2 q3 q4 q5) (ksEnv0 qual s.heap.objs.size fI (.ref cda) cc)) _ _ _
  have ksup : List.lookup (PySem.Str.ofString "super") iS0.names = some .globalImplicit := by decide +kernel
  have kcls : List.lookup (PySem.Str.ofString "__class__") iS0.names = some .free := by decide +kernel
  have kself : List.lookup (PySem.Str.ofString "self") iS0.names = some .local := rfl
  have IE : InstAt h0 e (excObj C t0 none .none) C none := ⟨hk _ _ he, rfl, rfl, trivial⟩
  obtain ⟨oC, hC1, hC2⟩ : ∃ oC, s.heap.get? C = some oC ∧ oC.data = .cls cdC := by
    unfold clsIn at hcC
    split at hcC
    · rename_i c d cd' sl ho
      cases hcC
      exact ⟨_, X _ _ ho, rfl⟩
    · cases hcC
  refine ks_wpAt_execs_cons (ks_wpAt_Expr_any (ks_wpAt_MethodCall (ks_wpAt_super_base ksup kcls (by decide +kernel) rfl (hk _ _ (X _ _ lk)) rfl rfl rfl (hk _ _ (X _ _ lc)) rfl hvs hfile T.top ?_) (eval_meth hline rfl)))
  refine ks_loadName_global rfl ksup (loadGlobal_builtin (M.glob.keeps fun b o z => hk b o (bk b o z)) (mg_none_of M.kin M.glob T.sup) (hb1.keeps fun b o z => hk b o (bk b o z)) ((hb2 _ (by decide)).trans (by decide +kernel)) ⟨rfl, ?_⟩)
  refine wpAny_loadName_free rfl kcls rfl ⟨_, hk _ _ (X _ _ lcell), rfl⟩ ?_
  refine wpAny_loadName_local rfl kself hns rfl ?_
  refine ks_wpAny_isType_cls (hk _ _ hC1) hC2 ⟨rfl, ?_⟩
  refine ks_wpAny_call_super (hk _ _ hC1) hC2 IE.at_ rfl (fun c z => by cases z) (looks_mroIn (X.keeps hk) T.mr) (fun h1 e1 k1 => ?_)
  obtain ⟨F1, N1, l1⟩ := ks_newsPush (s := ⟨h0, s.gens, s.drawn, s.toks + [((PySem.Str.ofString "self" : Str), Value.ref e)].length, s.os⟩) F0 N0 rfl e1 k1
  have IE1 : InstAt h1 e (excObj C t0 none .none) C none := ⟨k1 _ _ (hk _ _ he), rfl, rfl, trivial⟩
  refine kxs_method kxs_Exception F1 XG N1 (.head _) IE1 T.tp T.su T.sE (by decide +kernel) (fun u h2 F2 N2 l2 => ?_)
  refine kxs_callWith1 N2 (.head _) ?_
  show wpAny _ _ (spliced ((false, eval (.Constant (.str tx) j q3) (ksEnv0 qual s.heap.objs.size fI (.ref cda) cc)) :: [])) _ _ _
  refine Calls.spliced_cons (Calls.Constant_str (Calls.spliced_nil ⟨kxs_at N2 (.head _), ?_⟩))
  have ue : u ≠ e := fun z => by
    have q := l2 (e, excObj C t0 none .none) (.tail _ (.head _))
    exact absurd (z ▸ q) (Nat.lt_irrefl _)
  have se : h0.objs.size ≠ e := fun z => by
    have q := l1 (e, excObj C t0 none .none) (.head _)
    exact absurd (z ▸ q) (Nat.lt_irrefl _)
  refine kxs_call F2 XG N2 PySem.F.excBase_Exception T.q (.head _) (.tail ue (.tail se (.head fun p hp => nomatch hp))) (by rw [sizeLine_eq]; exact (by decide : 1 ≤ 16777216)) (fun t1 h3 F3 N3 l3 => ?_)
  refine wpAt_of_wpAny (wpAny_execs_nil ?_)
  refine hq h3 _ (fun b o hb ho => ?_) ⟨t1, (N3 (e, excObj C t1 none .none) (.tail _ (.tail _ (.tail _ (.head _))))).1⟩
  exact F3.keep b o (hideAll_get [e] ho (by intro m; exact hb (List.mem_singleton.mp m)))
theorem err_made0 (T : ErrT0 prog K x C fI cda cc) (M : L2.Mod K mg base) (bk : ∀ b o, base.get? b = some o → s.heap.get? b = some o) (hlim : s.heap.NoLimit) (hroom : A.depth + 1 < recursionLimit)
    (hq : ∀ h' tk e, (∀ b o, s.heap.get? b = some o → h'.get? b = some o) → s.heap.objs.size ≤ e → (∃ t1 : Addr, h'.get? e = some (excO C t1)) → R (.ok (.ret (.ref e))) { s with heap := h', toks := tk }) :
    codeAny (model prog w) A (.call (.ref C) ⟨[], []⟩) R s := by
  have X : K.In s.heap := M.kin.keeps bk
  obtain ⟨nm, N, qn, bs, bm, hdct, sn, sub, ab, col, dd, k0, k1, k2, k3, k5, hC, hT⟩ := excInit_of X T.q
  have tF : typeIn K (.ref fI) = some (.type "function") := beq_iff_eq.mp T.isF
  obtain ⟨hp, g, dr, tk, os⟩ := s
  have k : ∀ b o, hp.get? b = some o → ((hp.push (kdv_tup [])).push (excO C hp.objs.size)).get? b = some o := fun b o e => Heap.get?_push_of_some _ (Heap.get?_push_of_some _ e)
  have there : ((hp.push (kdv_tup [])).push (excO C hp.objs.size)).get? (hp.objs.size + 1) = some (excO C hp.objs.size) := by heap_get
  have big : ∀ {b : Addr} {o : Obj}, hp.get? b = some o → b ≠ hp.objs.size + 1 := fun {b o} z => Nat.ne_of_lt (Nat.lt_succ_of_lt (Heap.lt_size z))
  have notK : K.lookup (hp.objs.size + 1) = none := by
    cases e : K.lookup (hp.objs.size + 1) with
    | none => rfl
    | some o => exact absurd rfl (big (X _ _ e))
  refine callK PySem.F.excBase_Exception hT hC (looks_findIn X T.iC) (fun self => bind_fn X self tF) (by rw [sizeLine_eq]; exact (by decide : 0 ≤ 16777216)) ?_
  refine sup_init0 (s := ⟨(hp.push (kdv_tup [])).push (excO C hp.objs.size), g, dr, tk, os⟩) T M (fun b o z => k b o (bk b o z)) (X.keeps k) (hlim.keeps k) there notK hroom (fun h' tk' kk oo => ?_)
  exact ⟨rfl, hq h' tk' (hp.objs.size + 1) (fun b o z => kk b o (big z) (k b o z)) (Nat.le_succ _) oo⟩
end
end EX
end PySem

namespace DL
open PySem PySem.Spec L2
open PyProof.Rows hiding St
variable [HasL] [HasX] [HasH]
structure Err0 (P : Program) (K : PySem.W.Frag) (mg : Str → Option Value) (x : Str) : Prop where
  ex : ∃ C fI cda cc, PySem.EX.ErrT0 P K x C fI cda cc ∧ mg x = some (.ref C)
section
variable {X : Cx} {x f : Str} {C fI cda cc : Addr} {W : WX}
theorem pmk_err0 {p pos : Pos} {k : Nat} (T : PySem.EX.ErrT0 X.prog X.K x C fI cda cc) (hr : Room k X.A) (hk : 1 ≤ k) (hm : X.mg x = some (.ref C)) (hg : Gl X x) (hdb : (x == ("__debug__" : Str)) = false) :
    PMk X (.Call (.Name x p) [] [] pos) (fun σ H Q => Q (.ref C) none H) := by
  intro pins s σ H Q I h
  refine wpAny_Call_Name_kw (ld_glob I hg hm ?_ hdb)
  refine PySem.W.callWith_K0 I.kIn T.kp ?_
  show wpAny _ _ (call (.ref C) []) _ _ _
  have hlim := I.nolimit
  have room := hr.dp
  obtain ⟨hp, g, dr, tk, os⟩ := s
  refine wpAny_call (PySem.EX.err_made0 T I.mod I.bk hlim (by omega) fun h' tk' e keep new obj => ?_)
  show MkP X pins σ Q (.ref e) ⟨h', g, dr, tk', os⟩
  obtain ⟨t1, hoe⟩ := obj
  obtain ⟨G', g1, g2⟩ := restrict h' fun b => decide (b ≠ e)
  have gk : ∀ b, b ≠ e → G'.get? b = h'.get? b := fun b hb => g1 b (decide_eq_true hb)
  have ge : G'.get? e = none := g2 e (by simp)
  have old : ∀ b o, hp.get? b = some o → G'.get? b = some o := fun b o q => (gk b (Nat.ne_of_lt (Nat.lt_of_lt_of_le (Heap.lt_size q) new))).trans (keep b o q)
  have J : Inv X pins σ H ⟨G', g, dr, tk', os⟩ := I.kept (t' := tk') old
  refine ⟨e, _, _, ⟨G', g, dr, tk', os⟩, _, .ref C, none, rfl, J, fun b o q => ?_, ge, hoe, ⟨rfl, rfl⟩, rfl, rfl, I.hok.fresh new, rfl, I.bare, raises_own T.sB T.ty, h⟩
  by_cases hb : b = e
  · have q' : G'.get? b = some o := q
    rw [hb, ge] at q'
    cases q'
  · exact (gk b hb).symm.trans q
/-- raise X() -/
def sRaise0 (x : Str) : SS := fun ρ μ => .exn x [] ρ μ
theorem psd_raise0 {p pos pos2 : Pos} {k : Nat} (T : Err0 X.prog X.K X.mg x) (hc : X.calm = true) (hr : Room k X.A) (hk : 1 ≤ k) (tk : Takes X W) (hg : Gl X x := by rfl) (hdb : (x == ("__debug__" : Str)) = false := by decide) :
    PSD X W (.Raise (some (.Call (.Name x p) [] [] pos)) none pos2) (sRaise0 x) := by
  obtain ⟨C, fI, cda, cc, T, hm⟩ := T.ex
  refine ⟨_, ps_raise hc tk (pmk_err0 T hr hk hm hg hdb), fun B c H σ ρ μ hK fr D q => ?_⟩
  refine q c H σ (.ref C) none fr ⟨⟨C, rfl, ?_⟩, .inl ⟨rfl, rfl⟩⟩
  rw [hK]
  exact T.gC
/-- X(f=e).f -/
theorem pd_fresh {e : Expr} {ma : SE} {p pos kpos pos2 : Pos} {k : Nat} (T : Err X.prog X.K X.mg x f) (hf : PySem.EX.OkF f) (hr : Room k X.A) (hk : 1 ≤ k) (ha : PD X W false e ma) (hg : Gl X x := by rfl) (hdb : (x == ("__debug__" : Str)) = false := by decide)
    (hall : (backToKw pos (keywordEach [⟨some f, e, kpos⟩] X.env)).all (·.1.isSome) = true := by rfl) (hks : (backToKw pos (keywordEach [⟨some f, e, kpos⟩] X.env)).filterMap (·.1) = [f] := by rfl)
    (hpl : ((backTo pos (starEach [] X.env)).any (·.1) || (backToKw pos (keywordEach [⟨some f, e, kpos⟩] X.env)).any (·.1.isNone)) = false := by rfl)
    (hb : attributeBase (.Call (.Name x p) [] [⟨some f, e, kpos⟩] pos) f X.env (eval (.Call (.Name x p) [] [⟨some f, e, kpos⟩] pos) X.env) = eval (.Call (.Name x p) [] [⟨some f, e, kpos⟩] pos) X.env := by rfl) :
    PD X W false (.Attribute (.Call (.Name x p) [] [⟨some f, e, kpos⟩] pos) f pos2) ma := by
  obtain ⟨C, fI, cda, cc, T, hm⟩ := T.ex
  obtain ⟨t, h1, h2⟩ := ha
  have hK1 := pk_cons (nm := some f) (kpos := kpos) h1 pk_nil
  refine ⟨t, ⟨fun pins s σ H Q I h => ?_⟩, h2⟩
  refine attr_of hb ?_
  refine wpAny_Call_Name_kw (ld_glob I hg hm ?_ hdb)
  refine PySem.W.callWith_KW0 (h₀ := X.base) I.ok.mod.kin T.kp hall (thn (hK1.run pos pins s σ H (fun zs H1 => ∃ z, zs = [z] ∧ Q z H1) I ?_) fun ws s1 hh => ?_) hpl
  · show t σ H fun v H1 => _
    refine (show t σ H (fun v H1 => tNil σ H1 fun xs H2 => ∃ z, v :: xs = [z] ∧ Q z H2) from ?_)
    have e : (fun v H1 => tNil σ H1 fun xs H2 => ∃ z, v :: xs = [z] ∧ Q z H2) = Q := by
      funext v H1
      apply propext
      constructor
      · rintro ⟨z, ez, q⟩
        cases ez
        exact q
      · exact fun q => ⟨v, rfl, q⟩
    rw [e]
    exact h
  obtain ⟨zs, H1, I1, r1, z, ez, q⟩ := hh
  subst ez
  obtain ⟨u, rfl, ru⟩ := vals1 r1
  rw [hks]
  refine ⟨I1.kIn, ?_⟩
  show wpAny _ _ (call (.ref C) [] [(f, u)]) _ _ _
  have hlim := I1.nolimit
  have room := hr.dp
  obtain ⟨hp, g, dr, tk, os⟩ := s1
  refine wpAny_call (PySem.EX.err_made T hf (.inr ⟨rfl, rfl⟩) I1.mod I1.bk hlim (by omega) fun h' tk' e' d M => ?_)
  show wpAny _ _ (getAttr (.ref e') f true) _ _ ⟨h', g, dr, tk', os⟩
  obtain ⟨t1, hoe⟩ := M.obj
  obtain ⟨od, ho, hl⟩ := lookIn_ns M.ns
  have J : PySem.W.InstAt h' e' _ C (some od) := ⟨hoe, rfl, rfl, ho⟩
  have K' : Inv X pins σ H1 ⟨h', g, dr, tk', os⟩ := I1.kept (t' := tk') M.keep
  refine HandSPX.exc_get (s := ⟨h', g, dr, tk', os⟩) K'.kIn J T.ga T.gg T.sB (PySem.W.findObj_own T.hd T.no rfl (by rw [hl, if_pos rfl])) (handed_of ru) ⟨z, H1, K'.tok _, ru, q⟩
end
end DL
/-! # Dc: lists that are changed by others (a new one, an item stored) -/
namespace DL
open PySem PySem.Spec L2
open PyProof.Rows hiding St
variable [HasL] [HasX] [HasH]
section
variable {X : Cx} {W : WX} {b : Bool} {e f g : Expr} {es : List Expr} {mr : SA} {ma mb mc : SE} {pos : Pos}
/-- a list display: a list that others change -/
def mCell (mr : SA) : SE := fun ρ μ => (mr ρ μ).bnd fun ds μ1 => if line ds.length = true then .ok (.cell μ1.length) (μ1 ++ [ds]) else .stuck
theorem stp_new {c : Ct} {H : Hp} {p : Addr} {o : HO} (hp : H p = none) : Stp c ⟨c.K, c.cs ++ [p], c.br⟩ H (upd H p o) := by
  refine ⟨rfl, rfl, ⟨[p], rfl, ?_⟩, ?_, ?_, fun t => t.ext (same_upd hp)⟩
  · intro a ha
    rw [List.mem_singleton.mp ha]
    exact hp
  · intro a u ha _ _
    rw [upd_ne (ne_of_none ha hp)]
    exact ha
  · intro a u ha
    exact ⟨u, by rw [upd_ne (ne_of_none ha hp)]; exact ha⟩
theorem mrel_new {c : Ct} {H : Hp} {μ : Mu} {p : Addr} {vs : List V} {ds : List D} (M : MRel c H μ) (hp : H p = none) (r : Reps c H vs ds) : MRel ⟨c.K, c.cs ++ [p], c.br⟩ (upd H p (.lst vs)) (μ ++ [ds]) := by
  have st := stp_new (c := c) (o := .lst vs) hp
  have np : p ∉ c.cs := fresh_cs M hp
  have nb : p ∉ c.br := fresh_br M hp
  refine ⟨by rw [List.length_append, List.length_append, M.len]; rfl, ?_, ?_, ?_, tabs_step st M.tabs, fun p hp => (M.held p hp).step st⟩
  · refine List.nodup_append.mpr ⟨M.nd, by simp, ?_⟩
    intro a ha b' hb' e
    rw [List.mem_singleton.mp hb'] at e
    exact np (e ▸ ha)
  · intro n a l hn hl
    by_cases h : n < c.cs.length
    · rw [List.getElem?_append_left h] at hn
      rw [List.getElem?_append_left (by rw [← M.len]; exact h)] at hl
      obtain ⟨h1, ws, h2, h3⟩ := M.at_ n a l hn hl
      exact ⟨h1, ws, by rw [upd_ne (ne_of_none h2 hp)]; exact h2, h3.step st⟩
    · have hlen := (List.getElem?_eq_some_iff.mp hn).1
      rw [List.length_append, List.length_singleton] at hlen
      have en : n = c.cs.length := by omega
      subst en
      rw [List.getElem?_append_right (Nat.le_refl _), Nat.sub_self] at hn
      rw [M.len, List.getElem?_append_right (Nat.le_refl _), Nat.sub_self] at hl
      cases hn
      cases hl
      exact ⟨nb, vs, upd_same, r.step st⟩
  · intro a ha
    obtain ⟨o, ho⟩ := M.br a ha
    exact ⟨o, by rw [upd_ne (ne_of_none ho hp)]; exact ho⟩
theorem pd_cell (ha : PDA X W false es mr) : PD X W b (.List es pos) (mCell mr) := by
  obtain ⟨t, h1, h2⟩ := ha
  refine ⟨_, pe_lst h1, fun c H σ ρ μ hK k Q p => ?_⟩
  refine h2 c H σ ρ μ hK k _ (PostG.bnd p fun ds μ1 vs c1 H1 s1 M1 r1 p1 => ?_)
  by_cases hl : line ds.length = true
  · rw [if_pos hl] at p1
    refine ⟨by rw [r1.reps.length]; exact line_ok hl, fun a ha => ?_⟩
    refine p1 _ _ _ (stp_new ha) (mrel_new M1 ha r1.reps) (Rep.f (.cell ?_))
    show (c1.cs ++ [a])[μ1.length]? = some a
    rw [← M1.len, List.getElem?_append_right (Nat.le_refl _), Nat.sub_self]
    rfl
  · rw [if_neg hl] at p1
    exact p1.elim
/-- an item is stored into it -/
theorem stp_put {c : Ct} {H : Hp} {p : Addr} {o : HO} {m : Mu} (M : MRel c H m) (hp : p ∈ c.cs) : Stp c c H (upd H p o) := by
  refine ⟨rfl, rfl, ⟨[], by simp, by simp⟩, ?_, ?_, fun t q hq => tabS_upd (fun u hu => ?_) (t q hq)⟩
  · intro a u ha hn _
    have ne : a ≠ p := fun e => hn (by rw [e]; exact hp)
    rw [upd_ne ne]
    exact ha
  · intro a u ha
    by_cases e : a = p
    · subst e
      exact ⟨_, upd_same⟩
    · exact ⟨u, by rw [upd_ne e]; exact ha⟩
  · obtain ⟨vs, hv⟩ := M.there hp
    rw [hv] at hu
    cases hu
    exact ⟨vs, rfl⟩
theorem mrel_put {c : Ct} {H : Hp} {μ : Mu} {p : Addr} {n : Nat} {vs : List V} {ds : List D} (M : MRel c H μ) (hn : c.cs[n]? = some p) (r : Reps c H vs ds) : MRel c (upd H p (.lst vs)) (μ.set n ds) := by
  have st := stp_put (c := c) (H := H) (o := .lst vs) M (List.mem_of_getElem? hn)
  refine ⟨by rw [List.length_set]; exact M.len, M.nd, ?_, ?_, tabs_step st M.tabs, fun p hp => (M.held p hp).step st⟩
  · intro m a l hm hl
    have lm := (List.getElem?_eq_some_iff.mp hm).1
    by_cases e : m = n
    · subst e
      rw [hn] at hm
      cases hm
      rw [List.getElem?_set_self (by rw [← M.len]; exact lm)] at hl
      cases hl
      obtain ⟨h1, _⟩ := M.at_ m p (μ[m]'(by rw [← M.len]; exact lm)) hn (List.getElem?_eq_getElem _)
      exact ⟨h1, vs, upd_same, r.step st⟩
    · rw [List.getElem?_set_ne (fun q => e q.symm)] at hl
      obtain ⟨h1, ws, h2, h3⟩ := M.at_ m a l hm hl
      have ne : a ≠ p := by
        intro q
        subst q
        obtain ⟨l1, e1⟩ := List.getElem?_eq_some_iff.mp hm
        obtain ⟨l2, e2⟩ := List.getElem?_eq_some_iff.mp hn
        exact e ((List.getElem_inj M.nd).mp (e1.trans e2.symm))
      exact ⟨h1, ws, by rw [upd_ne ne]; exact h2, h3.step st⟩
  · intro a ha
    obtain ⟨o, ho⟩ := M.br a ha
    exact st.there a o ho
/-- the store behind xs[i] = d -/
def cellPut (o i d : D) (μ : Mu) : Option Mu := match o, i with
  | .cell n, .int k => (match μ[n]? with
    | some l => (match L2.ixN l.length k with
      | some j => some (μ.set n (l.set j d))
      | none => none)
    | none => none)
  | _, _ => none
def sPut (mo mi mv : SE) : SS := fun ρ μ => (mv ρ μ).go ρ fun d μ1 => (mo ρ μ1).go ρ fun o μ2 => (mi ρ μ2).go ρ fun i μ3 => match cellPut o i d μ3 with
  | some μ4 => .nx ρ μ4
  | none => .stuck
theorem psd_put {mo mi mv : SE} {p2 : Pos} (hv : PD X W false e mv) (ho : PD X W false f mo) (hi : PD X W false g mi)
    (ha : ∀ v, assign (.Subscript f g p2) X.env v = (do
      let ov ← holding [v] (eval f X.env)
      let iv ← holding [v, ov] (eval g X.env)
      standAt p2
      holding [v, ov, iv] (setItem ov iv v)
      release [v, ov, iv] []) := by intro _; rfl)
    (hs : swapsWithSole [.Subscript f g p2] e pos.line X.env = pure false := by rfl) (hw : swappedStores [.Subscript f g p2] e X.env = pure none := by rfl)
    (h1 : (assignEach [.Subscript f g p2] X.env).map (·.2) = [assign (.Subscript f g p2) X.env] := by rfl) :
    PSD X W (.Assign [.Subscript f g p2] e pos) (sPut mo mi mv) := by
  obtain ⟨tv, v1, v2⟩ := hv
  obtain ⟨to, o1, o2⟩ := ho
  obtain ⟨ti, i1, i2⟩ := hi
  refine ⟨_, ps_asg v1 (pg_sub o1 i1 set_list ha) hs hw h1, fun B c H σ ρ μ hK fr D p => ?_⟩
  refine v2 c H σ ρ μ hK fr.ok _ (fr.go p fun d m v c1 H1 s1 f1 r1 p1 => ?_)
  have hK1 := s1.K.trans hK
  refine o2 c1 H1 σ ρ m hK1 f1.ok _ (f1.go p1 fun o m2 vo c2 H2 s2 f2 r2 p2' => ?_)
  have hK2 := s2.K.trans hK1
  refine i2 c2 H2 σ ρ m2 hK2 f2.ok _ (f2.go p2' fun i m3 vi c3 H3 s3 f3 r3 p3 => ?_)
  cases e1 : cellPut o i d m3 with
  | none => rw [e1] at p3; exact p3.elim
  | some m4 =>
    rw [e1] at p3
    unfold cellPut at e1
    cases o with
    | cell n =>
      cases i with
      | int k =>
        have e1' : (match m3[n]? with | some l => (match L2.ixN l.length k with | some j => some (m3.set n (l.set j d)) | none => none) | none => none) = some m4 := e1
        cases e2 : m3[n]? with
        | none => rw [e2] at e1'; cases e1'
        | some l =>
          rw [e2] at e1'
          have e1'' : (match L2.ixN l.length k with | some j => some (m3.set n (l.set j d)) | none => none) = some m4 := e1'
          cases e3 : L2.ixN l.length k with
          | none => rw [e3] at e1''; cases e1''
          | some j =>
            rw [e3] at e1''
            cases e1''
            have ro := (r2.step s3).rep
            cases ro with
            | cell hc =>
              rename_i a
              obtain ⟨hb, vs, h2, h3⟩ := f3.ok.m.at_ n a l hc e2
              obtain rfl := rep_int r3
              have rd := (r1.rep.step s2).step s3
              refine ⟨a, vs, k, j, rfl, rfl, h2, by rw [h3.length]; exact e3, ?_⟩
              exact p3 c3 _ σ (f3.step (stp_put f3.ok.m (List.mem_of_getElem? hc)) (mrel_put f3.ok.m hc (h3.set rd j)))
      | _ => cases e1
    | _ => cases e1
end
end DL
/-! # Dh: what the head tells: names, defs, error classes; the end of a walk -/
namespace DL
open PySem PySem.Spec L2
open PyProof.Rows hiding St

/-! ### error classes -/
def iAd (K : PySem.W.Frag) (x : Str) : Addr := He.ma K (He.ga K x) "__init__"
def cdAd (K : PySem.W.Frag) (x : Str) : Addr := match K.lookup (iAd K x) with
  | some ⟨_, _, .func fd, _⟩ => (match fd.code with
    | .ref c => c
    | _ => 0)
  | _ => 0
def ccAd (K : PySem.W.Frag) (x : Str) : Addr := match K.lookup (iAd K x) with
  | some ⟨_, _, .func fd, _⟩ => (match fd.closure with
    | [(_, c)] => c
    | _ => 0)
  | _ => 0
/-- a piece of text -/
def strIs (file : Str) : Option Value → Bool
  | some (.str z _) => file == z
  | _ => false
abbrev FnI : Type := Option (Str × Str × Arguments × FuncBody × Scope × Addr × List Str × Value × Addr)
def obsI (K : PySem.W.Frag) (x : Str) : FnI := match K.lookup (iAd K x) with
  | some ⟨_, _, .func fd, _⟩ => some (fd.name, fd.qualname, fd.params, fd.body, fd.scope, fd.globals, fd.closure.map (·.1), fd.defaults, fd.builtins)
  | _ => none
def valI (q : Str) (s : Stmt) : FnI := some ("__init__", q, defArgs s, .stmts (defBody s), defScope s, mainGlobals, ["__class__"], .none, builtinsNs)
def fileIs (K : PySem.W.Frag) (c : Addr) (file : Str) : Bool := match K.lookup c with
  | some ⟨_, _, .fields vs, _⟩ => strIs file vs[2]?
  | _ => false
def cellIs (K : PySem.W.Frag) (c C : Addr) : Bool := match K.lookup c with
  | some ⟨_, _, .cell (some (.ref d)), _⟩ => d == C
  | _ => false
def refOne : Value → List (Str × Addr) → Bool
  | .ref _, [_] => true
  | _, _ => false
def codeRef (K : PySem.W.Frag) (x : Str) : Bool := match K.lookup (iAd K x) with
  | some ⟨_, _, .func fd, _⟩ => refOne fd.code fd.closure
  | _ => false
/-- what is looked at of the error class x with __init__ q in the file -/
def errB (file : Str) (K : PySem.W.Frag) (x q f : Str) : Bool :=
  He.eqO (PySem.W.nsIn K mainGlobals x) (some (some (.ref (He.ga K x)))) && PySem.W.excInitIn K (He.ga K x) PySem.EX.exTail "Exception.__new__" && PySem.W.excOver K (He.ga K x) PySem.EX.exTail &&
  He.eqO (PySem.W.findIn K (.ref (He.ga K x)) "__setattr__") (some (some (.builtin "object.__setattr__"))) && He.eqO (PySem.W.takerIn K (He.ga K x) f) (some none) && PySem.W.hasDictIn K (He.ga K x) &&
  He.eqO (PySem.W.findIn K (.ref (He.ga K x)) "__getattribute__") (some (some (.builtin "BaseException.__getattribute__"))) && He.eqO (PySem.W.findIn K (.ref (He.ga K x)) "__getattr__") (some none) &&
  He.eqO (PySem.W.findIn K (.ref (He.ga K x)) f) (some none) && He.eqO (PySem.W.findIn K (.ref (He.ga K x)) "__init__") (some (some (.ref (iAd K x)))) && PySem.W.isFn K (.ref (iAd K x)) && PySem.W.keepIn K (.ref (He.ga K x)) &&
  decide (PySem.W.subIn K (.ref (He.ga K x)) (.type "BaseException") = some true) && decide (PySem.W.subIn K (.ref (He.ga K x)) (.type "Exception") = some true) && decide (PySem.W.typeIn K (.ref (He.ga K x)) = some (.type "type")) &&
  He.eqO (PySem.W.ks_superIn K (He.ga K x) (He.ga K x) "__init__") (some (some (.builtin "Exception.__init__"))) &&
  decide (PySem.W.mroIn K (He.ga K x) (.ref (He.ga K x)) = some true) && (PySem.W.clsIn K (He.ga K x)).isSome && codeRef K x && PySem.W.codeIn K (.ref (cdAd K x)) q && fileIs K (cdAd K x) file && cellIs K (ccAd K x) (He.ga K x)
/-- what stands for all classes alike -/
def errA (K : PySem.W.Frag) : Bool := He.eqO (PySem.W.nsIn K PySem.cStatics "thirdparty.any") (some none) && He.eqO (PySem.W.nsIn K mainGlobals "super") (some none)
theorem fileIs_ok {K : PySem.W.Frag} {c : Addr} {file : Str} (h : fileIs K c file = true) : ∃ ccl cdd vs ccs z tf, K.lookup c = some ⟨ccl, cdd, .fields vs, ccs⟩ ∧ vs[2]? = some (.str z tf) ∧ ((file : Str) == z) = true := by
  unfold fileIs at h
  split at h
  · rename_i a b vs d e
    cases e2 : vs[2]? with
    | none => rw [e2] at h; cases h
    | some u =>
      rw [e2] at h
      cases u with
      | str z tf => exact ⟨_, _, _, _, z, tf, e, e2, h⟩
      | _ => cases h
  · cases h
theorem cellIs_ok {K : PySem.W.Frag} {c C : Addr} (h : cellIs K c C = true) : ∃ cl cld csl, K.lookup c = some ⟨cl, cld, .cell (some (.ref C)), csl⟩ := by
  unfold cellIs at h
  split at h
  · rename_i a b d sl e
    have e2 : d = C := beq_iff_eq.mp h
    rw [e2] at e
    exact ⟨_, _, _, e⟩
  · cases h
theorem init_fn {K : PySem.W.Frag} {x q : Str} {s : Stmt} (e : obsI K x = valI q s) (c : codeRef K x = true) :
    ∃ oc od kV doc pm an ct osl, K.lookup (iAd K x) = some ⟨oc, od, .func (PySem.W.fnX "__init__" q (defArgs s) (defBody s) (defScope s) [("__class__", ccAd K x)] .none kV doc pm an (.ref (cdAd K x)) ct), osl⟩ := by
  unfold obsI at e
  unfold codeRef at c
  unfold ccAd cdAd
  cases lk : K.lookup (iAd K x) with
  | none => rw [lk] at c; cases c
  | some o =>
    obtain ⟨oc, od, dt, osl⟩ := o
    rw [lk] at c e
    cases dt with
    | func fd =>
      obtain ⟨n1, n2, n3, n4, n5, n6, n7, n8, n9, n10, n11, n12, n13, n14, n15⟩ := fd
      have e2 : (some (n1, n2, n3, n4, n5, n6, n7.map (·.1), n8, n15) : FnI) = valI q s := e
      unfold valI at e2
      simp only [Option.some.injEq, Prod.mk.injEq] at e2
      obtain ⟨h1, h2, h3, h4, h5, h6, h7, h8, h9⟩ := e2
      subst h1 h2 h3 h4 h5 h6 h8 h9
      have c2 : refOne n13 n7 = true := c
      cases n13 with
      | ref cd =>
        cases n7 with
        | nil => cases c2
        | cons p r =>
          cases r with
          | cons _ _ => cases c2
          | nil =>
            obtain ⟨pn, pa⟩ := p
            have e3 : [pn] = [("__class__" : Str)] := h7
            cases e3
            exact ⟨oc, od, n9, n10, n11, n12, n14, osl, rfl⟩
      | _ => cases c2
    | _ => cases c
/-- the text of __init__ with a field, without one -/
def InitF (s : Stmt) (f : Str) : Prop := ∃ p1 p2 tx j q0 q1 q2 q3 q4 q5 q6 q7 q8 q9, defArgs s = PySem.EX.iA f p1 p2 ∧ defBody s = PySem.EX.iB f tx j q0 q1 q2 q3 q4 q5 q6 q7 q8 q9 ∧ defScope s = PySem.EX.iS f ∧ (q2.endLine == q4.line) = true
def Init0 (s : Stmt) : Prop := ∃ p1 tx j q0 q1 q2 q3 q4 q5, defArgs s = PySem.EX.iA0 p1 ∧ defBody s = PySem.EX.iB0 tx j q0 q1 q2 q3 q4 q5 ∧ defScope s = PySem.EX.iS0 ∧ (q2.endLine == q4.line) = true
section
variable {P : Program} {K : PySem.W.Frag} {mg : Str → Option Value} {x q f : Str} {s : Stmt} {h : Heap}
theorem err_of (X : K.In h) (G : h.Ns mainGlobals mg) (top : (P.main.scope.names.lookup ("super" : Str)).isSome = false) (a : errA K = true) (b : errB P.main.file K x q f = true) (e : obsI K x = valI q s) (t : InitF s f) : Err P K mg x f := by
  unfold errA at a
  unfold errB at b
  simp only [Bool.and_eq_true] at a b
  obtain ⟨⟨⟨⟨⟨⟨⟨⟨⟨⟨⟨⟨⟨⟨⟨⟨⟨⟨⟨⟨⟨b1, b2⟩, b3⟩, b4⟩, b5⟩, b6⟩, b7⟩, b8⟩, b9⟩, b10⟩, b11⟩, b12⟩, b13⟩, b14⟩, b15⟩, b16⟩, b17⟩, b18⟩, b19⟩, b20⟩, b21⟩, b22⟩ := b
  obtain ⟨oc, od, kV, doc, pm, an, ct, osl, lk⟩ := init_fn e b19
  obtain ⟨p1, p2, tx, j, q0, q1, q2, q3, q4, q5, q6, q7, q8, q9, t1, t2, t3, t4⟩ := t
  rw [t1, t2, t3] at lk
  refine ⟨He.ga K x, iAd K x, cdAd K x, ccAd K x, ⟨He.eqO_ok b1, b2, b3, He.eqO_ok b4, He.eqO_ok b5, b6, He.eqO_ok b7, He.eqO_ok b8, He.eqO_ok b9, He.eqO_ok b10, b11, b12, of_decide_eq_true b13, of_decide_eq_true b14, of_decide_eq_true b15, He.eqO_ok a.1,
    He.eqO_ok b16, of_decide_eq_true b17, b18, He.eqO_ok a.2, ⟨oc, od, kV, doc, pm, an, ct, osl, q, p1, p2, tx, j, q0, q1, q2, q3, q4, q5, q6, q7, q8, q9, lk, b20, t4⟩, fileIs_ok b21, cellIs_ok b22, top⟩, PySem.W.mg_of X G (He.eqO_ok b1)⟩
theorem err0_of (X : K.In h) (G : h.Ns mainGlobals mg) (top : (P.main.scope.names.lookup ("super" : Str)).isSome = false) (a : errA K = true) (b : errB P.main.file K x q f = true) (e : obsI K x = valI q s) (t : Init0 s) : Err0 P K mg x := by
  unfold errA at a
  unfold errB at b
  simp only [Bool.and_eq_true] at a b
  obtain ⟨⟨⟨⟨⟨⟨⟨⟨⟨⟨⟨⟨⟨⟨⟨⟨⟨⟨⟨⟨⟨b1, b2⟩, b3⟩, b4⟩, b5⟩, b6⟩, b7⟩, b8⟩, b9⟩, b10⟩, b11⟩, b12⟩, b13⟩, b14⟩, b15⟩, b16⟩, b17⟩, b18⟩, b19⟩, b20⟩, b21⟩, b22⟩ := b
  obtain ⟨oc, od, kV, doc, pm, an, ct, osl, lk⟩ := init_fn e b19
  obtain ⟨p1, tx, j, q0, q1, q2, q3, q4, q5, t1, t2, t3, t4⟩ := t
  rw [t1, t2, t3] at lk
  exact ⟨He.ga K x, iAd K x, cdAd K x, ccAd K x, ⟨He.eqO_ok b1, b2, He.eqO_ok b10, b11, b12, of_decide_eq_true b13, of_decide_eq_true b14, of_decide_eq_true b15, He.eqO_ok a.1,
    He.eqO_ok b16, of_decide_eq_true b17, b18, He.eqO_ok a.2, ⟨oc, od, kV, doc, pm, an, ct, osl, q, p1, tx, j, q0, q1, q2, q3, q4, q5, lk, b20, t4⟩, fileIs_ok b21, cellIs_ok b22, top⟩, PySem.W.mg_of X G (He.eqO_ok b1)⟩
end
/-- which class an except clause takes -/
def errsB (K : PySem.W.Frag) (nm : List Str) : Bool := nm.all fun x => ((("TwinError" : Str) :: nm).all fun c => decide (PySem.W.exmOne K (.ref (He.ga K x)) (.ref (He.ga K c)) = some (catches x c)))
theorem ga_of {K : PySem.W.Frag} {x : Str} {C : Addr} (h : PySem.W.nsIn K mainGlobals x = some (some (.ref C))) : He.ga K x = C := by
  unfold He.ga
  rw [h]
theorem errs_of {K : PySem.W.Frag} {nm : List Str} (h : errsB K nm = true) : Errs K nm := by
  intro x hx c hc X C e1 e2
  have h1 := List.all_eq_true.mp (List.all_eq_true.mp h x hx) c hc
  rw [ga_of e1, ga_of e2] at h1
  exact of_decide_eq_true h1

/-! ### the Hook -/
/-- an error class: its name, __init__'s qualified name, field, text -/
structure ErD where
  x : Str
  q : Str
  f : Str
  s : Stmt
abbrev AlN : Type := Bool × List He.FnW × List FnI
def obsN (file : Str) (fa : List He.Fa) (fn : List He.DefD) (er : List ErD) (nm : List Str) (ex : PySem.W.Frag → Bool) (K : PySem.W.Frag) : AlN :=
  ((fa.all fun f => f.ok K) && (fn.all fun d => d.ok K) && errA K && (er.all fun e => errB file K e.x e.q e.f) && errsB K nm && ex K, fn.map fun d => He.fnW K d.at_, er.map fun e => obsI K e.x)
def valN (fn : List He.DefD) (er : List ErD) : AlN := (true, fn.map He.DefD.val, er.map fun e => valI e.q e.s)
structure SaysN (file : Str) (fa : List He.Fa) (fn : List He.DefD) (er : List ErD) (nm : List Str) (ex : PySem.W.Frag → Bool) (K : PySem.W.Frag) : Prop where
  fact : ∀ f ∈ fa, f.ok K = true
  def_ : ∀ (i : Nat) (d : He.DefD), fn[i]? = some d → ∃ fd, FunD K d.name d.qual d.params d.body d.scope (d.dvs K) (d.kws K) (He.fAd K d.at_) fd
  a : errA K = true
  err : ∀ (i : Nat) (e : ErD), er[i]? = some e → errB file K e.x e.q e.f = true ∧ obsI K e.x = valI e.q e.s
  errs : Errs K nm
  more : ex K = true
theorem saysN_of {file : Str} {fa : List He.Fa} {fn : List He.DefD} {er : List ErD} {nm : List Str} {ex : PySem.W.Frag → Bool} {K : PySem.W.Frag} (e : obsN file fa fn er nm ex K = valN fn er) : SaysN file fa fn er nm ex K := by
  have e1 := congrArg (fun z : AlN => z.1) e
  have e2 : fn.map (fun d => He.fnW K d.at_) = fn.map He.DefD.val := congrArg (fun z : AlN => z.2.1) e
  have e3 : er.map (fun d => obsI K d.x) = er.map fun e => valI e.q e.s := congrArg (fun z : AlN => z.2.2) e
  have e4 : ((fa.all fun f => f.ok K) && (fn.all fun d => d.ok K) && errA K && (er.all fun e => errB file K e.x e.q e.f) && errsB K nm && ex K) = true := e1
  simp only [Bool.and_eq_true] at e4
  obtain ⟨⟨⟨⟨⟨h1, h2⟩, h3⟩, h4⟩, h5⟩, h6⟩ := e4
  refine ⟨fun f hf => List.all_eq_true.mp h1 f hf, fun i d hi => ?_, h3, fun i d hi => ⟨List.all_eq_true.mp h4 d (List.mem_of_getElem? hi), ?_⟩, errs_of h5, h6⟩
  · have q : (fn.map fun d => He.fnW K d.at_)[i]? = (fn.map He.DefD.val)[i]? := by rw [e2]
    rw [List.getElem?_map, List.getElem?_map, hi] at q
    exact He.DefD.funD (Option.some.inj q) (List.all_eq_true.mp h2 d (List.mem_of_getElem? hi))
  · have q : (er.map fun d => obsI K d.x)[i]? = (er.map fun e => valI e.q e.s)[i]? := by rw [e3]
    rw [List.getElem?_map, List.getElem?_map, hi] at q
    exact Option.some.inj q
def frN (n : Nat) (g : Addr → Option Obj) : PySem.W.Frag := He.frG g (PySem.cStatics :: He.asD g n)
def obsNG (n : Nat) (file : Str) (fa : List He.Fa) (fn : List He.DefD) (er : List ErD) (nm : List Str) (ex : PySem.W.Frag → Bool) (g : Addr → Option Obj) : AlN := obsN file fa fn er nm ex (frN n g)
def hookN (n : Nat) (file : Str) (fa : List He.Fa) (fn : List He.DefD) (er : List ErD) (nm : List Str) (ex : PySem.W.Frag → Bool) : PySem.W.Hook where
  α := AlN
  obs := fun s => obsNG n file fa fn er nm ex s.heap.get?
  val := fun _ => valN fn er
  says := fun _ h => ∃ K : PySem.W.Frag, K.In h ∧ SaysN file fa fn er nm ex K
  of := fun _ _ e => ⟨_, He.frG_in, saysN_of e⟩
  keeps := fun _ _ _ ⟨K, hK, c⟩ k => ⟨K, PySem.W.Frag.In.keeps hK k, c⟩
theorem obsNG_eq {n : Nat} {file : Str} {fa : List He.Fa} {fn : List He.DefD} {er : List ErD} {nm : List Str} {ex : PySem.W.Frag → Bool} {g : Addr → Option Obj} {s : Shared} (h : ∀ a, g a = s.heap.get? a) : obsNG n file fa fn er nm ex g = (hookN n file fa fn er nm ex).obs s := by
  have e : g = s.heap.get? := funext h
  rw [e] <;> rfl

/-! ### defs as they are called -/
variable [HasL] [HasX] [HasH]
section
variable {P : Program} {w : World} {K : PySem.W.Frag} {mg : Str → Option Value} {base : Heap}
theorem takes_def {N : List Str} {qual : Str} {scope : Scope} {f : Addr} {cdv : Value} {A : Around} {outer : List PySem.Env} {s : Shared} {H : Hp} {E : XK} : Takes (cxOf (L2.CX P w) P w K mg base N qual scope f cdv A outer s H E) (WE' E) := takes_of rfl rfl rfl rfl
theorem own_def {N : List Str} {qual : Str} {scope : Scope} {f : Addr} {cdv : Value} {A : Around} {outer : List PySem.Env} {s : Shared} {H : Hp} {E : XK} :
    PassesOwn (model (cxOf (L2.CX P w) P w K mg base N qual scope f cdv A outer s H E).prog (cxOf (L2.CX P w) P w K mg base N qual scope f cdv A outer s H E).w) (cxOf (L2.CX P w) P w K mg base N qual scope f cdv A outer s H E).A (cxOf (L2.CX P w) P w K mg base N qual scope f cdv A outer s H E).env (cxOf (L2.CX P w) P w K mg base N qual scope f cdv A outer s H E).xe := passes_of rfl
theorem cal_mk {x : Str} {st : Stmt} {N ps : List Str} {k : Nat} {m : SS} {f : Addr} {fd : FuncData} (F : FunD K x x (defArgs st) (defBody st) (defScope st) [] [] f fd) (hm : mg x = some (.ref f)) (S : FnScope N ps (defScope st)) (hNp : ps.length ≤ N.length)
    (hbind : ∀ (kV doc pm : Value) (an : Option Addr) (cdv ct : Value) (us : List Value), us.length = ps.length → bindArgs (PySem.W.fnOf x x (defArgs st) (defBody st) (defScope st) .none kV doc pm an cdv ct) ⟨us, []⟩ = pure (ps.zip us))
    (hb : ∀ (h : HasH) (cdv : Value) (A : Around) (outer : List PySem.Env) (s : Shared) (H : Hp) (E : XK), Rm k (A.deeper (envOfC x (defScope st) s.heap.objs.size f cdv)) → PSDs (cxOf (L2.CX P w) P w K mg base N x (defScope st) f cdv A outer s H E) (WE' E) (defBody st) m) :
    Cal P w K mg base (k + 1) x ps.length (mFn ps.length N.length m) :=
  ⟨⟨f, fd, ps, hm, F.kp, fun h => fn_data F S hNp (hb h), F.bindsN hbind, rfl⟩⟩
end

/-! ### the end -/
theorem walkG_ofE {l : PySem.W.OpenLaw} {n k : Nat} {q : Program} {loose : List Str} {XP : (Str → Option Value) → Heap → Prop} {YP : World → Heap → Prop} {d : DefRec} {x : Str}
    (most : l.most = some n) (short : n ≤ sizeLine) (nodef : d.params.defaults = []) (room : Rm k callerA)
    (F : ∀ (w : World) (mg : Str → Option Value) (fa : Addr) (h : Heap), YP w h → h.Ns mainGlobals mg → mg d.name = some (.ref fa) →
      ∃ (K : PySem.W.Frag) (fd : FuncData) (sp : Sp), K.In h ∧ (∀ (s : Shared) (u : Value), BindsTo s fd ⟨[u], []⟩ [(x, u)]) ∧
        (∀ (H : Hp) (a : Addr) (ns : List Int), ns.length ≤ n → (∀ z ∈ ns, Builtin.Int.intBits z ≤ 1048576) → Only H → SqL K H a (ns.map V.int) → sp [.ref a] H (fun v _ => v = .bl true) fun _ _ _ => False) ∧
        ∀ base : Heap, K.In base → base.Ns mainGlobals mg → FnG l.prog w K mg base (L2.CX l.prog w) k fa fd [x] sp) :
    PySem.W.WalkO q loose XP YP l.row.toRowW d [] (fun f vs => PySem.call f vs) := by
  refine Att.attach_callB most nodef ?_
  intro w s₀ s₁ mg mb fa o pm cd doc a vs ns G Y ho hd hcd hmg hobj hints hlen hbits hg
  obtain ⟨K, fd, sp, kin, bound, hsp, hF⟩ := F w mg fa _ Y G.T.g hmg
  refine lawG_call kin G.T.g G.T.b G.T.builtins G.T.nolimit hg hobj hints (Nat.le_trans hlen short) room hF bound (fun H only sq => hsp H a ns hlen hbits only sq) ?_
  rintro H e s' ⟨_, _, _, _, _, _, _, _, _, _, _, _, z⟩
  exact z
/-- the law's own promise, by its data: the script is a list that is known -/
theorem law_sp (ht : HasX.x.tb = []) (hh : HasH.hd = []) {K : PySem.W.Frag} {F : FD} {n : Nat} (h : ∀ ns : List Int, ns.length ≤ n → (∀ z ∈ ns, Builtin.Int.intBits z ≤ 1048576) → ∃ m, F [.scr ns] [] = .ok (.bl true) m)
    (H : Hp) (a : Addr) (ns : List Int) (hl : ns.length ≤ n) (hb : ∀ z ∈ ns, Builtin.Int.intBits z ≤ 1048576) (only : Only H) (sq : SqL K H a (ns.map V.int)) :
    spOf K 1 F [.ref a] H (fun v _ => v = .bl true) fun _ _ _ => False := by
  obtain ⟨m, e⟩ := h ns hl hb
  have r : Rep ⟨K, [], []⟩ H (.ref a) (.scr ns) := by
    rcases sq with (z | ⟨o, z⟩) | z
    · rcases only a with q | ⟨o, xs, q⟩
      · rw [q] at z; cases z
      · rw [q] at z; cases z
    · exact .scr (by simp) z
    · exact .scrK (.inr z)
  refine ⟨⟨K, [], []⟩, [], [.scr ns], rfl, ⟨rfl, List.nodup_nil, fun n a ds h1 _ => ?_, fun a ha => ?_, fun p hp => by rw [ht] at hp; simp at hp, fun p hp => by rw [hh] at hp; simp at hp⟩, .cons r .nil, rfl, ?_⟩
  · have h2 : ([] : List Addr)[n]? = some a := h1
    simp at h2
  · have h2 : a ∈ ([] : List Addr) := ha
    simp at h2
  · rw [e]
    rintro v H' ⟨c', _, _, rv⟩
    cases rv
    rfl
end DL

namespace DL
open PySem PySem.Spec L2
open PyProof.Rows hiding St
variable [HasL] [HasX] [HasH]
/-! ### small things for printed texts -/
def clsBody (s : Stmt) : List Stmt := match s with
  | .ClassDef _ _ _ b _ _ _ _ _ _ _ => b
  | _ => []
def initOf (s : Stmt) : Stmt := (clsBody s).getD 0 (.Pass ⟨0, 0, 0, 0⟩)
theorem clauses_ok {l : List Cl} {ns : List Str} (h : ((l.map (·.1)).all fun x => decide (x ∈ ns)) = true) : ∀ p ∈ l, p.1 ∈ ns := by
  intro p hp
  have h2 := List.all_eq_true.mp h p.1 (List.mem_map_of_mem hp)
  exact of_decide_eq_true h2
theorem catches_is {x c : Str} (h : catches x c = true) (hc : (c == ("TwinError" : Str)) = false := by decide) : x = c := by
  unfold catches at h
  rw [hc, Bool.or_false] at h
  exact beq_iff_eq.mp h
def fNeg : D → Mu → Out D
  | .int i, m => .ok (.int (-i)) m
  | _, _ => .stuck
theorem rel_neg {K : PySem.W.Frag} {W : WX} {b : Bool} : RelU K W b (rU fun i => .int (-i)) fNeg := by
  intro c H σ μ v d hK M r Q p
  cases d with
  | int i => exact ⟨i, rep_int r, post_int M p⟩
  | _ => exact p.elim
theorem pd_neg {X : Cx} {W : WX} {b : Bool} {e : Expr} {ma : SE} {pos : Pos} (ha : PD X W true e ma) : PD X W b (.UnaryOp .USub e pos) (mUn fNeg ma) := pd_un un_neg rel_neg ha
section
variable {X : Cx} {W : WX} {b : Bool} {e : Expr} {es : List Expr} {mr : SA} {p pos : Pos}
theorem pd_len (hm : X.mg "len" = none) (ha : PDA X W true (e :: es) mr) (hg : Gl X "len" := by rfl) (he : starEach (e :: es) X.env = (false, eval e X.env) :: starEach es X.env := by rfl) (hpl : (backTo pos (starEach es X.env)).any (·.1) = false := by rfl) :
    PD X W b (.Call (.Name "len" p) (e :: es) [] pos) (mApp fLen mr) := pd_callB call_lenA rel_len hm rfl ha hg (by decide) (by decide) he hpl
theorem pd_abs (hm : X.mg "abs" = none) (ha : PDA X W true (e :: es) mr) (hg : Gl X "abs" := by rfl) (he : starEach (e :: es) X.env = (false, eval e X.env) :: starEach es X.env := by rfl) (hpl : (backTo pos (starEach es X.env)).any (·.1) = false := by rfl) :
    PD X W b (.Call (.Name "abs" p) (e :: es) [] pos) (mApp fAbs mr) := pd_callB call_abs rel_abs hm rfl ha hg (by decide) (by decide) he hpl
theorem pd_intT (hm : X.mg "int" = none) (ha : PDA X W true (e :: es) mr) (hg : Gl X "int" := by rfl) (he : starEach (e :: es) X.env = (false, eval e X.env) :: starEach es X.env := by rfl) (hpl : (backTo pos (starEach es X.env)).any (·.1) = false := by rfl) :
    PD X W b (.Call (.Name "int" p) (e :: es) [] pos) (mApp fInt mr) := pd_callTy call_int1 rel_int hm rfl ha hg (by decide) (by decide) he hpl
end
end DL
/-! # Dn: lists that a frame makes, holds alone and changes -/
namespace DL
open PySem PySem.Spec L2
open PyProof.Rows hiding St
variable [HasL] [HasX] [HasH]

/-! ### a new list -/
abbrev SN := Env → Mu → Out (List D)
mutual
/-- what stood before a new address is spoken for stands apart from it -/
theorem Rep.more {c c' : Ct} {H H' : Hp} {a : Addr} (s : Stp c c' H H') (hn : H a = none) : ∀ {v : V} {d : D}, Rep c H v d → Rep ⟨c'.K, c'.cs, a :: c'.br⟩ H' v d
  | _, _, .non => .non
  | _, _, .bl b => .bl b
  | _, _, .int i => .int i
  | _, _, .str x => .str x
  | _, _, .ty n => .ty n
  | _, _, .tup h1 h2 h3 => .tup (s.notin h1 h2) (s.keep _ _ h2 h1 (fun _ z => by cases z)) (Reps.more s hn h3)
  | _, _, .lst h1 h0 h2 h3 => .lst (s.notin h1 h2) (by
      intro q
      rcases List.mem_cons.mp q with e | e
      · rw [e, hn] at h2
        cases h2
      · rw [s.br] at e
        exact h0 e) (s.keep _ _ h2 h1 (fun _ z => by cases z)) (Reps.more s hn h3)
  | _, _, .scr h1 h2 => .scr (s.notin h1 h2) (s.keep _ _ h2 h1 (fun _ z => by cases z))
  | _, _, .scrK h => .scrK (by
      show SqL c'.K _ _ _
      rw [s.K]
      exact h)
  | _, _, .dK h1 h0 h2 h3 h4 => .dK (s.notin h1 h2) (by
      intro q
      rcases List.mem_cons.mp q with e | e
      · rw [e, hn] at h2
        cases h2
      · rw [s.br] at e
        exact h0 e) (s.keep _ _ h2 h1 (fun _ z => by cases z)) h3 (Reps.more s hn h4)
  | _, _, .dT h1 h0 h2 h3 h4 => .dT (s.notin h1 h2) (by
      intro q
      rcases List.mem_cons.mp q with e | e
      · rw [e, hn] at h2
        cases h2
      · rw [s.br] at e
        exact h0 e) (s.keep _ _ h2 h1 (fun _ z => by cases z)) h3 (Reps.more s hn h4)
  | _, _, .cell h => by
    obtain ⟨new, e, _⟩ := s.cs
    refine .cell ?_
    show c'.cs[_]? = _
    obtain ⟨hl, _⟩ := List.getElem?_eq_some_iff.mp h
    rw [e, List.getElem?_append_left hl]
    exact h
  | _, _, .fn h hf => .fn (by
      show PySem.W.nsIn c'.K _ _ = _
      rw [s.K]
      exact h) (by
      show fnIn c'.K _ = _
      rw [s.K]
      exact hf)
  | _, _, .lam h1 h2 h3 h4 => .lam (s.notin h1 h3) (s.notin h2 h4) (by
      exact s.keep _ _ h3 h1 (fun _ => lamO_ne fun _ => nofun)) (s.keep _ _ h4 h2 (fun _ => codeO_not fun _ => nofun))
theorem Reps.more {c c' : Ct} {H H' : Hp} {a : Addr} (s : Stp c c' H H') (hn : H a = none) : ∀ {vs : List V} {ds : List D}, Reps c H vs ds → Reps ⟨c'.K, c'.cs, a :: c'.br⟩ H' vs ds
  | _, _, .nil => .nil
  | _, _, .cons h t => .cons (Rep.more s hn h) (Reps.more s hn t)
end
theorem OAt.more {c c' : Ct} {H H' : Hp} {a b : Addr} {o : OwnC} (s : Stp c c' H H') (hn : H a = none) (hc : b ∉ c.cs) (k : OAt c H b o) : OAt ⟨c'.K, c'.cs, a :: c'.br⟩ H' b o := by
  cases o with
  | lst ds =>
    obtain ⟨vs, e, r⟩ := k
    exact ⟨vs, s.keep _ _ e hc (fun _ z => by cases z), r.more s hn⟩
  | dic ks vs =>
    rcases k with ⟨kvs, e, q, r⟩ | ⟨kvs, e, q, r⟩
    · exact .inl ⟨kvs, s.keep _ _ e hc (fun _ z => by cases z), q, r.more s hn⟩
    · exact .inr ⟨kvs, s.keep _ _ e hc (fun _ z => by cases z), q, r.more s hn⟩
/-- what is wanted of a new list at a -/
def PostN (c : Ct) (σ : St) (H : Hp) (W : WX) (o : Out (List D)) (Q : VK) : Prop := match o with
  | .ok ds m => ∀ a vs c' H', Stp c c' H H' → H a = none → MRel ⟨c'.K, c'.cs, a :: c'.br⟩ H' m → H' a = some (.lst vs) → a ∉ c'.cs → Reps ⟨c'.K, c'.cs, a :: c'.br⟩ H' vs ds → Q (.ref a) H'
  | .exn x fs m => ∀ cls dd c' H', Stp c c' H H' → MRel c' H' m → ExR c' H' cls dd x fs → W cls dd σ H'
  | .stuck => False
def SimN (K : PySem.W.Frag) (W : WX) (t : TE) (m : SN) : Prop := ∀ c H σ ρ μ, c.K = K → Ok c H σ ρ μ → ∀ Q, PostN c σ H W (m ρ μ) Q → t σ H Q
def PDN (X : Cx) (W : WX) (e : Expr) (m : SN) : Prop := ∃ t, PE X e t ∧ SimN X.K W t m
/-- from other values' end on -/
theorem PostN.bnd {α β : Type} {G : Ct → Hp → β → α → Prop} {c : Ct} {σ : St} {H : Hp} {W : WX} {o : Out α} {f : α → Mu → Out (List D)} {Q : VK} {R : β → Hp → Prop} (p : PostN c σ H W (o.bnd f) Q)
    (h : ∀ d m v c' H', Stp c c' H H' → MRel c' H' m → G c' H' v d → PostN c' σ H' W (f d m) Q → R v H') : PostG G c σ H W o R := by
  cases o with
  | ok d m =>
    intro v c' H' s M r
    refine h d m v c' H' s M r ?_
    cases e : f d m with
    | ok ds m' =>
      have p' : PostN c σ H W (f d m) Q := p
      rw [e] at p'
      intro a vs c2 H2 s2 hn
      refine p' a vs c2 H2 (s.trans s2) ?_
      cases q : H a with
      | none => rfl
      | some o =>
        obtain ⟨o', q'⟩ := s.there a o q
        rw [hn] at q'
        cases q'
    | exn x fs m' =>
      have p' : PostN c σ H W (f d m) Q := p
      rw [e] at p'
      exact fun cls dd c2 H2 s2 M2 r2 => p' cls dd c2 H2 (s.trans s2) M2 r2
    | stuck =>
      have p' : PostN c σ H W (f d m) Q := p
      rw [e] at p'
      exact p'
  | exn x fs m => exact p
  | stuck => exact p
/-- a list that is laid now -/
theorem PostN.lay {c : Ct} {σ : St} {H : Hp} {W : WX} {ds : List D} {μ : Mu} {Q : VK} {vs : List V} {p : Addr} (q : PostN c σ H W (.ok ds μ) Q) (M : MRel c H μ) (r : Reps c H vs ds) (hp : H p = none) : Q (.ref p) (upd H p (.lst vs)) := by
  have st : Stp c c H (upd H p (.lst vs)) := Stp.same (same_upd hp)
  refine q p vs c _ st hp ⟨M.len, M.nd, fun n b es e1 e2 => ?_, fun b hb => ?_, (show LamX.Tabs HasX.x.tb (upd H p (.lst vs)) from tabs_step st M.tabs), fun q hq => (M.held q hq).more st hp⟩ upd_same (fresh_cs M hp) (r.more st hp)
  · obtain ⟨h1, ws, h2, h3⟩ := M.at_ n b es e1 e2
    refine ⟨fun z => ?_, ws, same_upd hp b _ h2, h3.more st hp⟩
    rcases List.mem_cons.mp z with z | z
    · rw [z, hp] at h2
      cases h2
    · exact h1 z
  · rcases List.mem_cons.mp hb with z | z
    · exact ⟨_, by rw [z]; exact upd_same⟩
    · obtain ⟨o, ho⟩ := M.br b z
      exact ⟨o, same_upd hp b _ ho⟩
section
variable {X : Cx} {W : WX} {b : Bool} {e f : Expr} {es : List Expr} {mr : SA} {ma mb mc : SE} {mn : SN} {pos : Pos}
/-- as any value: a list that nobody changes -/
def mLs (m : SN) : SE := fun ρ μ => (m ρ μ).bnd fun ds μ1 => .ok (.lst ds) μ1
theorem PDN.pd (h : PDN X W e mn) : PD X W b e (mLs mn) := by
  obtain ⟨t, h1, h2⟩ := h
  refine ⟨t, h1, fun c H σ ρ μ hK k Q p => h2 c H σ ρ μ hK k Q ?_⟩
  unfold mLs at p
  cases q : mn ρ μ with
  | ok ds m =>
    rw [q] at p
    intro a vs c' H' s hn M ha hc r
    have sub : ∀ x ∈ c'.br, x ∈ (a :: c'.br) := fun x hx => List.mem_cons_of_mem _ hx
    refine p (.ref a) c' H' s (MRel.lessB (c := ⟨c'.K, c'.cs, a :: c'.br⟩) (br := c'.br) sub M) (Rep.f (.lst hc (fun z => ?_) ha (Reps.lessB (c := ⟨c'.K, c'.cs, a :: c'.br⟩) (br := c'.br) sub r)))
    have z' : a ∈ c.br := by rw [← s.br]; exact z
    obtain ⟨o, ho⟩ := k.m.br a z'
    rw [hn] at ho
    cases ho
  | exn x fs m => rw [q] at p; exact p
  | stuck => rw [q] at p; exact p
/-- [e, ..] -/
def nDisp (mr : SA) : SN := fun ρ μ => (mr ρ μ).bnd fun ds μ1 => if line ds.length = true then .ok ds μ1 else .stuck
theorem pdn_list (ha : PDA X W false es mr) : PDN X W (.List es pos) (nDisp mr) := by
  obtain ⟨t, h1, h2⟩ := ha
  refine ⟨_, pe_lst h1, fun c H σ ρ μ hK k Q p => ?_⟩
  refine h2 c H σ ρ μ hK k _ (PostN.bnd p fun ds μ1 vs c1 H1 s1 M1 r1 p1 => ?_)
  by_cases hl : line ds.length = true
  · rw [if_pos hl] at p1
    exact ⟨by rw [r1.length]; exact line_ok hl, fun q hq => p1.lay M1 r1.reps hq⟩
  · rw [if_neg hl] at p1
    exact p1.elim
/-- list(e) -/
def nOf (ma : SE) : SN := fun ρ μ => (ma ρ μ).bnd fun d μ1 => match seqOf μ1 d with
  | some l => .ok l μ1
  | none => .stuck
theorem pdn_listOf {p : Pos} (hm : X.mg "list" = none) (ha : PD X W true e ma) (hg : Gl X "list" := by rfl) (he : starEach [e] X.env = (false, eval e X.env) :: starEach [] X.env := by rfl) : PDN X W (.Call (.Name "list" p) [e] [] pos) (nOf ma) := by
  obtain ⟨t, h1, h2⟩ := ha
  refine ⟨_, pe_callTy call_list_of hg hm rfl (pa_cons h1 pa_nil he) (by decide) (by decide) he rfl, fun c H σ ρ μ hK k Q p => ?_⟩
  refine h2 c H σ ρ μ hK k _ (PostN.bnd p fun d μ1 v c1 H1 s1 M1 r1 p1 => ?_)
  cases q : seqOf μ1 d with
  | none => rw [q] at p1; exact p1.elim
  | some l =>
    rw [q] at p1
    obtain ⟨a, vs, rfl, h4, h5⟩ := rep_seq M1 r1 q
    have hK1 : c1.K = X.K := s1.K.trans hK
    rw [hK1] at h4
    exact ⟨a, vs, rfl, h4, fun q2 hq => p1.lay M1 h5 hq⟩

/-! ### the frame's own list -/
theorem FrR.setOwn {B : Bs} {c c' : Ct} {H H' : Hp} {σ : St} {ρ : Env} {μ μ' : Mu} {i : Nat} {a : Addr} {o : OwnC} (f : FrR B c H σ ρ μ) (s : Stp c c' H H') (hn : H a = none) (M : MRel ⟨c'.K, c'.cs, a :: c'.br⟩ H' μ')
    (hc : a ∉ c'.cs) (r : OAt ⟨c'.K, c'.cs, a :: c'.br⟩ H' a o) : FrR B ⟨c'.K, c'.cs, a :: c'.br⟩ H' (σ.set i (some (.ref a))) (ρ.set i (some (.own o))) μ' := by
  have k := f.ok
  refine ⟨⟨⟨fun j e h => ?_, fun j es h => ?_, fun j j' es es' x ne h h' q => ?_⟩, M, by simp [k.len]⟩, f.stp.trans (s.lessB B.c.br), ?_, fun j es x h q => ?_, f.held.more s hn, f.brH⟩
  · rcases set_get h with ⟨rfl, hl, z⟩ | ⟨ne, z⟩
    · cases z
    · rw [set_other ne]
      obtain ⟨v, h1, h2⟩ := k.e.val j e z
      exact ⟨v, h1, h2.more s hn⟩
  · rcases set_get h with ⟨rfl, hl, z⟩ | ⟨ne, z⟩
    · cases z
      exact ⟨a, set_same (by rw [← k.len]; exact hl), List.mem_cons_self, hc, r⟩
    · rw [set_other ne]
      obtain ⟨b, h1, h2, h3, h4⟩ := k.e.own j es z
      obtain ⟨u, hu, _⟩ := h4.there
      exact ⟨b, h1, List.mem_cons_of_mem _ (by rw [s.br]; exact h2), s.notin h3 hu, h4.more s hn h3⟩
  · rcases set_get h with ⟨rfl, hl, z⟩ | ⟨ne1, z⟩
    · rcases set_get h' with ⟨rfl, hl', z'⟩ | ⟨ne2, z'⟩
      · exact absurd rfl ne
      · rw [set_same (by rw [← k.len]; exact hl)] at q
        cases q
        rw [set_other ne2]
        intro q2
        obtain ⟨b, h1, _, _, h4⟩ := k.e.own j' es' z'
        rw [h1] at q2
        cases q2
        obtain ⟨u, h4, _⟩ := h4.there
        rw [hn] at h4
        cases h4
    · rcases set_get h' with ⟨rfl, hl', z'⟩ | ⟨ne2, z'⟩
      · rw [set_other ne1] at q
        rw [set_same (by rw [← k.len]; exact hl')]
        intro q2
        cases q2
        obtain ⟨b, h1, _, _, h4⟩ := k.e.own j es z
        rw [h1] at q
        cases q
        obtain ⟨u, h4, _⟩ := h4.there
        rw [hn] at h4
        cases h4
      · rw [set_other ne1] at q
        rw [set_other ne2]
        exact k.e.apart j j' es es' x ne z z' q
  · obtain ⟨more, e⟩ := f.br
    exact ⟨a :: more, by show a :: c'.br = _; rw [s.br, e]; rfl⟩
  · rcases set_get h with ⟨rfl, hl, z⟩ | ⟨ne, z⟩
    · rw [set_same (by rw [← k.len]; exact hl)] at q
      cases q
      cases e : B.H a with
      | none => rfl
      | some o =>
        obtain ⟨o', e'⟩ := f.stp.there a o e
        rw [hn] at e'
        cases e'
    · rw [set_other ne] at q
      exact f.own0 j es x z q
theorem FrR.setN {B : Bs} {c c' : Ct} {H H' : Hp} {σ : St} {ρ : Env} {μ μ' : Mu} {i : Nat} {a : Addr} {vs : List V} {ds : List D} (f : FrR B c H σ ρ μ) (s : Stp c c' H H') (hn : H a = none) (M : MRel ⟨c'.K, c'.cs, a :: c'.br⟩ H' μ')
    (ha : H' a = some (.lst vs)) (hc : a ∉ c'.cs) (r : Reps ⟨c'.K, c'.cs, a :: c'.br⟩ H' vs ds) : FrR B ⟨c'.K, c'.cs, a :: c'.br⟩ H' (σ.set i (some (.ref a))) (ρ.set i (some (.own (.lst ds)))) μ' :=
  f.setOwn s hn M hc ⟨vs, ha, r⟩
def sSetN (i : Nat) (m : SN) : SS := fun ρ μ => (m ρ μ).go ρ fun ds μ1 => .nx (ρ.set i (some (.own (.lst ds)))) μ1
theorem psd_setN {i : Nat} {x : Str} {pos' : Pos} (hN : X.N.Nodup) (h : PDN X W e mn) (hi : X.N[i]? = some x := by rfl) (hx : Loc X.env.scope x := by first | exact Or.inl rfl | exact Or.inr rfl) (hs : swapsWith e (some (.Name x pos')) pos.line X.env = pure false := by rfl)
    (hf : X.fn x = true ∨ X.env.scope.names.lookup x = some .local := by first | exact .inl rfl | exact .inr rfl | assumption) : PSD X W (.Assign [.Name x pos'] e pos) (sSetN i mn) := by
  obtain ⟨t, h1, h2⟩ := h
  refine ⟨_, ps_set hN hi hx h1 hs hf, fun B c H σ ρ μ hK f D p => ?_⟩
  refine h2 c H σ ρ μ hK f.ok _ ?_
  unfold sSetN at p
  cases q : mn ρ μ with
  | ok ds m =>
    rw [q] at p
    exact fun a vs c' H' s hn M ha hc r => p _ H' _ (f.setN s hn M ha hc r)
  | exn y fs m =>
    rw [q] at p
    exact fun cls dd c' H' s M r => p c' H' σ cls dd (f.step s M) r
  | stuck => rw [q] at p; exact p
mutual
/-- it is rewritten: others stand -/
theorem Rep.other {c : Ct} {H : Hp} {a : Addr} {o : HO} (hb : a ∈ c.br) (ha : ∃ u, H a = some u ∧ isOwnO u) : ∀ {v : V} {d : D}, Rep c H v d → Rep c (upd H a o) v d
  | _, _, .non => .non
  | _, _, .bl b => .bl b
  | _, _, .int i => .int i
  | _, _, .str x => .str x
  | _, _, .ty n => .ty n
  | _, _, .tup h1 h2 h3 => .tup h1 (by
      rw [upd_ne (fun e => by obtain ⟨u, hu, iu⟩ := ha; rw [e, hu] at h2; cases h2; exact iu)]
      exact h2) (Reps.other hb ha h3)
  | _, _, .lst h1 h0 h2 h3 => .lst h1 h0 (by
      rw [upd_ne (fun e => h0 (by rw [e]; exact hb))]
      exact h2) (Reps.other hb ha h3)
  | _, _, .dK h1 h0 h2 h3 h4 => .dK h1 h0 (by
      rw [upd_ne (fun e => h0 (by rw [e]; exact hb))]
      exact h2) h3 (Reps.other hb ha h4)
  | _, _, .dT h1 h0 h2 h3 h4 => .dT h1 h0 (by
      rw [upd_ne (fun e => h0 (by rw [e]; exact hb))]
      exact h2) h3 (Reps.other hb ha h4)
  | _, _, .scr h1 h2 => .scr h1 (by
      rw [upd_ne (fun e => by obtain ⟨u, hu, iu⟩ := ha; rw [e, hu] at h2; cases h2; exact iu)]
      exact h2)
  | _, _, .scrK h => .scrK h
  | _, _, .cell h => .cell h
  | _, _, .fn h hf => .fn h hf
  | _, _, .lam h1 h2 h3 h4 => .lam h1 h2 (by
      rw [upd_ne (fun e => by obtain ⟨u, hu, iu⟩ := ha; rw [e, hu] at h3; unfold LamO at h3; cases h3; exact iu)]
      exact h3) (by
      rw [upd_ne (fun e => by obtain ⟨u, hu, iu⟩ := ha; rw [e, hu] at h4; unfold LamX.CodeO at h4; cases h4; exact iu)]
      exact h4)
theorem Reps.other {c : Ct} {H : Hp} {a : Addr} {o : HO} (hb : a ∈ c.br) (ha : ∃ u, H a = some u ∧ isOwnO u) : ∀ {vs : List V} {ds : List D}, Reps c H vs ds → Reps c (upd H a o) vs ds
  | _, _, .nil => .nil
  | _, _, .cons h t => .cons (Rep.other hb ha h) (Reps.other hb ha t)
end
theorem OAt.other {c : Ct} {H : Hp} {a b : Addr} {u : HO} {o : OwnC} (hb : a ∈ c.br) (ha : ∃ u, H a = some u ∧ isOwnO u) (ne : b ≠ a) (k : OAt c H b o) : OAt c (upd H a u) b o := by
  cases o with
  | lst ds =>
    obtain ⟨vs, e, r⟩ := k
    exact ⟨vs, by rw [upd_ne ne]; exact e, r.other hb ha⟩
  | dic ks vs =>
    rcases k with ⟨kvs, e, q, r⟩ | ⟨kvs, e, q, r⟩
    · exact .inl ⟨kvs, by rw [upd_ne ne]; exact e, q, r.other hb ha⟩
    · exact .inr ⟨kvs, by rw [upd_ne ne]; exact e, q, r.other hb ha⟩
theorem tabS_own {H : Hp} {P p : Addr} {q : Str} {o : HO} (hp : ∃ u, H p = some u ∧ isOwnO u) (t : LamX.TabS H P q) : LamX.TabS (upd H p o) P q := by
  obtain ⟨ps, h1, h2, h3⟩ := t
  obtain ⟨u, hu, iu⟩ := hp
  refine ⟨ps, by rw [upd_ne (fun e => by rw [e, hu] at h1; cases h1; exact iu)]; exact h1, h2, fun pos cv hc => ?_⟩
  obtain ⟨c, e1, e2⟩ := h3 pos cv hc
  exact ⟨c, e1, by rw [upd_ne (fun e => by rw [e, hu] at e2; unfold LamX.CodeO at e2; cases e2; exact iu)]; exact e2⟩
theorem FrR.putOwn {B : Bs} {c : Ct} {H : Hp} {σ : St} {ρ : Env} {μ : Mu} {i : Nat} {a : Addr} {u : HO} {es ds : OwnC} (f : FrR B c H σ ρ μ) (hi : ρ[i]? = some (some (.own es))) (ha : σ[i]? = some (some (.ref a))) (hb : a ∈ c.br) (hc : a ∉ c.cs)
    (hw : ∃ u, H a = some u ∧ isOwnO u) (r : OAt c (upd H a u) a ds) : FrR B c (upd H a u) σ (ρ.set i (some (.own ds))) μ := by
  have k := f.ok
  have hl : i < ρ.length := (List.getElem?_eq_some_iff.mp hi).1
  have ne0 : ∀ {x : Addr} {o : HO}, B.H x = some o → x ≠ a := by
    intro x o ho e
    rw [e, f.own0 i es a hi ha] at ho
    cases ho
  refine ⟨⟨⟨fun j e h => ?_, fun j es' h => ?_, fun j j' es1 es2 x ne h h' q => ?_⟩, ⟨k.m.len, k.m.nd, fun n b es' e1 e2 => ?_, fun b hb' => ?_, fun p hp => tabS_own hw (k.m.tabs p hp), fun p hp => (k.m.held p hp).other hb hw⟩, by simp [k.len]⟩, ⟨f.stp.K, rfl, f.stp.cs, fun x o h hx ht => ?_, fun x o h => ?_, fun t q hq => tabS_own hw (f.stp.tbs t q hq)⟩, f.br, fun j es' x h q => ?_, f.held.other hb hw, f.brH⟩
  · rcases set_get h with ⟨rfl, _, z⟩ | ⟨ne, z⟩
    · cases z
    · obtain ⟨v, h1, h2⟩ := k.e.val j e z
      exact ⟨v, h1, h2.other hb hw⟩
  · rcases set_get h with ⟨rfl, _, z⟩ | ⟨ne, z⟩
    · cases z
      exact ⟨a, ha, hb, hc, r⟩
    · obtain ⟨b, h1, h2, h3, h4⟩ := k.e.own j es' z
      have nb : b ≠ a := by
        intro e
        rw [e] at h1
        exact k.e.apart i j es es' a ne hi z ha h1
      exact ⟨b, h1, h2, h3, h4.other hb hw nb⟩
  · rcases set_get h with ⟨rfl, _, z⟩ | ⟨ne1, z⟩
    · rcases set_get h' with ⟨rfl, _, z'⟩ | ⟨ne2, z'⟩
      · exact absurd rfl ne
      · exact k.e.apart i j' es es2 x ne2 hi z' q
    · rcases set_get h' with ⟨rfl, _, z'⟩ | ⟨ne2, z'⟩
      · exact k.e.apart j i es1 es x (fun e => ne1 e.symm) z hi q
      · exact k.e.apart j j' es1 es2 x ne z z' q
  · obtain ⟨h1, ws', h2, h3⟩ := k.m.at_ n b es' e1 e2
    exact ⟨h1, ws', by rw [upd_ne (fun e => h1 (by rw [e]; exact hb))]; exact h2, h3.other hb hw⟩
  · by_cases e : b = a
    · exact ⟨_, by rw [e]; exact upd_same⟩
    · obtain ⟨o, ho⟩ := k.m.br b hb'
      exact ⟨o, by rw [upd_ne e]; exact ho⟩
  · rw [upd_ne (ne0 h)]
    exact f.stp.keep x o h hx ht
  · rw [upd_ne (ne0 h)]
    exact f.stp.there x o h
  · rcases set_get h with ⟨rfl, _, z⟩ | ⟨ne, z⟩
    · exact f.own0 i es x hi q
    · exact f.own0 j es' x z q
theorem FrR.put {B : Bs} {c : Ct} {H : Hp} {σ : St} {ρ : Env} {μ : Mu} {i : Nat} {a : Addr} {ws vs : List V} {es ds : List D} (f : FrR B c H σ ρ μ) (hi : ρ[i]? = some (some (.own (.lst es)))) (ha : σ[i]? = some (some (.ref a))) (hb : a ∈ c.br) (hc : a ∉ c.cs)
    (hw : H a = some (.lst ws)) (r : Reps c H vs ds) : FrR B c (upd H a (.lst vs)) σ (ρ.set i (some (.own (.lst ds)))) μ :=
  f.putOwn hi ha hb hc ⟨_, hw, trivial⟩ ⟨vs, upd_same, r.other hb ⟨_, hw, trivial⟩⟩
/-- it is frozen from now on -/
theorem FrR.frz {B : Bs} {c : Ct} {H : Hp} {σ : St} {ρ : Env} {μ : Mu} {i : Nat} {es : OwnC} (f : FrR B c H σ ρ μ) (hi : ρ[i]? = some (some (.own es))) : ∃ c', c'.K = c.K ∧ FrR B c' H σ (ρ.set i (some (.val es.val))) μ := by
  have k := f.ok
  obtain ⟨a, ha, hb, hc, r⟩ := k.e.own i es hi
  obtain ⟨more, em⟩ := f.br
  have h0 := f.own0 i es a hi ha
  have hB : a ∉ B.c.br := by
    intro z
    obtain ⟨o, ho⟩ := f.brH a z
    rw [h0] at ho
    cases ho
  have hl : i < ρ.length := (List.getElem?_eq_some_iff.mp hi).1
  have sub : ∀ x ∈ (more.filter fun x => x != a) ++ B.c.br, x ∈ c.br := by
    intro x hx
    rw [em]
    rcases List.mem_append.mp hx with z | z
    · exact List.mem_append_left _ (List.mem_filter.mp z).1
    · exact List.mem_append_right _ z
  have na : a ∉ (more.filter fun x => x != a) ++ B.c.br := by
    intro hx
    rcases List.mem_append.mp hx with z | z
    · have := (List.mem_filter.mp z).2
      simp at this
    · exact hB z
  refine ⟨⟨c.K, c.cs, (more.filter fun x => x != a) ++ B.c.br⟩, rfl, ⟨⟨fun j e h => ?_, fun j es' h => ?_, fun j j' es1 es2 x ne h h' q => ?_⟩, k.m.lessB sub, by simp [k.len]⟩, f.stp, ⟨_, rfl⟩, fun j es' x h q => ?_, f.held.lessB sub, f.brH⟩
  · rcases set_get h with ⟨rfl, _, z⟩ | ⟨ne, z⟩
    · cases z
      exact ⟨_, ha, r.rep sub hc na⟩
    · obtain ⟨v, h1, h2⟩ := k.e.val j e z
      exact ⟨v, h1, h2.lessB sub⟩
  · rcases set_get h with ⟨rfl, _, z⟩ | ⟨ne, z⟩
    · cases z
    · obtain ⟨b, h1, h2, h3, h4⟩ := k.e.own j es' z
      refine ⟨b, h1, ?_, h3, h4.lessB sub⟩
      have nb : b ≠ a := by
        intro e
        rw [e] at h1
        exact k.e.apart i j es es' a ne hi z ha h1
      rw [em] at h2
      show b ∈ (more.filter fun x => x != a) ++ B.c.br
      rcases List.mem_append.mp h2 with y | y
      · exact List.mem_append_left _ (List.mem_filter.mpr ⟨y, by simpa using nb⟩)
      · exact List.mem_append_right _ y
  · rcases set_get h with ⟨rfl, _, z⟩ | ⟨ne1, z⟩
    · cases z
    · rcases set_get h' with ⟨rfl, _, z'⟩ | ⟨ne2, z'⟩
      · cases z'
      · exact k.e.apart j j' es1 es2 x ne z z' q
  · rcases set_get h with ⟨rfl, _, z⟩ | ⟨ne, z⟩
    · cases z
    · exact f.own0 j es' x z q
/-- .. ahead of a statement -/
def sFrz (i : Nat) (m : SS) : SS := fun ρ μ => match ρ[i]? with
  | some (some (.own es)) => m (ρ.set i (some (.val es.val))) μ
  | _ => m ρ μ
theorem psd_frz (i : Nat) {s : Stmt} {m : SS} (h : PSD X W s m) : PSD X W s (sFrz i m) := by
  obtain ⟨t, h1, h2⟩ := h
  refine ⟨t, h1, fun B c H σ ρ μ hK f D p => ?_⟩
  unfold sFrz at p
  cases e : ρ[i]? with
  | none => rw [e] at p; exact h2 B c H σ ρ μ hK f D p
  | some o =>
    cases o with
    | none => rw [e] at p; exact h2 B c H σ ρ μ hK f D p
    | some s =>
      cases s with
      | val d => rw [e] at p; exact h2 B c H σ ρ μ hK f D p
      | own es =>
        rw [e] at p
        obtain ⟨c', e1, f'⟩ := f.frz e
        exact h2 B c' H σ _ μ (e1.trans hK) f' D p
/-- what the slot i holds, if it is the frame's own list -/
def ownAt (ρ : Env) (i : Nat) : Option (List D) := match ρ[i]? with
  | some (some (.own (.lst es))) => some es
  | _ => none
theorem ownAt_ok {ρ : Env} {i : Nat} {es : List D} (h : ownAt ρ i = some es) : ρ[i]? = some (some (.own (.lst es))) := by
  unfold ownAt at h
  split at h
  · rename_i e
    cases h
    exact e
  · cases h
def setO (ρ : Env) (i : Nat) (es : List D) : Env := ρ.set i (some (.own (.lst es)))
/-- x.append(e) -/
def sApp (i : Nat) (m : SE) : SS := fun ρ μ => match ownAt ρ i with
  | some es => (m ρ μ).go ρ fun d μ1 => if es.length < 16777216 then .nx (setO ρ i (es ++ [d])) μ1 else .stuck
  | none => .stuck
theorem psd_app {i : Nat} {x : Str} {p1 p2 p3 : Pos} (ha : PD X W false e ma) (hi : X.N[i]? = some x := by rfl) (hv : Vis X.env.scope x := by first | exact Or.inl rfl | exact Or.inr (Or.inl rfl) | exact Or.inr (Or.inr rfl))
    (hd : (x == ("__debug__" : Str)) = false := by decide) (hcd : (x == ("__classdict__" : Str)) = false := by decide)
    (hbase : attributeBase (.Name x p1) "append" X.env (eval (.Name x p1) X.env) = eval (.Name x p1) X.env := by rfl)
    (hfew : ((backTo p3 (starEach (e :: []) X.env)).all (fun x => !x.1) && (backToKw p3 (keywordEach [] X.env)).all (fun x => x.1.isSome)
      && decide ((e :: []).length + ([] : List Keyword).length + (if ([] : List Keyword).isEmpty then 0 else 1) < 30)) = true := by rfl)
    (hline : (p2.endLine == p3.line) = true := by rfl) (hs : starEach (e :: []) X.env = (false, eval e X.env) :: starEach [] X.env := by rfl) (hplain : (backTo p3 (starEach [] X.env)).any (·.1) = false := by rfl)
    (hsw : swapsWith (.Call (.Attribute (.Name x p1) "append" p2) [e] [] p3) none pos.line X.env = pure false := by rfl) :
    PSD X W (.Expr (.Call (.Attribute (.Name x p1) "append" p2) [e] [] p3) pos) (sApp i ma) := by
  obtain ⟨t, h1, h2⟩ := ha
  refine ⟨_, ps_expr (pe_bm PySem.F.plainAttrs_list PySem.F.slot_list_append PySem.F.type_list_append mt_append (pe_var hi hv hd hcd) (pa_cons h1 pa_nil hs) hbase hfew hline hs hplain) hsw, fun B c H σ ρ μ hK f D p => ?_⟩
  unfold sApp at p
  cases eo : ownAt ρ i with
  | none => rw [eo] at p; exact p.elim
  | some es =>
    rw [eo] at p
    have hi' := ownAt_ok eo
    obtain ⟨a, vs, ha, hb, hc, hw, r⟩ := f.ok.e.ownL i es hi'
    refine ⟨_, ha, .inl ⟨rfl, vs, SqL.of hw⟩, ?_⟩
    refine h2 c H σ ρ μ hK f.ok _ (f.go p fun d m v c1 H1 s1 f1 r1 p1 => ?_)
    have hw1 := s1.keep _ _ hw hc (fun _ z => by cases z)
    by_cases hl : es.length < 16777216
    · rw [if_pos hl] at p1
      refine ⟨a, vs, v, rfl, rfl, hw1, by rw [r.length, sizeLine_eq]; exact hl, ?_⟩
      have hb1 : a ∈ c1.br := by rw [s1.br]; exact hb
      exact p1 c1 _ σ (f1.put hi' ha hb1 (s1.notin hc hw) hw1 ((r.step s1).append (.cons r1.rep .nil)))
    · rw [if_neg hl] at p1
      exact p1.elim
/-- x[i] = e of the frame's own list -/
def sPutO (i : Nat) (mi mv : SE) : SS := fun ρ μ => match ownAt ρ i with
  | some es => (mv ρ μ).go ρ fun d μ1 => (mi ρ μ1).go ρ fun k μ2 => (match k with
    | .int j => (match L2.ixN es.length j with
      | some n => .nx (setO ρ i (es.set n d)) μ2
      | none => .stuck)
    | _ => .stuck)
  | none => .stuck
theorem psd_putO {i : Nat} {x : Str} {p1 p2 : Pos} {g : Expr} {mi mv : SE} (hv : PD X W false e mv) (hix : PD X W false g mi) (hi : X.N[i]? = some x := by rfl) (hvis : Vis X.env.scope x := by first | exact Or.inl rfl | exact Or.inr (Or.inl rfl) | exact Or.inr (Or.inr rfl))
    (hd : (x == ("__debug__" : Str)) = false := by decide) (hcd : (x == ("__classdict__" : Str)) = false := by decide)
    (ha : ∀ v, assign (.Subscript (.Name x p1) g p2) X.env v = (do
      let ov ← holding [v] (eval (.Name x p1) X.env)
      let iv ← holding [v, ov] (eval g X.env)
      standAt p2
      holding [v, ov, iv] (setItem ov iv v)
      release [v, ov, iv] []) := by intro _; rfl)
    (hs : swapsWithSole [.Subscript (.Name x p1) g p2] e pos.line X.env = pure false := by rfl) (hw : swappedStores [.Subscript (.Name x p1) g p2] e X.env = pure none := by rfl)
    (h1 : (assignEach [.Subscript (.Name x p1) g p2] X.env).map (·.2) = [assign (.Subscript (.Name x p1) g p2) X.env] := by rfl) :
    PSD X W (.Assign [.Subscript (.Name x p1) g p2] e pos) (sPutO i mi mv) := by
  obtain ⟨tv, v1, v2⟩ := hv
  obtain ⟨ti, i1, i2⟩ := hix
  refine ⟨_, ps_asg v1 (pg_sub (pe_var hi hvis hd hcd) i1 set_list ha) hs hw h1, fun B c H σ ρ μ hK f D p => ?_⟩
  unfold sPutO at p
  cases eo : ownAt ρ i with
  | none => rw [eo] at p; exact p.elim
  | some es =>
    rw [eo] at p
    have hi' := ownAt_ok eo
    obtain ⟨a, vs, ha', hb, hc, hw', r⟩ := f.ok.e.ownL i es hi'
    refine v2 c H σ ρ μ hK f.ok _ (f.go p fun d m v c1 H1 s1 f1 r1 q1 => ?_)
    refine ⟨_, ha', ?_⟩
    refine i2 c1 H1 σ ρ m (s1.K.trans hK) f1.ok _ (f1.go q1 fun k m2 vk c2 H2 s2 f2 r2 q2 => ?_)
    cases k with
    | int j =>
      have q3 : PostS B W (match L2.ixN es.length j with | some n => .nx (setO ρ i (es.set n d)) m2 | none => .stuck) D := q2
      cases e3 : L2.ixN es.length j with
      | none => rw [e3] at q3; exact q3.elim
      | some n =>
        rw [e3] at q3
        have hw1 := s1.keep _ _ hw' hc (fun _ z => by cases z)
        have hc1 := s1.notin hc hw'
        have hw2 := s2.keep _ _ hw1 hc1 (fun _ z => by cases z)
        have hb2 : a ∈ c2.br := by rw [s2.br, s1.br]; exact hb
        refine ⟨a, vs, j, n, rfl, rep_int r2, hw2, by rw [r.length]; exact e3, ?_⟩
        exact q3 c2 _ σ (f2.put hi' ha' hb2 (s2.notin hc1 hw1) hw2 (((r.step s1).step s2).set (r1.rep.step s2) n))
    | _ => exact q2.elim
/-- return x, x the frame's own list -/
def sRetO (i : Nat) : SS := fun ρ μ => match ownAt ρ i with
  | some es => .rt (.lst es) μ
  | none => .stuck
theorem psd_retO {i : Nat} {x : Str} {p1 : Pos} (hi : X.N[i]? = some x := by rfl) (hv : Vis X.env.scope x := by first | exact Or.inl rfl | exact Or.inr (Or.inl rfl) | exact Or.inr (Or.inr rfl))
    (hd : (x == ("__debug__" : Str)) = false := by decide) (hcd : (x == ("__classdict__" : Str)) = false := by decide) : PSD X W (.Return (some (.Name x p1)) pos) (sRetO i) := by
  refine ⟨_, ps_ret (pe_var hi hv hd hcd), fun B c H σ ρ μ hK f D p => ?_⟩
  unfold sRetO at p
  cases eo : ownAt ρ i with
  | none => rw [eo] at p; exact p.elim
  | some es =>
    rw [eo] at p
    have hi' := ownAt_ok eo
    obtain ⟨c', e1, f'⟩ := f.frz hi'
    obtain ⟨v, h1, h2⟩ := f'.ok.e.val i (.lst es) (by rw [List.getElem?_set_self (List.getElem?_eq_some_iff.mp hi').1] <;> rfl)
    exact ⟨v, h1, p H v (f'.fin h2)⟩
end
end DL
/-! # Dm: [e for t in it if ..] -/
namespace DL
open PySem PySem.Spec L2
open PyProof.Rows hiding St
variable [HasL] [HasX] [HasH]
/-! ### readings that are made of what they bear -/
abbrev W0 : WX := fun _ _ _ _ => False
def eOf (K : PySem.W.Frag) (W : WX) (b : Bool) (m : SE) : TE := fun σ H Q => ∃ c ρ μ, c.K = K ∧ Ok c H σ ρ μ ∧ Post b c σ H W (m ρ μ) Q
theorem PD.of {X : Cx} {W : WX} {b : Bool} {e : Expr} {m : SE} (h : PD X W b e m) : PE X e (eOf X.K W b m) := by
  obtain ⟨t, h1, h2⟩ := h
  exact ⟨fun pins s σ H Q I ⟨c, ρ, μ, hK, k, p⟩ => h1.run pins s σ H Q I (h2 c H σ ρ μ hK k Q p)⟩
def tOfD (K : PySem.W.Frag) (W : WX) (m : ST') : TT := fun σ H Q => ∃ c ρ μ, c.K = K ∧ Ok c H σ ρ μ ∧ PostB c σ H W (m ρ μ) Q
theorem PDT.of {X : Cx} {W : WX} {e : Expr} {m : ST'} (h : PDT X W e m) : PT X e (tOfD X.K W m) := by
  obtain ⟨t, h1, h2⟩ := h
  exact ⟨fun pins s σ H Q I ⟨c, ρ, μ, hK, k, p⟩ => h1.run pins s σ H Q I (h2 c H σ ρ μ hK k Q p)⟩
def gOf (K : PySem.W.Frag) (tg : TgD) (is : List Nat) : TG := fun v σ H Q => ∃ (c : Ct) (d : D) (R : St → Env → Prop) (ρ ρ1 : Env), c.K = K ∧ Rep c H v d ∧ (∀ σ ρ i v d, i ∈ is → R σ ρ → Rep c H v d → R (σ.set i (some v)) (setE ρ i d)) ∧ R σ ρ ∧ tg d ρ = some ρ1 ∧ ∀ σ1, R σ1 ρ1 → Q σ1 H
theorem PGD.of {X : Cx} {e : Expr} {tg : TgD} {is : List Nat} (h : PGD X e tg is) : PG X e (gOf X.K tg is) := by
  obtain ⟨g, h1, h2⟩ := h
  exact ⟨fun pins s σ H v u Q I r ⟨c, d, R, ρ, ρ1, hK, rv, cl, f, et, q⟩ => h1.run pins s σ H v u Q I r (h2 c H v d hK rv R cl σ ρ ρ1 f et Q q)⟩
/-- a clause's tests -/
def PDTs (X : Cx) (W : WX) (ifs : List Expr) (m : ST') : Prop := PTs X ifs (tOfD X.K W m)
def mYes : ST' := fun _ μ => .ok true μ
theorem pdts_nil {X : Cx} {W : WX} : PDTs X W [] mYes := ⟨fun pins s σ H Q I ⟨c, ρ, μ, hK, k, p⟩ => pts_nil.run pins s σ H Q I (p true c H (Stp.refl c H) k.m rfl)⟩
theorem pdts_one {X : Cx} {W : WX} {e : Expr} {m : ST'} (h : PDT X W e m) : PDTs X W [e] m := pts_one h.of

/-! ### what it does -/
def wipeE (ρ : Env) : List Nat → Env
  | [] => ρ
  | v :: vs => (wipeE ρ vs).set v none
theorem Ok.unset {c : Ct} {H : Hp} {σ : St} {ρ : Env} {μ : Mu} {i : Nat} (k : Ok c H σ ρ μ) : Ok c H (σ.set i none) (ρ.set i none) μ := by
  refine ⟨⟨fun j e h => ?_, fun j ds h => ?_, fun j j' ds es a ne h h' q => ?_⟩, k.m, by simp [k.len]⟩
  · rcases set_get h with ⟨rfl, hl, q⟩ | ⟨ne, q⟩
    · cases q
    · rw [set_other ne]
      exact k.e.val j e q
  · rcases set_get h with ⟨rfl, hl, q⟩ | ⟨ne, q⟩
    · cases q
    · rw [set_other ne]
      exact k.e.own j ds q
  · rcases set_get h with ⟨rfl, hl, z⟩ | ⟨ne1, z⟩
    · cases z
    · rcases set_get h' with ⟨rfl, hl', z'⟩ | ⟨ne2, z'⟩
      · cases z'
      · rw [set_other ne1] at q
        rw [set_other ne2]
        exact k.e.apart j j' ds es a ne z z' q
theorem Ok.wipe {c : Ct} {H : Hp} {σ : St} {ρ : Env} {μ : Mu} (k : Ok c H σ ρ μ) : ∀ vs : List Nat, Ok c H (L2.wipe σ vs) (wipeE ρ vs) μ
  | [] => k
  | v :: vs => (Ok.wipe k vs).unset
theorem wipe_at {σ : St} {i : Nat} : ∀ {vs : List Nat}, i ∈ vs → ∀ v, L2.wipe (σ.set i v) vs = L2.wipe σ vs
  | [], h, _ => by simp at h
  | j :: vs, h, v => by
    by_cases e : i = j
    · subst e
      by_cases h2 : i ∈ vs
      · show (L2.wipe (σ.set i v) vs).set i none = _
        rw [wipe_at h2 v]
        rfl
      · have z : ∀ {us : List Nat}, i ∉ us → L2.wipe (σ.set i v) us = (L2.wipe σ us).set i v := by
          intro us
          induction us with
          | nil => intro _; rfl
          | cons k us ih =>
            intro hk
            have h3 : i ≠ k ∧ i ∉ us := ⟨fun e => hk (by rw [e]; exact List.mem_cons_self), fun e => hk (List.mem_cons_of_mem _ e)⟩
            show (L2.wipe (σ.set i v) us).set k none = ((L2.wipe σ us).set k none).set i v
            rw [ih h3.2, List.set_comm _ _ (fun e => h3.1 e)]
        show (L2.wipe (σ.set i v) vs).set i none = (L2.wipe σ vs).set i none
        rw [z h2, List.set_set]
    · have h2 : i ∈ vs := by
        rcases List.mem_cons.mp h with z | z
        · exact absurd z e
        · exact z
      show (L2.wipe (σ.set i v) vs).set j none = (L2.wipe σ vs).set j none
      rw [wipe_at h2 v]
theorem wipe_sub {σ : St} {vs : List Nat} : ∀ us : List Nat, (∀ i ∈ us, i ∈ vs) → L2.wipe (L2.wipe σ us) vs = L2.wipe σ vs
  | [], _ => rfl
  | u :: us, h => by
    show L2.wipe ((L2.wipe σ us).set u none) vs = _
    rw [wipe_at (h u List.mem_cons_self) none, wipe_sub us fun i hi => h i (List.mem_cons_of_mem _ hi)]
/-- turn by turn -/
def compL (tg : TgD) (mt : ST') (me : SE) (ρ0 : Env) : List D → List D → Mu → Out (List D)
  | [], acc, μ => .ok acc μ
  | d :: r, acc, μ => match tg d ρ0 with
    | none => .stuck
    | some ρ1 => (match mt ρ1 μ with
      | .ok true μ1 => (match me ρ1 μ1 with
        | .ok x μ2 => if acc.length < 16777216 then compL tg mt me ρ0 r (acc ++ [x]) μ2 else .stuck
        | _ => .stuck)
      | .ok false μ1 => compL tg mt me ρ0 r acc μ1
      | _ => .stuck)
def nComp (mi : SI) (tg : TgD) (mt : ST') (me : SE) (vs : List Nat) : SN := fun ρ μ => (mi ρ μ).bnd fun ds μ1 => compL tg mt me (wipeE ρ vs) ds [] μ1
theorem Ok.br {c : Ct} {H : Hp} {σ : St} {ρ : Env} {μ : Mu} {D : Addr} {vs : List V} (k : Ok c H σ ρ μ) (hn : H D = none) : Ok ⟨c.K, c.cs, D :: c.br⟩ (upd H D (.lst vs)) σ ρ μ := by
  have st : Stp c c H (upd H D (.lst vs)) := Stp.same (same_upd hn)
  refine ⟨⟨fun i d h => ?_, fun i l h => ?_, k.e.apart⟩, ⟨k.m.len, k.m.nd, fun n b es e1 e2 => ?_, fun b hb => ?_, (show LamX.Tabs HasX.x.tb (upd H D (.lst vs)) from tabs_step st k.m.tabs), fun p hp => (k.m.held p hp).more st hn⟩, k.len⟩
  · obtain ⟨v, h1, h2⟩ := k.e.val i d h
    exact ⟨v, h1, h2.more st hn⟩
  · obtain ⟨b, h1, h2, h3, h4⟩ := k.e.own i l h
    exact ⟨b, h1, List.mem_cons_of_mem _ h2, h3, h4.more st hn h3⟩
  · obtain ⟨h1, ws, h2, h3⟩ := k.m.at_ n b es e1 e2
    refine ⟨fun z => ?_, ws, same_upd hn b _ h2, h3.more st hn⟩
    rcases List.mem_cons.mp z with z | z
    · rw [z, hn] at h2
      cases h2
    · exact h1 z
  · rcases List.mem_cons.mp hb with z | z
    · exact ⟨_, by rw [z]; exact upd_same⟩
    · obtain ⟨o, ho⟩ := k.m.br b z
      exact ⟨o, same_upd hn b _ ho⟩
/-- the list that is being made grows -/
theorem Ok.grow {c : Ct} {H : Hp} {σ : St} {ρ : Env} {μ : Mu} {D : Addr} {xs vs : List V} (k : Ok c H σ ρ μ) (hb : D ∈ c.br) (hD : H D = some (.lst xs)) (no : ∀ (i : Nat) (es : OwnC), ρ[i]? = some (some (Slot.own es)) → σ[i]? ≠ some (some (V.ref D))) : Ok c (upd H D (.lst vs)) σ ρ μ := by
  refine ⟨⟨fun i d h => ?_, fun i l h => ?_, k.e.apart⟩, ⟨k.m.len, k.m.nd, fun n b es e1 e2 => ?_, fun b hb' => ?_, fun p hp => tabS_upd (fun u hu => by rw [hD] at hu; cases hu; exact ⟨xs, rfl⟩) (k.m.tabs p hp), fun p hp => (k.m.held p hp).other hb ⟨_, hD, trivial⟩⟩, k.len⟩
  · obtain ⟨v, h1, h2⟩ := k.e.val i d h
    exact ⟨v, h1, h2.other hb ⟨_, hD, trivial⟩⟩
  · obtain ⟨b, h1, h2, h3, h4⟩ := k.e.own i l h
    have nb : b ≠ D := by
      intro e
      rw [e] at h1
      exact no i l h h1
    exact ⟨b, h1, h2, h3, h4.other hb ⟨_, hD, trivial⟩ nb⟩
  · obtain ⟨h1, ws, h2, h3⟩ := k.m.at_ n b es e1 e2
    exact ⟨h1, ws, by rw [upd_ne (fun e => h1 (by rw [e]; exact hb))]; exact h2, h3.other hb ⟨_, hD, trivial⟩⟩
  · by_cases e : b = D
    · exact ⟨_, by rw [e]; exact upd_same⟩
    · obtain ⟨o, ho⟩ := k.m.br b hb'
      exact ⟨o, by rw [upd_ne e]; exact ho⟩
section
variable {X : Cx} {W : WX} {elt tg iter : Expr} {ifs : List Expr} {scope : Scope} {own : List (Str × Nat)} {pos : Pos} {mi : SI} {tgd : TgD} {is : List Nat} {mt : ST'} {me : SE}
theorem sim_comp {K : PySem.W.Frag} {wi : TI} {vs : List Nat} (h1 : SimI K W wi mi) (his : ∀ i ∈ is, i ∈ vs) : SimN K W (tLc wi (gOf K tgd is) (tOfD K W0 mt) (eOf K W0 false me) vs) (nComp mi tgd mt me vs) := by
  intro c H σ ρ μ hK k Q p
  refine h1 c H σ ρ μ hK k _ (PostN.bnd p fun ds μ1 J c1 H1 s1 M1 r p1 => ?_)
  obtain ⟨hv, hd, hl, rh⟩ := r
  have wk := hl.wlk
  intro D hD
  have k1 : Ok c1 H1 (L2.wipe σ vs) (wipeE ρ vs) μ1 := (k.step s1 M1).wipe vs
  have st0 : Stp c1 c1 H1 (upd H1 D (.lst [])) := Stp.same (same_upd hD)
  have noD : ∀ (i : Nat) (es : OwnC), (wipeE ρ vs)[i]? = some (some (Slot.own es)) → (L2.wipe σ vs)[i]? ≠ some (some (V.ref D)) := by
    intro i es h q
    obtain ⟨b, h1, _, _, h4⟩ := k1.e.own i es h
    rw [h1] at q
    cases q
    obtain ⟨u, h4, _⟩ := h4.there
    rw [hD] at h4
    cases h4
  refine ⟨fun i m H' => m + i = ds.length ∧ ∃ c' μ' xs acc, Stp c1 c' H1 H' ∧ Ok ⟨c'.K, c'.cs, D :: c'.br⟩ H' (L2.wipe σ vs) (wipeE ρ vs) μ' ∧ H' D = some (.lst xs) ∧ D ∉ c'.cs ∧ Reps ⟨c'.K, c'.cs, D :: c'.br⟩ H' xs acc ∧ Reps ⟨c'.K, c'.cs, D :: c'.br⟩ H' hv hd ∧ PostN c1 σ H1 W (compL tgd mt me (wipeE ρ vs) (ds.drop i) acc μ') Q,
    ⟨ds.length, by omega, c1, μ1, [], [], st0, k1.br hD, upd_same, fresh_cs M1 hD, .nil, rh.more st0 hD, p1⟩, ?_⟩
  rintro i m H' ⟨em, c', μ', xs, acc, s', k', hD', hc', ra, rh', p'⟩
  by_cases hi : i < ds.length
  · have hKc : (⟨c'.K, c'.cs, D :: c'.br⟩ : Ct).K = K := s'.K.trans (s1.K.trans hK)
    refine .inr ⟨wk.go i _ H' hKc hi rh', fun H2 => ∃ c2 μ2 xs2 acc2, Stp c1 c2 H1 H2 ∧ Ok ⟨c2.K, c2.cs, D :: c2.br⟩ H2 (L2.wipe σ vs) (wipeE ρ vs) μ2 ∧ H2 D = some (.lst xs2) ∧ D ∉ c2.cs ∧ Reps ⟨c2.K, c2.cs, D :: c2.br⟩ H2 xs2 acc2 ∧ Reps ⟨c2.K, c2.cs, D :: c2.br⟩ H2 hv hd ∧ PostN c1 σ H1 W (compL tgd mt me (wipeE ρ vs) (ds.drop (i + 1)) acc2 μ2) Q,
      fun H2 h2 => ⟨m - 1, by omega, by omega, h2⟩, fun x H2 y => ?_⟩
    obtain ⟨sm, d, hd', rd⟩ := wk.yld i _ H' x H2 μ' hKc k'.m rh' hi y
    have e1 : ds.drop i = d :: ds.drop (i + 1) := by
      obtain ⟨hl2, q⟩ := List.getElem?_eq_some_iff.mp hd'
      rw [← q]
      exact (List.drop_eq_getElem_cons hl2)
    rw [e1] at p'
    have sm' : Stp c' c' H' H2 := Stp.same sm
    have smD : Stp ⟨c'.K, c'.cs, D :: c'.br⟩ ⟨c'.K, c'.cs, D :: c'.br⟩ H' H2 := Stp.same sm
    have k2 : Ok ⟨c'.K, c'.cs, D :: c'.br⟩ H2 (L2.wipe σ vs) (wipeE ρ vs) μ' := k'.step smD (k'.m.same sm)
    have hK2 : (⟨c'.K, c'.cs, D :: c'.br⟩ : Ct).K = K := s'.K.trans (s1.K.trans hK)
    have p2 : PostN c1 σ H1 W (match tgd d (wipeE ρ vs) with
      | none => .stuck
      | some ρ1 => (match mt ρ1 μ' with
        | .ok true μ1 => (match me ρ1 μ1 with
          | .ok x μ2 => if acc.length < 16777216 then compL tgd mt me (wipeE ρ vs) (ds.drop (i + 1)) (acc ++ [x]) μ2 else .stuck
          | _ => .stuck)
        | .ok false μ1 => compL tgd mt me (wipeE ρ vs) (ds.drop (i + 1)) acc μ1
        | _ => .stuck)) Q := p'
    cases et : tgd d (wipeE ρ vs) with
    | none => rw [et] at p2; exact p2.elim
    | some ρ1 =>
      rw [et] at p2
      refine ⟨⟨c'.K, c'.cs, D :: c'.br⟩, d, fun σ' ρ' => Ok ⟨c'.K, c'.cs, D :: c'.br⟩ H2 σ' ρ' μ' ∧ L2.wipe σ' vs = L2.wipe σ vs, wipeE ρ vs, ρ1, hK2, rd, ?_, ⟨k2, wipe_sub vs fun _ h => h⟩, et, ?_⟩
      · rintro σ' ρ' j v dd hj ⟨f1, f2⟩ rv
        exact ⟨f1.setv rv, by rw [wipe_at (his j hj)]; exact f2⟩
      · rintro σ2 ⟨f1, f2⟩
        refine ⟨f2, ⟨c'.K, c'.cs, D :: c'.br⟩, ρ1, μ', hK2, f1, ?_⟩
        cases em1 : mt ρ1 μ' with
        | stuck =>
          simp only [em1] at p2
          exact p2.elim
        | exn y fs m2 =>
          simp only [em1] at p2
          exact p2.elim
        | ok bb μ2 =>
          simp only [em1] at p2
          rintro b c3 H3 s3 M3 rfl
          have st3 : Stp c' ⟨c3.K, c3.cs, c'.br⟩ H2 H3 := ⟨s3.K, rfl, s3.cs, s3.keep, s3.there, s3.tbs⟩
          have ec3 : c3 = ⟨c3.K, c3.cs, D :: c'.br⟩ := by
            obtain ⟨k3, cs3, br3⟩ := c3
            have : br3 = D :: c'.br := s3.br
            rw [this]
          have sT : Stp c1 ⟨c3.K, c3.cs, c'.br⟩ H1 H3 := (s'.trans sm').trans st3
          have hD2 : H2 D = some (.lst xs) := sm D _ hD'
          have hD3 : H3 D = some (.lst xs) := s3.keep D _ hD2 hc' (fun _ z => by cases z)
          have hc3 : D ∉ c3.cs := s3.notin hc' hD2
          have kW : Ok c3 H3 (L2.wipe σ vs) (wipeE ρ vs) μ2 := k2.step s3 M3
          cases b with
          | false =>
            rw [if_neg Bool.false_ne_true]
            simp only at p2
            refine ⟨⟨c3.K, c3.cs, c'.br⟩, μ2, xs, acc, sT, ?_, hD3, hc3, ?_, ?_, p2⟩
            · rw [ec3] at kW; exact kW
            · have := (ra.step smD).step s3
              rw [ec3] at this; exact this
            · have := (rh'.step smD).step s3
              rw [ec3] at this; exact this
          | true =>
            rw [if_pos rfl]
            simp only at p2
            refine ⟨c3, ρ1, μ2, s3.K.trans hK2, f1.step s3 M3, ?_⟩
            cases em2 : me ρ1 μ2 with
            | stuck => simp only [em2] at p2; exact p2.elim
            | exn y fs m3 => simp only [em2] at p2; exact p2.elim
            | ok dx μ3 =>
              simp only [em2] at p2
              intro v c4 H4 s4 M4 r4
              have ec4 : c4 = ⟨c4.K, c4.cs, D :: c'.br⟩ := by
                obtain ⟨k4, cs4, br4⟩ := c4
                have : br4 = D :: c'.br := s4.br.trans s3.br
                rw [this]
              have st4 : Stp ⟨c3.K, c3.cs, c'.br⟩ ⟨c4.K, c4.cs, c'.br⟩ H3 H4 := ⟨s4.K, rfl, s4.cs, s4.keep, s4.there, s4.tbs⟩
              have hD4 : H4 D = some (.lst xs) := s4.keep D _ hD3 hc3 (fun _ z => by cases z)
              have hc4 : D ∉ c4.cs := s4.notin hc3 hD3
              have hb4 : D ∈ c4.br := by rw [ec4]; exact List.mem_cons_self
              have ra4 := ((ra.step smD).step s3).step s4
              have rh4 := ((rh'.step smD).step s3).step s4
              by_cases hz : acc.length < 16777216
              · rw [if_pos hz] at p2
                refine ⟨xs, hD4, by rw [ra.length, sizeLine_eq]; exact hz, ⟨c4.K, c4.cs, c'.br⟩, μ3, xs ++ [v], acc ++ [dx], ?_, ?_, upd_same, hc4, ?_, ?_, p2⟩
                · have s5 : Stp c1 ⟨c4.K, c4.cs, c'.br⟩ H1 H4 := sT.trans st4
                  refine ⟨s5.K, s5.br, s5.cs, fun a o h hn ht => ?_, fun a o h => ?_, fun t q hq => tabS_upd (fun u hu => by rw [hD4] at hu; cases hu; exact ⟨xs, rfl⟩) (s5.tbs t q hq)⟩
                  · rw [upd_ne (ne_of_none h hD)]
                    exact s5.keep a o h hn ht
                  · rw [upd_ne (ne_of_none h hD)]
                    exact s5.there a o h
                · have kW4 := (kW.step s4 M4).grow (vs := xs ++ [v]) hb4 hD4 noD
                  rw [ec4] at kW4; exact kW4
                · have := (ra4.append (.cons r4.rep .nil)).other (o := .lst (xs ++ [v])) hb4 ⟨_, hD4, trivial⟩
                  rw [ec4] at this; exact this
                · have := rh4.other (o := .lst (xs ++ [v])) hb4 ⟨_, hD4, trivial⟩
                  rw [ec4] at this; exact this
              · rw [if_neg hz] at p2
                exact p2.elim
  · have e : i = ds.length := by omega
    subst e
    rw [List.drop_length] at p'
    refine .inl ⟨wk.stop _ H' (show (⟨c'.K, c'.cs, D :: c'.br⟩ : Ct).K = K from s'.K.trans (s1.K.trans hK)) rh', ?_⟩
    exact p' D xs c' H' s' hD k'.m hD' hc' ra
/-- as a new list -/
theorem pdn_comp (hc : X.calm = true) (hN : X.N.Nodup) (hi : PID X W tg iter mi) (ok : blkC X.N X.env.scope scope own = true)
    (hg : ∀ (s : Shared) (H : Hp) (C : Addr) (cl : List (Str × Addr)) (fp : List Addr), PGD (X.blk s H scope (compEnvC scope cl C X.env) fp) tg tgd is)
    (ht : ∀ (s : Shared) (H : Hp) (C : Addr) (cl : List (Str × Addr)) (fp : List Addr), PDTs (X.blk s H scope (compEnvC scope cl C X.env) fp) W0 ifs mt)
    (he : ∀ (s : Shared) (H : Hp) (C : Addr) (cl : List (Str × Addr)) (fp : List Addr), PD (X.blk s H scope (compEnvC scope cl C X.env) fp) W0 false elt me)
    (his : (is.all fun i => decide (i ∈ own.map (·.2))) = true) (hs : ∀ x, foldedSetIterable iter X.env x = pure x := by intro _; rfl) :
    PDN X W (.ListComp elt [⟨tg, iter, ifs, 0⟩] scope pos) (nComp mi tgd mt me (own.map (·.2))) := by
  obtain ⟨wi, i1, i2⟩ := hi
  refine ⟨_, pe_lc hc hN i1 (blkOk_by ok) (fun s H C cl fp => (hg s H C cl fp).of) (fun s H C cl fp => (show PTs _ ifs (tOfD X.K W0 mt) from ht s H C cl fp)) (fun s H C cl fp => (he s H C cl fp).of) hs, sim_comp i2 fun i hi => ?_⟩
  exact of_decide_eq_true (List.all_eq_true.mp his i hi)
end
end DL
/-! # Di: what is walked: a list or a tuple, enumerate of one -/
namespace PySem
open AutoSeq1 (wpAny_loadPart')
/-- enumerate of a tuple -/
theorem enumNewT (l : Addr) (items : Array Value) (n : Nat) (dct : Option Addr) (sl : Array (Option Value)) :
    Meets (Builtin.«enumerate.__new__» ⟨[.type "enumerate", .ref l], []⟩) (fun _ R s => s.heap.get? l = some { cls := .type "tuple", dict := dct, data := .seq items n, slots := sl } ∧
      R (.ok (.ret (.ref (s.heap.push { cls := .type "tuple_iterator", data := .fields #[.ref l, .int 0 0] }).objs.size)))
        { s with heap := (s.heap.push { cls := .type "tuple_iterator", data := .fields #[.ref l, .int 0 0] }).push { cls := .type "enumerate", data := .fields #[.none, .bool false, .ref s.heap.objs.size, rawInt 0, .none, .none] } }) :=
  .of_wp fun prog w A R s h => by
    obtain ⟨hp, g, d, tk, os⟩ := s
    obtain ⟨hl, h⟩ := h
    have sub := sub_enumerate
    have isT : Heap.IsTuple (Shared.heap ⟨hp, g, d, tk, os⟩) l items := ⟨_, hl, rfl, n, rfl⟩
    wp_walk using wpAny_loadPart' hl
    refine wpAny_stack_any fun st => wpAny_pure ?_
    split
    · rename_i c _ _ _ _ _
      cases (c == Value.type "enumerate")
      · wp_walk using wpAny_loadPart' hl, wpAny_pyIter_tuple isT
        exact ⟨_, rfl, h⟩
      · wp_walk using wpAny_loadPart' hl, wpAny_pyIter_tuple isT
        exact ⟨_, rfl, h⟩
    · wp_walk using wpAny_loadPart' hl, wpAny_pyIter_tuple isT
      exact ⟨_, rfl, h⟩
section
variable {prog : Program} {w : World} {A : Around} {E : Value → Shared → Prop} {s : Shared}
theorem callEnumT {l : Addr} {items : Array Value} {Q : Value → Shared → Prop} (isT : s.heap.IsTuple l items)
    (h : ∀ h', IsEnum h' (s.heap.objs.size + 1) s.heap.objs.size 0 .none → h'.IsTupleIter s.heap.objs.size l 0 → h'.objs.size = s.heap.objs.size + 2 →
      (∀ b o, s.heap.get? b = some o → h'.get? b = some o) → Q (.ref (s.heap.objs.size + 1)) { s with heap := h' }) :
    wpAny (model prog w) A (call (.type "enumerate") [.ref l]) Q E s := by
  obtain ⟨⟨c, dct, dt, sl⟩, hl, hc, n, hd⟩ := isT
  have hc' : c = .type "tuple" := hc
  have hd' : dt = .seq items n := hd
  subst hc' hd'
  refine callType_new F.called_enumerate (by decide) (F.typeCall_enumerate_1 _) (F.newCall_enumerate_1 _) (fun obj => F.args_object_init_2 obj _) F.entry_enumerate_new
    (enumNewT l items n dct sl) ⟨hl, ?_⟩
  have size1 : (s.heap.push { cls := .type "tuple_iterator", data := .fields #[.ref l, .int 0 0] }).objs.size = s.heap.objs.size + 1 := Heap.size_push ..
  show _ ∧ _
  rw [size1]
  have isE : IsEnum ((s.heap.push { cls := .type "tuple_iterator", data := .fields #[.ref l, .int 0 0] }).push
      { cls := .type "enumerate", data := .fields #[.none, .bool false, .ref s.heap.objs.size, rawInt 0, .none, .none] }) (s.heap.objs.size + 1) s.heap.objs.size 0 .none := by
    have q := Heap.get?_push_size (s.heap.push { cls := .type "tuple_iterator", data := .fields #[.ref l, .int 0 0] })
      (o := { cls := .type "enumerate", data := .fields #[.none, .bool false, .ref s.heap.objs.size, rawInt 0, .none, .none] }) rfl
    rw [size1] at q
    exact q
  refine ⟨⟨_, isE, rfl⟩, h _ isE ⟨_, Heap.get?_push_of_some _ (Heap.get?_push_size _ rfl), rfl, rfl⟩ (by rw [Heap.size_push, size1]) ?_⟩
  intro b o x
  exact Heap.get?_push_of_some _ (Heap.get?_push_of_some _ x)
end
end PySem

namespace DL
open PySem PySem.Spec L2
open PyProof.Rows hiding St
variable [HasL] [HasX] [HasH]
/-- the tuple at a, each item in a new pair -/
def ItET (K : PySem.W.Frag) (a : Addr) : It :=
  ⟨fun i H => ∃ (xs : List V) (x : V), SqT K H a xs ∧ xs[i]? = some x, fun i H v H' => ∃ T x, v = .ref T ∧ H T = none ∧ H' = upd H T (.tup [.int (i : Nat), x]) ∧ ∀ xs, SqT K H a xs → xs[i]? = some x, fun i H => ∃ xs : List V, SqT K H a xs ∧ xs.length = i⟩
theorem tup_apart {h : Heap} {a b : Addr} {items : Array Value} {o : Obj} (p : IsTup h a items) (hb : h.get? b = some o) (hc : o.cls ≠ .type "tuple") : a ≠ b := by
  rintro rfl
  obtain ⟨o', e1, e2, _⟩ := p
  rw [hb] at e1
  cases e1
  exact hc e2
theorem turn_enumT {P : Program} {w : World} {K : PySem.W.Frag} {elts : List Expr} {kk : Nat} {tpos : Pos} (a e it : Addr) :
    Turn P w K (.Tuple elts kk tpos) (ItET K a) [e, it] e (fun i h => (∃ old, IsEnum h e it ((i : Nat) : Int) old) ∧ h.IsTupleIter it a i ∧ e ≠ it) where
  mem := by simp
  obj := by
    intro i h st b hb
    obtain ⟨⟨old, he⟩, ⟨o, ho, hc, hd⟩, _⟩ := st
    have cases2 : b = e ∨ b = it := by simpa using hb
    rcases cases2 with z | z
    · rw [z]
      exact ⟨_, he, fun v q => nomatch q⟩
    · rw [z]
      exact ⟨o, ho, fun v q => by rw [hd] at q; cases q⟩
  keep := by
    intro i h h' st k
    obtain ⟨⟨old, he⟩, hi, hne⟩ := st
    exact ⟨⟨old, k e (by simp) _ he⟩, hi.at fun o q => k it (by simp) o q, hne⟩
  item := by
    intro X hP hw hK hc i pins s σ H E I hf st hg
    subst hP hw hK
    obtain ⟨⟨old, he⟩, hit, hne⟩ := st
    obtain ⟨xs, x, hq, hx⟩ := hg
    obtain ⟨its, rv, p, hz⟩ := I.tuple hq
    obtain ⟨u, hu, ru⟩ := rv.get hx
    have hel : e < s.heap.objs.size := Heap.lt_size he
    obtain ⟨oi, hoi, hci, hdi⟩ := id hit
    have hil : it < s.heap.objs.size := Heap.lt_size hoi
    have n1 : a ≠ it := tup_apart p hoi (by rw [hci]; decide)
    have n2 : a ≠ e := tup_apart p he (fun z => absurd (Value.type.inj z) (by decide))
    have isT : s.heap.IsTuple a its.toArray := p
    have hi : i < its.toArray.size := by
      have := (List.getElem?_eq_some_iff.mp hu).1
      simpa using this
    refine wpAny_pyNext_enum_itemD (Draws.tuple (A := X.A.in1) (show X.A.handled = none from I.ok.hd hc) it a n1 its.toArray) he ⟨hit, isT⟩ hi hne (by simp [hne, Ne.symm n2]) fun y h' tk hy ho' st' hT hsz hk => ?_
    have ey : y = u := by
      have h1 : its.toArray[i]? = some y := hy
      rw [← Array.getElem?_toList] at h1
      have h2 : its[i]? = some y := by simpa using h1
      rw [hu] at h2
      exact (Option.some.inj h2).symm
    subst ey
    refine ⟨_, rfl, wpAny_letOwnedTupleGo_enum (s := { s with heap := h', toks := tk + 1 }) ho' fun h'' he' sb => ?_⟩
    have hT2 : h''.get? s.heap.objs.size = some { cls := .type "tuple", data := .seq #[.int i tk, y] } := (sb.2 _ (Nat.ne_of_gt hel)).trans hT
    have new : ObjOk X.prog X.w (upd H s.heap.objs.size (.tup [.int (i : Nat), x])) h'' s.heap.objs.size (.tup [.int (i : Nat), x]) :=
      ⟨by show 2 ≤ sizeLine; decide, [.int i tk, y], .cons ⟨_, rfl⟩ (.cons ru .nil), ⟨_, hT2, rfl, _, rfl⟩⟩
    have I1 : Inv X pins σ (upd H s.heap.objs.size (.tup [.int (i : Nat), x])) { s with heap := h'', toks := tk + 1 } :=
      I.turnedNew (ch := [e, it]) (fun b ob hb q => (sb.2 b (fun z => hb (by simp [z]))).trans (hk b ob (fun z => hb (by simp [z])) (fun z => hb (by simp [z])) q)) hf (Nat.le_refl _) new
    refine ⟨.ref s.heap.objs.size, _, I1, rfl, ⟨_, x, rfl, I.hok.fresh (Nat.le_refl _), rfl, fun ys hy => by rw [I.tuple_inj hy hq]; exact hx⟩, ⟨⟨y, ?_⟩, st'.1.at fun o q => (sb.2 it (Ne.symm hne)).trans q, hne⟩, fun b hb => ?_⟩
    · have e1 : ((i + 1 : Nat) : Int) = (i : Int) + 1 := by omega
      rw [e1]
      exact he'
    · have hb' : b < s.heap.objs.size := by
        have cases2 : b = e ∨ b = it := by simpa using hb
        rcases cases2 with z | z
        · rw [z]; exact hel
        · rw [z]; exact hil
      rw [upd_ne (Nat.ne_of_lt hb')]
      exact (hf b hb).1
  done := by
    intro X hP hw hK hc i pins s σ H E I hf st hg
    subst hP hw hK
    obtain ⟨⟨old, he⟩, hit, hne⟩ := st
    obtain ⟨xs, hq, hx⟩ := hg
    obtain ⟨its, rv, p, hz⟩ := I.tuple hq
    obtain ⟨oi, hoi, hci, hdi⟩ := id hit
    have n1 : a ≠ it := tup_apart p hoi (by rw [hci]; decide)
    obtain ⟨f0, f1, f2, f3, f4, f5⟩ := hf it (by simp)
    have hl := rv.length
    have isT : s.heap.IsTuple a its.toArray := p
    have ei : i = its.toArray.size := by
      rw [List.size_toArray, ← hl]
      exact hx.symm
    subst ei
    refine wpAny_pyNext_enum_endD (Draws.tuple (A := X.A.in1) (show X.A.handled = none from I.ok.hd hc) it a n1 its.toArray) he ⟨hit, isT⟩ fun h' eb => ⟨rfl, ?_⟩
    exact I.turned (t' := s.toks) (fun b o hb q => eb b o hb q) f0 f1 f3 f4 f5
  self := fun A i s Q E st h => let ⟨⟨_, he⟩, _⟩ := st; wpAny_pyIter_enum he h
end DL

namespace DL
open PySem PySem.Spec L2
open PyProof.Rows hiding St
variable [HasL] [HasX] [HasH]
section
variable {X : Cx} {W : WX} {tg e : Expr} {ma : SE} {p pos : Pos}
/-- a list or a tuple -/
def iSeq (K : PySem.W.Frag) (te : TE) : TI := fun σ H R => te σ H fun x H1 => ∃ a, x = .ref a ∧ (((∃ xs, SqL K H1 a xs) ∧ R (Itl K a) H1) ∨ ((∃ xs, SqT K H1 a xs) ∧ R (Itt K a) H1))
theorem pi_seq {te : TE} (h : PE X e te) : PI X tg e (iSeq X.K te) := by
  constructor
  intro pins s σ H R I q
  refine thn (h.run pins s σ H _ I q) ?_
  rintro v s1 ⟨x, H1, I1, r1, a, rfl, q1⟩
  cases r1
  have fresh : ∀ b ∈ [s1.heap.objs.size], ∀ {s2 : Shared} , True := fun _ _ _ => trivial
  rcases q1 with ⟨⟨xs, hq⟩, q⟩ | ⟨⟨xs, hq⟩, q⟩
  · obtain ⟨its, rv, pl, hz⟩ := I1.list hq
    refine wpAny_pyIter_list pl.isList ⟨s1.heap.objs.size, [s1.heap.objs.size], _, _, H1, rfl, I1.kept (t' := s1.toks) (fun b o e => Heap.get?_push_of_some _ e), turn_list a _, ⟨_, Heap.get?_push_size _ rfl, rfl, rfl⟩, ?_, q⟩
    intro b hb
    rcases List.mem_singleton.mp hb with rfl
    exact I1.fpOk (Nat.le_refl _) (I1.hok.fresh (Nat.le_refl _))
  · obtain ⟨its, rv, pl, hz⟩ := I1.tuple hq
    refine wpAny_pyIter_tuple (show s1.heap.IsTuple a its.toArray from pl) ⟨s1.heap.objs.size, [s1.heap.objs.size], _, _, H1, rfl, I1.kept (t' := s1.toks) (fun b o e => Heap.get?_push_of_some _ e), turn_tuple a _, ⟨_, Heap.get?_push_size _ rfl, rfl, rfl⟩, ?_, q⟩
    intro b hb
    rcases List.mem_singleton.mp hb with rfl
    exact I1.fpOk (Nat.le_refl _) (I1.hok.fresh (Nat.le_refl _))
/-- the items that are walked -/
def itemsL : D → Option (List D)
  | .lst l => some l
  | .scr l => some (l.map .int)
  | _ => none
def itemsOf : D → Option (List D)
  | .tup l => some l
  | d => itemsL d
theorem rep_itemsL {c : Ct} {H : Hp} {v : V} {d : D} {ds : List D} (r : Rep c H v d) (e : itemsL d = some ds) : ∃ a vs, v = .ref a ∧ SqL c.K H a vs ∧ Reps c H vs ds := by
  cases r with
  | lst h1 h0 h2 h3 => cases e; exact ⟨_, _, rfl, SqL.of h2, h3⟩
  | scr h1 h2 => cases e; exact ⟨_, _, rfl, .inl (.inr ⟨_, h2⟩), reps_ints _⟩
  | scrK h => cases e; exact ⟨_, _, rfl, seqK h, reps_ints _⟩
  | _ => cases e
theorem wlk_L {K : PySem.W.Frag} {a : Addr} {d : D} {ds : List D} (e : itemsL d = some ds) : Wlk K (Itl K a) (fun c H => Rep c H (.ref a) d) ds := by
  refine ⟨fun i c H hK hi r => ?_, fun c H hK r => ?_, fun i c H x H' m hK M r hi y => ?_⟩
  · obtain ⟨b, vs, eb, h1, h2⟩ := rep_itemsL r e
    cases eb
    rw [hK] at h1
    exact ⟨vs, vs[i]'(by rw [h2.length]; exact hi), h1, List.getElem?_eq_getElem _⟩
  · obtain ⟨b, vs, eb, h1, h2⟩ := rep_itemsL r e
    cases eb
    rw [hK] at h1
    exact ⟨vs, h1, by rw [h2.length]; exact Nat.le_refl _⟩
  · obtain ⟨b, vs, eb, h1, h2⟩ := rep_itemsL r e
    cases eb
    rw [hK] at h1
    obtain ⟨e1, e2⟩ := y
    subst e1
    obtain ⟨dd, h3, h4⟩ := h2.get (e2 vs h1)
    exact ⟨Same.refl _, dd, h3, h4⟩
theorem wlk_T {K : PySem.W.Frag} {a : Addr} {ds : List D} : Wlk K (Itt K a) (fun c H => Rep c H (.ref a) (.tup ds)) ds := by
  refine ⟨fun i c H hK hi r => ?_, fun c H hK r => ?_, fun i c H x H' m hK M r hi y => ?_⟩
  · obtain ⟨b, vs, eb, _, h1, h2⟩ := rep_tup (b := false) r.f
    cases eb
    exact ⟨vs, vs[i]'(by rw [h2.length]; exact hi), SqT.of h1, List.getElem?_eq_getElem _⟩
  · obtain ⟨b, vs, eb, _, h1, h2⟩ := rep_tup (b := false) r.f
    cases eb
    exact ⟨vs, SqT.of h1, by rw [h2.length]; exact Nat.le_refl _⟩
  · obtain ⟨b, vs, eb, _, h1, h2⟩ := rep_tup (b := false) r.f
    cases eb
    obtain ⟨e1, e2⟩ := y
    subst e1
    obtain ⟨dd, h3, h4⟩ := h2.get (e2 vs (SqT.of h1))
    exact ⟨Same.refl _, dd, h3, h4⟩
def mSeq (ma : SE) : SI := fun ρ μ => (ma ρ μ).bnd fun d μ1 => match itemsOf d with
  | some l => .ok l μ1
  | none => .stuck
theorem itemsOf_cases {d : D} {ds : List D} (e : itemsOf d = some ds) : itemsL d = some ds ∨ d = .tup ds := by
  cases d with
  | tup l => cases e; exact .inr rfl
  | _ => exact .inl e
theorem pid_seq (ha : PD X W false e ma) : PID X W tg e (mSeq ma) := by
  obtain ⟨t, h1, h2⟩ := ha
  refine ⟨_, pi_seq h1, fun c H σ ρ μ hK k R q => ?_⟩
  refine h2 c H σ ρ μ hK k _ (PostG.bnd q fun d μ1 v c1 H1 s1 M1 r1 p1 => ?_)
  have hK1 : c1.K = X.K := s1.K.trans hK
  cases ei : itemsOf d with
  | none => rw [ei] at p1; exact p1.elim
  | some ds =>
    rw [ei] at p1
    have r2 := r1.rep
    rcases itemsOf_cases ei with z | z
    · obtain ⟨a, vs, rfl, h3, h4⟩ := rep_itemsL r2 z
      rw [hK1] at h3
      exact ⟨a, rfl, .inl ⟨⟨vs, h3⟩, p1 _ c1 H1 (Stp.refl _ _) M1 ⟨[.ref a], [d], .one (wlk_L z), .cons r2 .nil⟩⟩⟩
    · subst z
      obtain ⟨a, vs, rfl, _, h3, h4⟩ := rep_tup (b := false) r2.f
      exact ⟨a, rfl, .inr ⟨⟨vs, SqT.of h3⟩, p1 _ c1 H1 (Stp.refl _ _) M1 ⟨[.ref a], [.tup ds], .one wlk_T, .cons r2 .nil⟩⟩⟩

/-! ### enumerate -/
def iEnumA (K : PySem.W.Frag) (ta : TA) : TI := fun σ H R => ta σ H fun vs H1 => ∃ a, vs = [.ref a] ∧ (((∃ xs, SqL K H1 a xs) ∧ R (Ite K a) H1) ∨ ((∃ xs, SqT K H1 a xs) ∧ R (ItET K a) H1))
theorem pi_enumA {ta : TA} {elts : List Expr} {kk : Nat} {tpos : Pos} (hg : Gl X "enumerate") (hm : X.mg "enumerate" = none) (ha : PA X [e] ta) (hs : starEach [e] X.env = [(false, eval e X.env)]) :
    PI X (.Tuple elts kk tpos) (.Call (.Name "enumerate" p) [e] [] pos) (iEnumA X.K ta) := by
  constructor
  intro pins s σ H R I h
  refine Call_ (ld_blt I hg hm boot_enumerate (PyProof.Rows.callWith_type1 (thn (ha.run pos pins s σ H _ I h) ?_) hs rfl))
  rintro us s1 ⟨vs, H1, I1, r1, a, rfl, q1⟩
  obtain ⟨u, rfl, ru⟩ := vals1 r1
  cases ru
  have two : ∀ b ∈ [s1.heap.objs.size + 1, s1.heap.objs.size], s1.heap.objs.size ≤ b := by
    intro b hb
    have cases2 : b = s1.heap.objs.size + 1 ∨ b = s1.heap.objs.size := by simpa using hb
    rcases cases2 with z | z
    · rw [z]; exact Nat.le_add_right _ _
    · rw [z]; exact Nat.le_refl _
  rcases q1 with ⟨⟨xs, hq⟩, q⟩ | ⟨⟨xs, hq⟩, q⟩
  · obtain ⟨its, rv, pl, hz⟩ := I1.list hq
    refine call_enumerate_list pl.isList fun h' he hit hsz hk => wpAny_pyIter_enum he ?_
    exact ⟨s1.heap.objs.size + 1, [s1.heap.objs.size + 1, s1.heap.objs.size], _, _, H1, rfl, I1.kept (t' := s1.toks) hk, turn_enum a (s1.heap.objs.size + 1) s1.heap.objs.size, ⟨⟨.none, he⟩, hit, Nat.succ_ne_self _⟩, fun b hb => I1.fpOk (two b hb) (I1.hok.fresh (two b hb)), q⟩
  · obtain ⟨its, rv, pl, hz⟩ := I1.tuple hq
    refine callEnumT (show s1.heap.IsTuple a its.toArray from pl) fun h' he hit hsz hk => wpAny_pyIter_enum he ?_
    exact ⟨s1.heap.objs.size + 1, [s1.heap.objs.size + 1, s1.heap.objs.size], _, _, H1, rfl, I1.kept (t' := s1.toks) hk, turn_enumT a (s1.heap.objs.size + 1) s1.heap.objs.size, ⟨⟨.none, he⟩, hit, Nat.succ_ne_self _⟩, fun b hb => I1.fpOk (two b hb) (I1.hok.fresh (two b hb)), q⟩
/-- pairs of a place and an item -/
def enumL (l : List D) : List D := l.mapIdx fun i d => .tup [.int (i : Nat), d]
theorem enumL_get {l : List D} {i : Nat} {d : D} (h : l[i]? = some d) : (enumL l)[i]? = some (.tup [.int (i : Nat), d]) := by
  unfold enumL
  rw [List.getElem?_mapIdx, h]
  rfl
theorem pair_rep {c : Ct} {H : Hp} {T : Addr} {i : Nat} {x : V} {d : D} {m : Mu} (hT : H T = none) (no : T ∉ c.cs) (r : Rep c H x d) : Rep c (upd H T (.tup [.int (i : Nat), x])) (.ref T) (.tup [.int (i : Nat), d]) :=
  .tup no upd_same (.cons (.int _) (.cons (r.step (Stp.same (same_upd hT))) .nil))
theorem wlk_EL {K : PySem.W.Frag} {a : Addr} {d : D} {ds : List D} (e : itemsL d = some ds) : Wlk K (Ite K a) (fun c H => Rep c H (.ref a) d) (enumL ds) := by
  have hl : (enumL ds).length = ds.length := by simp [enumL]
  refine ⟨fun i c H hK hi r => ?_, fun c H hK r => ?_, fun i c H x H' m hK M r hi y => ?_⟩
  · obtain ⟨b, vs, eb, h1, h2⟩ := rep_itemsL r e
    cases eb
    rw [hK] at h1
    exact ⟨vs, vs[i]'(by rw [h2.length, ← hl]; exact hi), h1, List.getElem?_eq_getElem _⟩
  · obtain ⟨b, vs, eb, h1, h2⟩ := rep_itemsL r e
    cases eb
    rw [hK] at h1
    exact ⟨vs, h1, by rw [h2.length, hl]; exact Nat.le_refl _⟩
  · obtain ⟨b, vs, eb, h1, h2⟩ := rep_itemsL r e
    cases eb
    rw [hK] at h1
    obtain ⟨T, z, rfl, hT, rfl, e2⟩ := y
    obtain ⟨dd, h3, h4⟩ := h2.get (e2 vs h1)
    exact ⟨same_upd hT, _, enumL_get h3, pair_rep (m := m) hT (fresh_cs M hT) h4⟩
theorem wlk_ET {K : PySem.W.Frag} {a : Addr} {ds : List D} : Wlk K (ItET K a) (fun c H => Rep c H (.ref a) (.tup ds)) (enumL ds) := by
  have hl : (enumL ds).length = ds.length := by simp [enumL]
  refine ⟨fun i c H hK hi r => ?_, fun c H hK r => ?_, fun i c H x H' m hK M r hi y => ?_⟩
  · obtain ⟨b, vs, eb, _, h1, h2⟩ := rep_tup (b := false) r.f
    cases eb
    exact ⟨vs, vs[i]'(by rw [h2.length, ← hl]; exact hi), SqT.of h1, List.getElem?_eq_getElem _⟩
  · obtain ⟨b, vs, eb, _, h1, h2⟩ := rep_tup (b := false) r.f
    cases eb
    exact ⟨vs, SqT.of h1, by rw [h2.length, hl]⟩
  · obtain ⟨b, vs, eb, _, h1, h2⟩ := rep_tup (b := false) r.f
    cases eb
    obtain ⟨T, z, rfl, hT, rfl, e2⟩ := y
    obtain ⟨dd, h3, h4⟩ := h2.get (e2 vs (SqT.of h1))
    exact ⟨same_upd hT, _, enumL_get h3, pair_rep (m := m) hT (fresh_cs M hT) h4⟩
def mEnum (ma : SE) : SI := fun ρ μ => (ma ρ μ).bnd fun d μ1 => match itemsOf d with
  | some l => .ok (enumL l) μ1
  | none => .stuck
theorem pid_enum {elts : List Expr} {kk : Nat} {tpos : Pos} (hm : X.mg "enumerate" = none) (ha : PD X W false e ma) (hg : Gl X "enumerate" := by rfl) (hs : starEach [e] X.env = [(false, eval e X.env)] := by rfl) :
    PID X W (.Tuple elts kk tpos) (.Call (.Name "enumerate" p) [e] [] pos) (mEnum ma) := by
  obtain ⟨t, h1, h2⟩ := ha
  refine ⟨_, pi_enumA hg hm (pa_cons h1 pa_nil hs) hs, fun c H σ ρ μ hK k R q => ?_⟩
  refine h2 c H σ ρ μ hK k _ (PostG.bnd q fun d μ1 v c1 H1 s1 M1 r1 p1 => ?_)
  have hK1 : c1.K = X.K := s1.K.trans hK
  cases ei : itemsOf d with
  | none => rw [ei] at p1; exact p1.elim
  | some ds =>
    rw [ei] at p1
    have r2 := r1.rep
    rcases itemsOf_cases ei with z | z
    · obtain ⟨a, vs, rfl, h3, h4⟩ := rep_itemsL r2 z
      rw [hK1] at h3
      exact ⟨a, rfl, .inl ⟨⟨vs, h3⟩, p1 _ c1 H1 (Stp.refl _ _) M1 ⟨[.ref a], [d], .one (wlk_EL z), .cons r2 .nil⟩⟩⟩
    · subst z
      obtain ⟨a, vs, rfl, _, h3, h4⟩ := rep_tup (b := false) r2.f
      exact ⟨a, rfl, .inr ⟨⟨vs, SqT.of h3⟩, p1 _ c1 H1 (Stp.refl _ _) M1 ⟨[.ref a], [.tup ds], .one wlk_ET, .cons r2 .nil⟩⟩⟩
end
end DL
/-! # Dv: more values and statements: isinstance, all, any, sum, max, min, chains of comparisons, slices, while, unpacking -/
namespace DL
open PySem PySem.Spec L2
open PyProof.Rows hiding St
variable [HasL] [HasX] [HasH]
/-! ### isinstance -/
def D.tyN (μ : Mu) : D → Option String
  | .non => some "NoneType"
  | .bl _ => some "bool"
  | .int _ => some "int"
  | .str _ => some "str"
  | .tup _ => some "tuple"
  | .lst _ => some "list"
  | .scr _ => some "list"
  | .cell n => if n < μ.length then some "list" else none
  | _ => none
theorem rep_tyX {b : Bool} {c : Ct} {H : Hp} {m : Mu} {v : V} {d : D} {n : String} (M : MRel c H m) (r : RepF b c H v d) (e : d.tyN m = some n) : TyX c.K H v (.type n) := by
  rcases r with r | ⟨_, ⟨a, vs, ds, rfl, rfl, _, _, h4, _⟩ | ⟨a, ks, vs, rfl, rfl, _⟩⟩
  · cases r with
    | non => cases e; exact .base .non
    | bl b => cases e; exact .base (.bl b)
    | int i => cases e; exact .base (.int i)
    | str x => cases e; exact .base (.str x)
    | tup h1 h2 h3 => cases e; exact .base (.tup h2)
    | lst h1 h0 h2 h3 => cases e; exact .base (.lst h2)
    | scr h1 h2 => cases e; exact .base (.frz h2)
    | scrK h =>
      cases e
      rcases h with (h | ⟨o, h⟩) | ⟨o, its, k, h1, h2, _⟩
      · cases h
      · cases h
      · exact .kList h1 h2
    | cell h =>
      rename_i n' a
      have e' : (if n' < m.length then some "list" else none) = some n := e
      by_cases hl : n' < m.length
      · rw [if_pos hl] at e'
        cases e'
        obtain ⟨_, vs, h2, _⟩ := M.at_ n' a m[n'] h (List.getElem?_eq_getElem hl)
        exact .base (.lst h2)
      · rw [if_neg hl] at e'
        cases e'
    | ty n => cases e
    | fn h => cases e
    | lam => cases e
    | dK => cases e
    | dT => cases e
  · cases e
    exact .base (.lst h4)
  · cases e
/-- the classes that are asked for -/
def D.tys : List D → Option (List String)
  | [] => some []
  | .ty n :: r => (D.tys r).map (n :: ·)
  | _ :: _ => none
def kitsB (a : String) : List String → Option Bool
  | [] => some false
  | b :: r => match kitB a b with
    | some true => some true
    | some false => kitsB a r
    | none => none
theorem kits_ok {K : PySem.W.Frag} {a : String} : ∀ {l : List String} {r : Bool}, kitsB a l = some r → PySem.W.kitAny K (.type a) (l.map Value.type) = some r
  | [], r, h => by cases h; rfl
  | b :: l, r, h => by
    unfold kitsB at h
    cases q : kitB a b with
    | none => rw [q] at h; cases h
    | some v =>
      rw [q] at h
      refine kitAny_cons (kit_ty q) (fun e => ?_) fun e => ?_
      · subst e; exact kits_ok h
      · subst e; cases h; rfl
theorem tys_cls {c : Ct} {H : Hp} : ∀ {vs : List V} {ds : List D} {l : List String}, Reps c H vs ds → D.tys ds = some l → Paired ClsV vs (l.map Value.type)
  | _, _, l, .nil, e => by cases e; exact .nil
  | _, _, l, .cons (d := d) (ds := ds) r t, e => by
    cases d with
    | ty n =>
      have e' : (D.tys ds).map (n :: ·) = some l := e
      cases q : D.tys ds with
      | none => rw [q] at e'; cases e'
      | some l' =>
        rw [q] at e'
        cases e'
        cases r
        exact .cons (.ty n) (tys_cls t q)
    | _ => cases e
def optB (o : Option Bool) (m : Mu) : Out D := match o with
  | some b => .ok (.bl b) m
  | none => .stuck
def fIsi : List D → Mu → Out D
  | [d, .ty n], m => optB ((d.tyN m).bind fun a => kitB a n) m
  | [d, .tup cs], m => optB ((d.tyN m).bind fun a => (D.tys cs).bind fun l => kitsB a l) m
  | _, _ => .stuck
theorem rel_isi {K : PySem.W.Frag} {W : WX} : RelL K W true (fun xs H Q => rIsi K xs H Q ∨ rIsiT K xs H Q) fIsi := by
  intro c H σ μ vs ds hK M r Q p
  subst hK
  unfold fIsi at p
  split at p
  · rename_i d n
    obtain ⟨v, w', rfl, r1, r2⟩ := repsF_two r
    cases e : D.tyN μ d with
    | none => rw [e] at p; exact p.elim
    | some a =>
      rw [e, Option.bind_some] at p
      cases e2 : kitB a n with
      | none => rw [e2] at p; exact p.elim
      | some b =>
        rw [e2] at p
        have ew : w' = .ty n := by
          rcases r2 with r2 | ⟨_, ⟨_, _, _, _, h, _⟩ | ⟨_, _, _, _, h, _⟩⟩
          · cases r2; rfl
          · cases h
          · cases h
        exact .inl ⟨v, w', .type a, .type n, b, rfl, by rw [ew]; exact .ty n, rep_tyX M r1 e, kit_ty e2, post_bl M p⟩
  · rename_i d cs
    obtain ⟨v, w', rfl, r1, r2⟩ := repsF_two r
    cases e : D.tyN μ d with
    | none => rw [e] at p; exact p.elim
    | some a =>
      rw [e, Option.bind_some] at p
      cases e1 : D.tys cs with
      | none => rw [e1] at p; exact p.elim
      | some l =>
        rw [e1, Option.bind_some] at p
        cases e2 : kitsB a l with
        | none => rw [e2] at p; exact p.elim
        | some b =>
          rw [e2] at p
          obtain ⟨tp, ws, rfl, _, h2, h3⟩ := rep_tup r2
          exact .inr ⟨v, tp, ws, .type a, l.map Value.type, b, rfl, h2, tys_cls h3 e1, rep_tyX M r1 e, kits_ok e2, post_bl M p⟩
  · exact p.elim
/-! ### all, any, sum, max, min -/
def blsOf : List D → Option (List Bool)
  | [] => some []
  | .bl b :: r => (blsOf r).map (b :: ·)
  | _ :: _ => none
def intsOf : List D → Option (List Int)
  | [] => some []
  | .int b :: r => (intsOf r).map (b :: ·)
  | _ :: _ => none
theorem reps_bls {c : Ct} {H : Hp} : ∀ {vs : List V} {ds : List D} {l : List Bool}, Reps c H vs ds → blsOf ds = some l → vs = l.map V.bl
  | _, _, l, .nil, e => by cases e; rfl
  | _, _, l, .cons (d := d) (ds := ds) r t, e => by
    cases d with
    | bl b =>
      have e' : (blsOf ds).map (b :: ·) = some l := e
      cases q : blsOf ds with
      | none => rw [q] at e'; cases e'
      | some l' =>
        rw [q] at e'
        cases e'
        cases r
        rw [reps_bls t q]
        rfl
    | _ => cases e
theorem reps_intsOf {c : Ct} {H : Hp} : ∀ {vs : List V} {ds : List D} {l : List Int}, Reps c H vs ds → intsOf ds = some l → vs = l.map V.int
  | _, _, l, .nil, e => by cases e; rfl
  | _, _, l, .cons (d := d) (ds := ds) r t, e => by
    cases d with
    | int b =>
      have e' : (intsOf ds).map (b :: ·) = some l := e
      cases q : intsOf ds with
      | none => rw [q] at e'; cases e'
      | some l' =>
        rw [q] at e'
        cases e'
        cases r
        rw [reps_intsOf t q]
        rfl
    | _ => cases e
def fAll : List D → Mu → Out D
  | [d], m => optB (((listOf m d).bind blsOf).map fun l => l.all id) m
  | _, _ => .stuck
def fAny : List D → Mu → Out D
  | [d], m => optB (((listOf m d).bind blsOf).map fun l => l.any id) m
  | _, _ => .stuck
def fSum : List D → Mu → Out D
  | [d], m => (match (listOf m d).bind intsOf with
    | some l => .ok (.int l.sum) m
    | none => .stuck)
  | _, _ => .stuck
section
variable {K : PySem.W.Frag} {W : WX}
theorem rel_all : RelL K W true (rAll K) fAll := by
  intro c H σ μ vs ds hK M r Q p
  unfold fAll at p
  split at p
  · rename_i d
    obtain ⟨v, rfl, r1⟩ := repsF_one r
    cases e : listOf μ d with
    | none => rw [e] at p; exact p.elim
    | some l =>
      rw [e, Option.bind_some] at p
      cases e2 : blsOf l with
      | none => rw [e2] at p; exact p.elim
      | some bs =>
        rw [e2] at p
        obtain ⟨a, ws, rfl, h2, h3⟩ := rep_list M r1 e
        exact ⟨a, bs, rfl, by rw [← reps_bls h3 e2]; exact SqL.of h2, post_bl M p⟩
  · exact p.elim
theorem rel_any : RelL K W true (rAny K) fAny := by
  intro c H σ μ vs ds hK M r Q p
  unfold fAny at p
  split at p
  · rename_i d
    obtain ⟨v, rfl, r1⟩ := repsF_one r
    cases e : listOf μ d with
    | none => rw [e] at p; exact p.elim
    | some l =>
      rw [e, Option.bind_some] at p
      cases e2 : blsOf l with
      | none => rw [e2] at p; exact p.elim
      | some bs =>
        rw [e2] at p
        obtain ⟨a, ws, rfl, h2, h3⟩ := rep_list M r1 e
        exact ⟨a, bs, rfl, by rw [← reps_bls h3 e2]; exact SqL.of h2, post_bl M p⟩
  · exact p.elim
theorem rel_sum : RelL K W true (rSum K) fSum := by
  intro c H σ μ vs ds hK M r Q p
  unfold fSum at p
  split at p
  · rename_i d
    obtain ⟨v, rfl, r1⟩ := repsF_one r
    cases e : listOf μ d with
    | none => rw [e] at p; exact p.elim
    | some l =>
      rw [e, Option.bind_some] at p
      cases e2 : intsOf l with
      | none => rw [e2] at p; exact p.elim
      | some bs =>
        rw [e2] at p
        obtain ⟨a, ws, rfl, h2, h3⟩ := rep_list M r1 e
        exact ⟨a, bs, rfl, by rw [← reps_intsOf h3 e2]; exact SqL.of h2, post_int M p⟩
  · exact p.elim
/-- the greatest, the least of some -/
def maxL : Int → List Int → Int
  | m, [] => m
  | m, x :: r => maxL (if x > m then x else m) r
def minL : Int → List Int → Int
  | m, [] => m
  | m, x :: r => minL (if x < m then x else m) r
theorem maxL_spec : ∀ (l : List Int) (m : Int), (maxL m l = m ∨ maxL m l ∈ l) ∧ m ≤ maxL m l ∧ ∀ y ∈ l, y ≤ maxL m l
  | [], m => ⟨.inl rfl, Int.le_refl _, fun y h => by simp at h⟩
  | x :: r, m => by
    obtain ⟨h1, h2, h3⟩ := maxL_spec r (if x > m then x else m)
    have e : maxL m (x :: r) = maxL (if x > m then x else m) r := rfl
    rw [e]
    refine ⟨?_, ?_, ?_⟩
    · rcases h1 with h1 | h1
      · rw [h1]
        split
        · right; exact List.mem_cons_self
        · left; rfl
      · right; exact List.mem_cons_of_mem _ h1
    · have h4 : m ≤ (if x > m then x else m) := by split <;> omega
      exact Int.le_trans h4 h2
    · intro y hy
      rcases List.mem_cons.mp hy with z | z
      · subst z
        have h4 : y ≤ (if y > m then y else m) := by split <;> omega
        exact Int.le_trans h4 h2
      · exact h3 y z
theorem minL_spec : ∀ (l : List Int) (m : Int), (minL m l = m ∨ minL m l ∈ l) ∧ minL m l ≤ m ∧ ∀ y ∈ l, minL m l ≤ y
  | [], m => ⟨.inl rfl, Int.le_refl _, fun y h => by simp at h⟩
  | x :: r, m => by
    obtain ⟨h1, h2, h3⟩ := minL_spec r (if x < m then x else m)
    have e : minL m (x :: r) = minL (if x < m then x else m) r := rfl
    rw [e]
    refine ⟨?_, ?_, ?_⟩
    · rcases h1 with h1 | h1
      · rw [h1]
        split
        · right; exact List.mem_cons_self
        · left; rfl
      · right; exact List.mem_cons_of_mem _ h1
    · have h4 : (if x < m then x else m) ≤ m := by split <;> omega
      exact Int.le_trans h2 h4
    · intro y hy
      rcases List.mem_cons.mp hy with z | z
      · subst z
        have h4 : (if y < m then y else m) ≤ y := by split <;> omega
        exact Int.le_trans h2 h4
      · exact h3 y z
def fMax : List D → Mu → Out D
  | [.int i, .int j], m => .ok (.int (if j > i then j else i)) m
  | [d], m => (match (listOf m d).bind intsOf with
    | some (x :: l) => .ok (.int (maxL x l)) m
    | _ => .stuck)
  | _, _ => .stuck
def fMin : List D → Mu → Out D
  | [.int i, .int j], m => .ok (.int (if j < i then j else i)) m
  | [d], m => (match (listOf m d).bind intsOf with
    | some (x :: l) => .ok (.int (minL x l)) m
    | _ => .stuck)
  | _, _ => .stuck
theorem rel_max : RelL K W true (fun xs H Q => (∃ i j, xs = [.int i, .int j] ∧ Q (.int (if j > i then j else i)) H) ∨ rMax K xs H Q) fMax := by
  intro c H σ μ vs ds hK M r Q p
  unfold fMax at p
  split at p
  · rename_i i j
    obtain ⟨v, w', rfl, r1, r2⟩ := repsF_two r
    exact .inl ⟨i, j, by rw [rep_int r1, rep_int r2], post_int M p⟩
  · rename_i d
    obtain ⟨v, rfl, r1⟩ := repsF_one r
    cases e : listOf μ d with
    | none => rw [e] at p; exact p.elim
    | some l =>
      rw [e, Option.bind_some] at p
      cases e2 : intsOf l with
      | none => rw [e2] at p; exact p.elim
      | some bs =>
        rw [e2] at p
        cases bs with
        | nil => exact p.elim
        | cons x t =>
          obtain ⟨a, ws, rfl, h2, h3⟩ := rep_list M r1 e
          obtain ⟨m1, m2, m3⟩ := maxL_spec t x
          refine .inr ⟨a, x :: t, rfl, by rw [← reps_intsOf h3 e2]; exact SqL.of h2, Nat.succ_pos _, fun m hm hle => ?_⟩
          have em : m = maxL x t := by
            have h4 : maxL x t ∈ x :: t := by
              rcases m1 with z | z
              · rw [z]; exact List.mem_cons_self
              · exact List.mem_cons_of_mem _ z
            have h5 := hle _ h4
            have h6 : m ≤ maxL x t := by
              rcases List.mem_cons.mp hm with z | z
              · rw [z]; exact m2
              · exact m3 m z
            omega
          rw [em]
          exact post_int M p
  · exact p.elim
theorem rel_min : RelL K W true (fun xs H Q => (∃ i j, xs = [.int i, .int j] ∧ Q (.int (if j < i then j else i)) H) ∨ rMin K xs H Q) fMin := by
  intro c H σ μ vs ds hK M r Q p
  unfold fMin at p
  split at p
  · rename_i i j
    obtain ⟨v, w', rfl, r1, r2⟩ := repsF_two r
    exact .inl ⟨i, j, by rw [rep_int r1, rep_int r2], post_int M p⟩
  · rename_i d
    obtain ⟨v, rfl, r1⟩ := repsF_one r
    cases e : listOf μ d with
    | none => rw [e] at p; exact p.elim
    | some l =>
      rw [e, Option.bind_some] at p
      cases e2 : intsOf l with
      | none => rw [e2] at p; exact p.elim
      | some bs =>
        rw [e2] at p
        cases bs with
        | nil => exact p.elim
        | cons x t =>
          obtain ⟨a, ws, rfl, h2, h3⟩ := rep_list M r1 e
          obtain ⟨m1, m2, m3⟩ := minL_spec t x
          refine .inr ⟨a, x :: t, rfl, by rw [← reps_intsOf h3 e2]; exact SqL.of h2, Nat.succ_pos _, fun m hm hle => ?_⟩
          have em : m = minL x t := by
            have h4 : minL x t ∈ x :: t := by
              rcases m1 with z | z
              · rw [z]; exact List.mem_cons_self
              · exact List.mem_cons_of_mem _ z
            have h5 := hle _ h4
            have h6 : minL x t ≤ m := by
              rcases List.mem_cons.mp hm with z | z
              · rw [z]; exact m2
              · exact m3 m z
            omega
          rw [em]
          exact post_int M p
  · exact p.elim
end
section
variable {X : Cx} {W : WX} {b : Bool} {e : Expr} {es : List Expr} {mr : SA} {p pos : Pos}
theorem pd_isi (hm : X.mg "isinstance" = none) (ha : PDA X W true (e :: es) mr) (hg : Gl X "isinstance" := by rfl) (he : starEach (e :: es) X.env = (false, eval e X.env) :: starEach es X.env := by rfl) (hpl : (backTo pos (starEach es X.env)).any (·.1) = false := by rfl) :
    PD X W b (.Call (.Name "isinstance" p) (e :: es) [] pos) (mApp fIsi mr) := pd_callB (call_isi.or call_isiT) rel_isi hm rfl ha hg (by decide) (by decide) he hpl
theorem pd_all (hc : X.calm = true) (hm : X.mg "all" = none) (ha : PDA X W true (e :: es) mr) (hg : Gl X "all" := by rfl) (he : starEach (e :: es) X.env = (false, eval e X.env) :: starEach es X.env := by rfl) (hpl : (backTo pos (starEach es X.env)).any (·.1) = false := by rfl) :
    PD X W b (.Call (.Name "all" p) (e :: es) [] pos) (mApp fAll mr) := pd_callB (cr_all hc) rel_all hm rfl ha hg (by decide) (by decide) he hpl
theorem pd_any (hc : X.calm = true) (hm : X.mg "any" = none) (ha : PDA X W true (e :: es) mr) (hg : Gl X "any" := by rfl) (he : starEach (e :: es) X.env = (false, eval e X.env) :: starEach es X.env := by rfl) (hpl : (backTo pos (starEach es X.env)).any (·.1) = false := by rfl) :
    PD X W b (.Call (.Name "any" p) (e :: es) [] pos) (mApp fAny mr) := pd_callB (cr_any hc) rel_any hm rfl ha hg (by decide) (by decide) he hpl
theorem pd_sum (hc : X.calm = true) (hm : X.mg "sum" = none) (ha : PDA X W true (e :: es) mr) (hg : Gl X "sum" := by rfl) (he : starEach (e :: es) X.env = (false, eval e X.env) :: starEach es X.env := by rfl) (hpl : (backTo pos (starEach es X.env)).any (·.1) = false := by rfl) :
    PD X W b (.Call (.Name "sum" p) (e :: es) [] pos) (mApp fSum mr) := pd_callB (cr_sum hc) rel_sum hm rfl ha hg (by decide) (by decide) he hpl
theorem pd_max (hc : X.calm = true) (hm : X.mg "max" = none) (ha : PDA X W true (e :: es) mr) (hg : Gl X "max" := by rfl) (he : starEach (e :: es) X.env = (false, eval e X.env) :: starEach es X.env := by rfl) (hpl : (backTo pos (starEach es X.env)).any (·.1) = false := by rfl) :
    PD X W b (.Call (.Name "max" p) (e :: es) [] pos) (mApp fMax mr) := pd_callB ((call_max2 hc).or (cr_max hc)) rel_max hm rfl ha hg (by decide) (by decide) he hpl
theorem pd_min (hc : X.calm = true) (hm : X.mg "min" = none) (ha : PDA X W true (e :: es) mr) (hg : Gl X "min" := by rfl) (he : starEach (e :: es) X.env = (false, eval e X.env) :: starEach es X.env := by rfl) (hpl : (backTo pos (starEach es X.env)).any (·.1) = false := by rfl) :
    PD X W b (.Call (.Name "min" p) (e :: es) [] pos) (mApp fMin mr) := pd_callB ((call_min2 hc).or (cr_min hc)) rel_min hm rfl ha hg (by decide) (by decide) he hpl
theorem pd_tupleOf (hm : X.mg "tuple" = none) (ha : PDA X W true (e :: es) mr) (hg : Gl X "tuple" := by rfl) (he : starEach (e :: es) X.env = (false, eval e X.env) :: starEach es X.env := by rfl) (hpl : (backTo pos (starEach es X.env)).any (·.1) = false := by rfl) :
    PD X W b (.Call (.Name "tuple" p) (e :: es) [] pos) (mApp fTuple mr) := pd_callTy call_tuple_of rel_tuple hm rfl ha hg (by decide) (by decide) he hpl
end
end DL
/-! # Dw: chains of comparisons, slices, while, several names at once -/
namespace DL
open PySem PySem.Spec L2
open PyProof.Rows hiding St
variable [HasL] [HasX] [HasH]
section
variable {X : Cx} {W : WX} {b b' : Bool} {e f g : Expr} {ma mb mc : SE} {pos : Pos}
/-! ### a < b < c -/
theorem sim_chain {K : PySem.W.Frag} {r1 r2 : R2} {g1 g2 : D → D → Mu → Out D} {ta tb tc : TE} (h1 : RelO K W true r1 g1) (h2 : RelO K W true r2 g2) (ha : SimE K W true ta ma) (hb : SimE K W true tb mb) (hc : SimE K W true tc mc) : SimE K W b (tChain r1 r2 ta tb tc) (mChain g1 g2 ma mb mc) := by
  intro c H σ ρ μ hK k Q p
  refine ha c H σ ρ μ hK k _ (PostG.bnd p fun x μ1 v c1 H1 s1 M1 q1 p1 => ?_)
  refine hb c1 H1 σ ρ μ1 (s1.K.trans hK) (k.step s1 M1) _ (PostG.bnd p1 fun y μ2 w c2 H2 s2 M2 q2 p2 => ?_)
  have hK2 := (s2.K.trans s1.K).trans hK
  refine h1 c2 H2 σ μ2 v w x y hK2 M2 (q1.step s2) q2 _ (PostG.bnd p2 fun z μ3 u c3 H3 s3 M3 q3 p3 => ?_)
  cases z with
  | bl kk =>
    refine ⟨kk, rep_bl q3, ?_⟩
    cases kk with
    | true =>
      rw [if_pos rfl]
      refine hc c3 H3 σ ρ μ3 (s3.K.trans hK2) (((k.step s1 M1).step s2 M2).step s3 M3) _ (PostG.bnd p3 fun a μ4 w' c4 H4 s4 M4 q4 p4 => ?_)
      exact h2 c4 H4 σ μ4 w w' y a (s4.K.trans (s3.K.trans hK2)) M4 ((q2.step s3).step s4) q4 Q (Post.of p4)
    | false =>
      rw [if_neg Bool.false_ne_true]
      exact post_bl M3 p3
  | _ => exact p3.elim
theorem pd_chain {o1 o2 : CmpOp} {r1 r2 : R2} {g1 g2 : D → D → Mu → Out D} (h1 : OpR X (compareOp o1) r1) (h2 : OpR X (compareOp o2) r2) (h3 : RelO X.K W true r1 g1) (h4 : RelO X.K W true r2 g2) (ha : PD X W true e ma) (hb : PD X W true f mb) (hc : PD X W true g mc)
    (hm : lastMarks [o1, o2] [f, g] = false := by with_unfolding_all rfl) : PD X W b (.Compare e [o1, o2] [f, g] pos) (mChain g1 g2 ma mb mc) := by
  obtain ⟨t1, a1, a2⟩ := ha
  obtain ⟨t2, b1, b2⟩ := hb
  obtain ⟨t3, c1, c2⟩ := hc
  exact ⟨_, pe_chain h1 h2 a1 b1 c1 hm, sim_chain h3 h4 a2 b2 c2⟩
theorem pdt_chain {o1 o2 : CmpOp} {r1 r2 : R2} {g1 g2 : D → D → Mu → Out D} (h1 : OpR X (compareOp o1) r1) (h2 : OpR X (compareOp o2) r2) (h3 : RelO X.K W true r1 g1) (h4 : RelO X.K W true r2 g2) (ha : PD X W true e ma) (hb : PD X W true f mb) (hc : PD X W true g mc)
    (hm : lastMarks [o1, o2] [f, g] = false := by with_unfolding_all rfl) : PDT X W (.Compare e [o1, o2] [f, g] pos) (mTest (mChain g1 g2 ma mb mc)) := by
  obtain ⟨t1, a1, a2⟩ := ha
  obtain ⟨t2, b1, b2⟩ := hb
  obtain ⟨t3, c1, c2⟩ := hc
  refine ⟨_, pt_chain h1 h2 a1 b1 c1 hm, ?_⟩
  exact sim_test (sim_chain (b := true) h3 h4 a2 b2 c2)
/-! ### slices -/
abbrev SOp := Env → Mu → Out (Option Int)
abbrev PostO := PostG (α := Option Int) (β := Option Int) (fun _ _ v d => v = d)
def PDO (X : Cx) (W : WX) (e : Option Expr) (m : SOp) : Prop := ∃ t, PO X e t ∧ ∀ c H σ ρ μ, c.K = X.K → Ok c H σ ρ μ → ∀ Q : Option Int → Hp → Prop, PostO c σ H W (m ρ μ) Q → t σ H Q
def oNone : SOp := fun _ μ => .ok none μ
def oInt : D → Mu → Out (Option Int)
  | .int i, m => .ok (some i) m
  | _, _ => .stuck
def oSome (ma : SE) : SOp := fun ρ μ => (ma ρ μ).bnd oInt
theorem pdo_none : PDO X W none oNone := ⟨_, po_none, fun c H σ ρ μ _ k Q p => p none c H (Stp.refl c H) k.m rfl⟩
theorem pdo_some (h : PD X W true e ma) : PDO X W (some e) (oSome ma) := by
  obtain ⟨t, h1, h2⟩ := h
  refine ⟨_, po_some h1, fun c H σ ρ μ hK k Q p => ?_⟩
  refine h2 c H σ ρ μ hK k _ (PostG.bnd p fun d μ1 v c1 H1 s1 M1 r1 p1 => ?_)
  cases d with
  | int i => exact ⟨i, rep_int r1, p1 (some i) c1 H1 (Stp.refl _ _) M1 rfl⟩
  | _ => exact p1.elim
/-- the items from lo to hi -/
def cutD (l : List D) (lo hi : Option Int) : List D := (l.drop (HT.sIx l.length 0 lo)).take (HT.sIx l.length l.length hi - HT.sIx l.length 0 lo)
theorem reps_cut {c : Ct} {H : Hp} {vs : List V} {ds : List D} (r : Reps c H vs ds) (lo hi : Option Int) : Reps c H (cutV vs lo hi) (cutD ds lo hi) := by
  unfold cutV cutD
  rw [r.length]
  exact (r.drop _).take _
theorem cutD_whole {l : List D} {lo hi : Option Int} (h : HT.sIx l.length 0 lo = 0 ∧ HT.sIx l.length l.length hi = l.length) : cutD l lo hi = l := by
  unfold cutD
  rw [h.1, h.2]
  simp
def fSlice (d : D) (lo hi : Option Int) (m : Mu) : Out D := match d with
  | .tup l => .ok (.tup (cutD l lo hi)) m
  | d => (match listOf m d with
    | some l => .ok (.lst (cutD l lo hi)) m
    | none => .stuck)
def mSlice (ma : SE) (ml mh : SOp) : SE := fun ρ μ => (ma ρ μ).bnd fun d μ1 => (ml ρ μ1).bnd fun lo μ2 => (mh ρ μ2).bnd fun hi μ3 => fSlice d lo hi μ3
theorem pd_slice {lo hi : Option Expr} {ml mh : SOp} {p2 : Pos} (ha : PD X W true e ma) (hl : PDO X W lo ml) (hh : PDO X W hi mh) : PD X W b (.Subscript e (.Slice lo hi none p2) pos) (mSlice ma ml mh) := by
  obtain ⟨ta, a1, a2⟩ := ha
  obtain ⟨tl, l1, l2⟩ := hl
  obtain ⟨th, h1, h2⟩ := hh
  refine ⟨_, pe_slice (sl_list.or sl_tupA) a1 l1 h1, fun c H σ ρ μ hK k Q p => ?_⟩
  refine a2 c H σ ρ μ hK k _ (PostG.bnd p fun d μ1 v c1 H1 s1 M1 r1 p1 => ?_)
  refine l2 c1 H1 σ ρ μ1 (s1.K.trans hK) (k.step s1 M1) _ (PostG.bnd p1 fun lo' μ2 vl c2 H2 s2 M2 r2 p2 => ?_)
  refine h2 c2 H2 σ ρ μ2 (s2.K.trans (s1.K.trans hK)) ((k.step s1 M1).step s2 M2) _ (PostG.bnd p2 fun hi' μ3 vh c3 H3 s3 M3 r3 p3 => ?_)
  subst r2 r3
  have r4 := (r1.step s2).step s3
  have asL : ∀ l, listOf μ3 d = some l → (∀ l, d ≠ .tup l) → rSlL X.K v vl vh H3 Q := by
    intro l e nt
    obtain ⟨a, vs, rfl, q1, q2⟩ := rep_list M3 r4 e
    refine ⟨a, vs, rfl, SqL.of q1, fun q hq => ?_⟩
    have p4 : Post b c3 σ H3 W (.ok (.lst (cutD l vl vh)) μ3) Q := by
      have p5 : Post b c3 σ H3 W (fSlice d vl vh μ3) Q := p3
      unfold fSlice at p5
      cases d with
      | tup z => exact absurd rfl (nt z)
      | _ =>
        simp only [e] at p5
        exact p5
    exact post_lst M3 (reps_cut q2 vl vh) hq p4
  cases d with
  | tup l =>
    obtain ⟨a, vs, rfl, q0, q1, q2⟩ := rep_tup r4
    have p5 : Post b c3 σ H3 W (.ok (.tup (cutD l vl vh)) μ3) Q := p3
    refine .inr ⟨a, vs, rfl, SqT.of q1, fun hw => ?_, fun hw q hq => ?_⟩
    · rw [q2.length] at hw
      rw [cutD_whole hw] at p5
      exact post_val M3 (.tup q0 q1 q2) p5
    · exact post_tup M3 (reps_cut q2 vl vh) hq p5
  | lst l => exact .inl (asL l rfl (fun _ z => by cases z))
  | cell n =>
    cases e : listOf μ3 (.cell n) with
    | none =>
      have p5 : Post b c3 σ H3 W (fSlice (.cell n) vl vh μ3) Q := p3
      unfold fSlice at p5
      simp only [e] at p5
      exact p5.elim
    | some l => exact .inl (asL l e (fun _ z => by cases z))
  | scr l =>
    cases e : listOf μ3 (.scr l) with
    | none =>
      have p5 : Post b c3 σ H3 W (fSlice (.scr l) vl vh μ3) Q := p3
      unfold fSlice at p5
      simp only [e] at p5
      exact p5.elim
    | some l' => exact .inl (asL l' e (fun _ z => by cases z))
  | _ =>
    have p5 : Post b c3 σ H3 W .stuck Q := p3
    exact p5.elim
/-! ### several names at once -/
def sAsg (m : SE) (tg : TgD) : SS := fun ρ μ => (m ρ μ).go ρ fun d μ1 => match tg d ρ with
  | some ρ1 => .nx ρ1 μ1
  | none => .stuck
theorem psd_asg {tgt : Expr} {tg : TgD} {is : List Nat} (h : PD X W false e ma) (hg : PGD X tgt tg is) (hs : swapsWithSole [tgt] e pos.line X.env = pure false := by rfl) (hw : swappedStores [tgt] e X.env = pure none := by rfl)
    (h1 : (assignEach [tgt] X.env).map (·.2) = [assign tgt X.env] := by rfl) : PSD X W (.Assign [tgt] e pos) (sAsg ma tg) := by
  obtain ⟨t, a1, a2⟩ := h
  obtain ⟨gg, b1, b2⟩ := hg
  refine ⟨_, ps_asg a1 b1 hs hw h1, fun B c H σ ρ μ hK f D p => ?_⟩
  refine a2 c H σ ρ μ hK f.ok _ (f.go p fun d m v c1 H1 s1 f1 r1 p1 => ?_)
  cases et : tg d ρ with
  | none => rw [et] at p1; exact p1.elim
  | some ρ1 =>
    rw [et] at p1
    exact b2 c1 H1 v d (s1.K.trans hK) r1.rep (fun σ ρ => FrR B c1 H1 σ ρ m) (fun _ _ _ _ _ _ f r => f.setv r) σ ρ ρ1 f1 et _ fun σ1 f2 => p1 c1 H1 σ1 f2
/-- a, b = x, y -/
def sPar (i j : Nat) (mr : SA) : SS := fun ρ μ => (mr ρ μ).go ρ fun ds μ1 => match ds with
  | [d, e] => .nx (setE (setE ρ i d) j e) μ1
  | _ => .stuck
theorem psd_par {i j : Nat} {x y : Str} {px py pt : Pos} {kt k2 : Nat} {pt2 : Pos} {mr : SA} (hc : X.calm = true) (hN : X.N.Nodup) (ha : PDA X W false [e, f] mr) (hi : X.N[i]? = some x := by rfl) (hj : X.N[j]? = some y := by rfl) (hij : i ≠ j := by decide)
    (hx : X.env.scope.names.lookup x = some .local := by rfl) (hy : X.env.scope.names.lookup y = some .local := by rfl)
    (hw : swappedStores [.Tuple [.Name x px, .Name y py] kt pt] (.Tuple [e, f] k2 pt2) X.env = pure (some [x, y]) := by rfl)
    (hs : swapsWithSole [.Tuple [.Name x px, .Name y py] kt pt] (.Tuple [e, f] k2 pt2) pos.line X.env = pure false := by rfl) : PSD X W (.Assign [.Tuple [.Name x px, .Name y py] kt pt] (.Tuple [e, f] k2 pt2) pos) (sPar i j mr) := by
  obtain ⟨t, a1, a2⟩ := ha
  refine ⟨_, ps_par hc hN hi hj hij hx hy a1 hw hs, fun B c H σ ρ μ hK f D p => ?_⟩
  refine a2 c H σ ρ μ hK f.ok _ (f.go p fun ds m vs c1 H1 s1 f1 r1 p1 => ?_)
  cases r1 with
  | nil => exact p1.elim
  | cons q1 t1 =>
    cases t1 with
    | nil => exact p1.elim
    | cons q2 t2 =>
      cases t2 with
      | cons _ _ => exact p1.elim
      | nil => exact ⟨_, _, rfl, p1 c1 H1 _ ((f1.setv q1.rep).setv q2.rep)⟩
/-! ### while: so many turns at most -/
def whileL (t : ST') (m : SS) : Nat → SS
  | 0, _, _ => .stuck
  | n + 1, ρ, μ => (t ρ μ).go ρ fun k μ1 => if k = true then (match m ρ μ1 with
    | .nx ρ2 μ2 => whileL t m n ρ2 μ2
    | .ct ρ2 μ2 => whileL t m n ρ2 μ2
    | .bk ρ2 μ2 => .nx ρ2 μ2
    | o => o) else .nx ρ μ1
theorem psd_while {c : Expr} {body : List Stmt} {mt : ST'} {m : SS} (n : Nat) (hp : PassesOwn (model X.prog X.w) X.A X.env X.xe) (ht : PDT X W c mt) (hb : PSDs X W body m) : PSD X W (.While c body [] pos) (whileL mt m n) := by
  obtain ⟨t, t1, t2⟩ := ht
  obtain ⟨u, u1, u2⟩ := hb
  refine ⟨_, ps_while hp t1 u1, fun B c H σ ρ μ hK f D p => ?_⟩
  refine ⟨fun k σ' H' => ∃ c' ρ' μ', c'.K = X.K ∧ FrR B c' H' σ' ρ' μ' ∧ PostS B W (whileL mt m k ρ' μ') D, ⟨n, c, ρ, μ, hK, f, p⟩, ?_⟩
  rintro k σ' H' ⟨c', ρ', μ', hK', f', p'⟩
  cases k with
  | zero => exact p'.elim
  | succ k =>
    have p2 : PostS B W ((mt ρ' μ').go ρ' fun k' μ1 => if k' = true then (match m ρ' μ1 with
      | .nx ρ2 μ2 => whileL mt m k ρ2 μ2
      | .ct ρ2 μ2 => whileL mt m k ρ2 μ2
      | .bk ρ2 μ2 => .nx ρ2 μ2
      | o => o) else .nx ρ' μ1) D := p'
    refine t2 c' H' σ' ρ' μ' hK' f'.ok _ (f'.go p2 fun kk m1 q c1 H1 s1 f1 r1 p3 => ?_)
    subst r1
    cases q with
    | false =>
      rw [if_neg Bool.false_ne_true] at p3 ⊢
      exact p3 c1 H1 σ' f1
    | true =>
      rw [if_pos rfl] at p3
      rw [if_pos rfl]
      have hK1 := s1.K.trans hK'
      refine ⟨fun σ2 H2 => ∃ c2 ρ2 μ2, c2.K = X.K ∧ FrR B c2 H2 σ2 ρ2 μ2 ∧ PostS B W (whileL mt m k ρ2 μ2) D, fun σ2 H2 h => ⟨k, Nat.lt_succ_self _, h⟩, ?_⟩
      refine u2 B c1 H1 σ' ρ' m1 hK1 f1 _ ?_
      have back : ∀ {c2 : Ct} {H2 : Hp} {σ2 : St} {ρ2 : Env} {μ2 : Mu}, FrR B c2 H2 σ2 ρ2 μ2 → c2.K = X.K := fun f2 => f2.K.trans (f1.K.symm.trans hK1)
      cases eo : m ρ' m1 with
      | nx ρ2 μ2 => simp only [eo] at p3; exact fun c2 H2 σ2 f2 => ⟨c2, ρ2, μ2, back f2, f2, p3⟩
      | ct ρ2 μ2 => simp only [eo] at p3; exact fun c2 H2 σ2 f2 => ⟨c2, ρ2, μ2, back f2, f2, p3⟩
      | bk ρ2 μ2 => simp only [eo] at p3; exact p3
      | rt d2 μ2 => simp only [eo] at p3; exact p3
      | exn y fs ρ2 μ2 => simp only [eo] at p3; exact p3
      | stuck => simp only [eo] at p3; exact p3.elim
end
end DL
/-! # Dx: name = [..] on one line; extend; calls with keywords -/
namespace DL
open PySem PySem.Spec L2
open PyProof.Rows hiding St
variable [HasL] [HasX] [HasH]
theorem sim_setN {K : PySem.W.Frag} {W : WX} {t : TE} {mn : SN} {i : Nat} (h : SimN K W t mn) : SimS K W (tAsg t (gName i)) (sSetN i mn) := by
  intro B c H σ ρ μ hK f D p
  refine h c H σ ρ μ hK f.ok _ ?_
  unfold sSetN at p
  cases q : mn ρ μ with
  | ok ds m =>
    rw [q] at p
    exact fun a vs c' H' s hn M ha hc r => p _ H' _ (f.setN s hn M ha hc r)
  | exn y fs m =>
    rw [q] at p
    exact fun cls dd c' H' s M r => p c' H' σ cls dd (f.step s M) r
  | stuck => rw [q] at p; exact p
theorem sim_ls {K : PySem.W.Frag} {W : WX} {b : Bool} {t : TE} {mn : SN} (h : SimN K W t mn) : SimE K W b t (mLs mn) := by
  intro c H σ ρ μ hK k Q p
  refine h c H σ ρ μ hK k Q ?_
  unfold mLs at p
  cases q : mn ρ μ with
  | ok ds m =>
    rw [q] at p
    intro a vs c' H' s hn M ha hc r
    have sub : ∀ x ∈ c'.br, x ∈ (a :: c'.br) := fun x hx => List.mem_cons_of_mem _ hx
    refine p (.ref a) c' H' s (MRel.lessB (c := ⟨c'.K, c'.cs, a :: c'.br⟩) (br := c'.br) sub M) (Rep.f (.lst hc (fun z => ?_) ha (Reps.lessB (c := ⟨c'.K, c'.cs, a :: c'.br⟩) (br := c'.br) sub r)))
    have z' : a ∈ c.br := by rw [← s.br]; exact z
    obtain ⟨o, ho⟩ := k.m.br a z'
    rw [hn] at ho
    cases ho
  | exn x fs m => rw [q] at p; exact p
  | stuck => rw [q] at p; exact p
theorem sim_setV {K : PySem.W.Frag} {W : WX} {t : TE} {ma : SE} {i : Nat} (h : SimE K W false t ma) : SimS K W (tAsg t (gName i)) (sSet i ma) := by
  intro B c H σ ρ μ hK f D p
  exact h c H σ ρ μ hK f.ok _ (f.go p fun d m v c' H' s f' r p' => p' c' H' _ (f'.setv r.rep))
section
variable {X : Cx} {W : WX} {elt tg iter : Expr} {ifs : List Expr} {scope : Scope} {own : List (Str × Nat)} {pos spos py : Pos} {mi : SI} {tgd : TgD} {is : List Nat} {mt : ST'} {me : SE} {i : Nat} {y : Str}
theorem psd_setNc (hc : X.calm = true) (hN : X.N.Nodup) (hi : PID X W tg iter mi) (ok : blkC X.N X.env.scope scope own = true)
    (hg : ∀ (s : Shared) (H : Hp) (C : Addr) (cl : List (Str × Addr)) (fp : List Addr), PGD (X.blk s H scope (compEnvC scope cl C X.env) fp) tg tgd is)
    (ht : ∀ (s : Shared) (H : Hp) (C : Addr) (cl : List (Str × Addr)) (fp : List Addr), PDTs (X.blk s H scope (compEnvC scope cl C X.env) fp) W0 ifs mt)
    (he : ∀ (s : Shared) (H : Hp) (C : Addr) (cl : List (Str × Addr)) (fp : List Addr), PD (X.blk s H scope (compEnvC scope cl C X.env) fp) W0 false elt me)
    (his : (is.all fun i => decide (i ∈ own.map (·.2))) = true) (hy : X.N[i]? = some y := by rfl) (hyl : X.env.scope.names.lookup y = some .local := by rfl)
    (hsw : swapsWith (.ListComp elt [⟨tg, iter, ifs, 0⟩] scope pos) (some (.Name y py)) spos.line X.env = pure true := by rfl) (hs : ∀ x, foldedSetIterable iter X.env x = pure x := by intro _; rfl) :
    PSD X W (.Assign [.Name y py] (.ListComp elt [⟨tg, iter, ifs, 0⟩] scope pos) spos) (sSetN i (nComp mi tgd mt me (own.map (·.2)))) := by
  obtain ⟨wi, i1, i2⟩ := hi
  exact ⟨_, ps_setLc hc hN hy hyl hsw i1 (blkOk_by ok) (fun s H C cl fp => (hg s H C cl fp).of) (fun s H C cl fp => (show PTs _ ifs (tOfD X.K W0 mt) from ht s H C cl fp)) (fun s H C cl fp => (he s H C cl fp).of) hs,
    sim_setN (sim_comp i2 fun i hi => of_decide_eq_true (List.all_eq_true.mp his i hi))⟩
theorem psd_setc (hc : X.calm = true) (hN : X.N.Nodup) (hi : PID X W tg iter mi) (ok : blkC X.N X.env.scope scope own = true)
    (hg : ∀ (s : Shared) (H : Hp) (C : Addr) (cl : List (Str × Addr)) (fp : List Addr), PGD (X.blk s H scope (compEnvC scope cl C X.env) fp) tg tgd is)
    (ht : ∀ (s : Shared) (H : Hp) (C : Addr) (cl : List (Str × Addr)) (fp : List Addr), PDTs (X.blk s H scope (compEnvC scope cl C X.env) fp) W0 ifs mt)
    (he : ∀ (s : Shared) (H : Hp) (C : Addr) (cl : List (Str × Addr)) (fp : List Addr), PD (X.blk s H scope (compEnvC scope cl C X.env) fp) W0 false elt me)
    (his : (is.all fun i => decide (i ∈ own.map (·.2))) = true) (hy : X.N[i]? = some y := by rfl) (hyl : X.env.scope.names.lookup y = some .local := by rfl)
    (hsw : swapsWith (.ListComp elt [⟨tg, iter, ifs, 0⟩] scope pos) (some (.Name y py)) spos.line X.env = pure true := by rfl) (hs : ∀ x, foldedSetIterable iter X.env x = pure x := by intro _; rfl) :
    PSD X W (.Assign [.Name y py] (.ListComp elt [⟨tg, iter, ifs, 0⟩] scope pos) spos) (sSet i (mLs (nComp mi tgd mt me (own.map (·.2))))) := by
  obtain ⟨wi, i1, i2⟩ := hi
  exact ⟨_, ps_setLc hc hN hy hyl hsw i1 (blkOk_by ok) (fun s H C cl fp => (hg s H C cl fp).of) (fun s H C cl fp => (show PTs _ ifs (tOfD X.K W0 mt) from ht s H C cl fp)) (fun s H C cl fp => (he s H C cl fp).of) hs,
    sim_setV (sim_ls (sim_comp i2 fun i hi => of_decide_eq_true (List.all_eq_true.mp his i hi)))⟩
end

/-! ### calls with keywords: each parameter given once -/
/-- the values by name, in the parameters' order -/
def byName {α : Type} (ps ks : List Str) (us ws : List α) : List α := ps.zipIdx.filterMap fun p => if h : p.2 < us.length then some us[p.2] else (ks.zip ws).lookup p.1
end DL
namespace DL
open PySem PySem.Spec L2
open PyProof.Rows hiding St
variable [HasL] [HasX] [HasH]
theorem takes_blk {X : Cx} {s : Shared} {H : Hp} {scope : Scope} {cenv : PySem.Env} {fp : List Addr} : Takes (X.blk s H scope cenv fp) W0 := fun _ _ ⟨_, _, _, _, _, _, _, _, _, _, _, _, _, _, _, _, w⟩ => w
end DL
/-! # Dy: range with a step of -1, x += e, xs.index(e), xs[::-1], list(range(..)), a, b, c = x, y, z -/
namespace DL
open PySem PySem.Spec L2
open PyProof.Rows hiding St
variable [HasL] [HasX] [HasH]
section
variable {X : Cx} {W : WX} {b : Bool} {e f g : Expr} {es : List Expr} {ma mb mc : SE} {mr : SA} {p pos : Pos} {target : Expr}
/-- i, i - 1, .. -/
def dwnL (i : Int) (n : Nat) : List D := (List.range n).map fun (k : Nat) => D.int (i + (k : Int) * (-1))
theorem wlk_down (K : PySem.W.Frag) (i : Int) (n : Nat) : Wlk K (Itc i (-1) n) (fun _ _ => True) (dwnL i n) := by
  have hl : (dwnL i n).length = n := by simp [dwnL]
  refine ⟨fun j c H _ hj _ => ?_, fun c H _ _ => ?_, fun j c H x H' _ _ _ _ hj y => ?_⟩
  · rw [hl] at hj; exact hj
  · rw [hl]; exact Nat.le_refl _
  · obtain ⟨e1, e2⟩ := y
    subst e1 e2
    rw [hl] at hj
    exact ⟨Same.refl _, .int (i + (j : Int) * (-1)), by simp [dwnL, hj], .int _⟩
def fRng3 : List D → Mu → Out (List D)
  | [.int i, .int j, .int k], m => if in62 i = true ∧ in62 j = true ∧ k = -1 then .ok (dwnL i (i - j).toNat) m else .stuck
  | _, _ => .stuck
theorem pid_range3 {e1 e2 e3 : Expr} {mr : SA} (hm : X.mg "range" = none) (ha : PDA X W true [e1, e2, e3] mr) (hg : Gl X "range" := by rfl) (hs : starEach [e1, e2, e3] X.env = (false, eval e1 X.env) :: starEach [e2, e3] X.env := by rfl) (hpl : (backTo pos (starEach [e2, e3] X.env)).any (·.1) = false := by rfl) :
    PID X W target (.Call (.Name "range" p) [e1, e2, e3] [] pos) (mRng fRng3 mr) := by
  obtain ⟨t, h1, h2⟩ := ha
  refine ⟨_, pi_range3 hg hm h1 hs hpl, fun c H σ ρ μ hK k R q => ?_⟩
  refine h2 c H σ ρ μ hK k _ (PostG.bnd q fun ds μ1 vs c1 H1 s1 M1 r1 p1 => ?_)
  unfold fRng3 at p1
  split at p1
  · rename_i m i j kk
    split at p1
    · rename_i hj
      obtain ⟨a1, a2, a3⟩ := hj
      subst a3
      cases r1 with
      | cons q1 t1 =>
        cases t1 with
        | cons q2 t2 =>
          cases t2 with
          | cons q3 t3 =>
            cases t3
            obtain ⟨i1, i2⟩ := in62_ok a1
            obtain ⟨j1, j2⟩ := in62_ok a2
            exact ⟨i, j, -1, _, by rw [rep_int q1, rep_int q2, rep_int q3], RgC.neg i1 i2 j1 j2, p1 _ c1 H1 (Stp.refl _ _) M1 ⟨[], [], .free (wlk_down _ i _), .nil⟩⟩
    · exact p1.elim
  · exact p1.elim
/-! ### x op= e -/
def sAug (i : Nat) (g : D → D → Mu → Out D) (ma : SE) : SS := fun ρ μ => (mVal i ρ μ).go ρ fun d μ1 => (ma ρ μ1).go ρ fun e μ2 => (g d e μ2).go ρ fun r μ3 => .nx (setE ρ i r) μ3
theorem psd_aug {i : Nat} {x : Str} {op : Operator} {r : R2} {gg : D → D → Mu → Out D} {pos' : Pos} (ho : OpR X (inplaceOp op) r) (hr : RelO X.K W true r gg) (hN : X.N.Nodup) (ha : PD X W true e ma) (hi : X.N[i]? = some x := by rfl) (hx : Loc X.env.scope x := by first | exact Or.inl rfl | exact Or.inr rfl)
    (hf : X.fn x = true ∨ X.env.scope.names.lookup x = some .local := by first | exact .inl rfl | exact .inr rfl | assumption) : PSD X W (.AugAssign (.Name x pos') op e pos) (sAug i gg ma) := by
  obtain ⟨t, h1, h2⟩ := ha
  refine ⟨_, ps_aug (ti := r) hN hi hx h1 ho hf, fun B c H σ ρ μ hK f D p => ?_⟩
  unfold sAug mVal at p
  cases eo : ρ[i]? with
  | none => rw [eo] at p; exact p.elim
  | some o =>
    cases o with
    | none => rw [eo] at p; exact p.elim
    | some s =>
      cases s with
      | own l => rw [eo] at p; exact p.elim
      | val d =>
        rw [eo] at p
        have p0 : PostS B W ((ma ρ μ).go ρ fun e μ2 => (gg d e μ2).go ρ fun r μ3 => .nx (setE ρ i r) μ3) D := p
        obtain ⟨v, hv, rv⟩ := f.ok.e.val i d eo
        refine ⟨v, hv, ?_⟩
        refine h2 c H σ ρ μ hK f.ok _ (f.go p0 fun e m w c1 H1 s1 f1 r1 p1 => ?_)
        refine hr c1 H1 σ m v w d e (s1.K.trans hK) f1.ok.m (rv.step s1).f r1 _ (f1.go p1 fun z m2 u c2 H2 s2 f2 r2 p2 => ?_)
        exact p2 c2 H2 _ (f2.setv r2.rep)
theorem psd_augMul {i : Nat} {x : Str} {pos' : Pos} (hN : X.N.Nodup) (ha : PD X W true e ma) (hi : X.N[i]? = some x := by rfl) (hx : Loc X.env.scope x := by first | exact Or.inl rfl | exact Or.inr rfl)
    (hf : X.fn x = true ∨ X.env.scope.names.lookup x = some .local := by first | exact .inl rfl | exact .inr rfl | assumption) : PSD X W (.AugAssign (.Name x pos') .Mult e pos) (sAug i (fI cMul fun i j => i * j) ma) := psd_aug iop_mul (rel_I cMul_ok) hN ha hi hx hf
def fAddN : D → D → Mu → Out D := fI (fun _ _ => true) fun i j => i + j
theorem psd_augAdd {i : Nat} {x : Str} {pos' : Pos} (hN : X.N.Nodup) (ha : PD X W true e ma) (hi : X.N[i]? = some x := by rfl) (hx : Loc X.env.scope x := by first | exact Or.inl rfl | exact Or.inr rfl)
    (hf : X.fn x = true ∨ X.env.scope.names.lookup x = some .local := by first | exact .inl rfl | exact .inr rfl | assumption) : PSD X W (.AugAssign (.Name x pos') .Add e pos) (sAug i fAddN ma) := psd_aug iop_add rel_I0 hN ha hi hx hf
/-! ### xs[::-1] -/
def nRev (ma : SE) : SN := fun ρ μ => (ma ρ μ).bnd fun d μ1 => match listOf μ1 d with
  | some l => .ok l.reverse μ1
  | none => .stuck
theorem Reps.reverse {c : Ct} {H : Hp} : ∀ {vs : List V} {ds : List D}, Reps c H vs ds → Reps c H vs.reverse ds.reverse
  | _, _, .nil => .nil
  | _, _, .cons h t => by
    rw [List.reverse_cons, List.reverse_cons]
    exact (Reps.reverse t).append (.cons h .nil)
theorem pdn_rev {k : Nat} {p1 p2 p3 : Pos} (ha : PD X W true e ma) : PDN X W (.Subscript e (.Slice none none (some (.UnaryOp .USub (.Constant (.int 1) k p1) p2)) p3) pos) (nRev ma) := by
  obtain ⟨t, h1, h2⟩ := ha
  refine ⟨_, pe_revL h1, fun c H σ ρ μ hK k Q p => ?_⟩
  refine h2 c H σ ρ μ hK k _ (PostN.bnd p fun d μ1 v c1 H1 s1 M1 r1 p1 => ?_)
  cases q : listOf μ1 d with
  | none => rw [q] at p1; exact p1.elim
  | some l =>
    rw [q] at p1
    obtain ⟨a, vs, rfl, h4, h5⟩ := rep_list M1 r1 q
    exact ⟨a, vs, rfl, SqL.of h4, fun q2 hq => p1.lay M1 h5.reverse hq⟩
/-! ### xs.index(e) -/
def findD (q : PyData) : List PyData → Nat → Option Nat
  | [], _ => none
  | z :: r, n => if PyData.eqv z q = true then some n else findD q r (n + 1)
theorem findD_ok {q : PyData} : ∀ {l : List PyData} {n j : Nat}, findD q l n = some j → ∃ k z, j = n + k ∧ l[k]? = some z ∧ PyData.eqv z q = true ∧ ∀ m z', m < k → l[m]? = some z' → PyData.eqv z' q = false
  | [], _, _, h => by cases h
  | z :: r, n, j, h => by
    unfold findD at h
    by_cases e : PyData.eqv z q = true
    · rw [if_pos e] at h
      cases h
      exact ⟨0, z, rfl, rfl, e, fun m z' hm => absurd hm (Nat.not_lt_zero _)⟩
    · rw [if_neg e] at h
      obtain ⟨k, z1, e1, e2, e3, e4⟩ := findD_ok h
      refine ⟨k + 1, z1, by omega, by simpa using e2, e3, fun m z' hm hz => ?_⟩
      cases m with
      | zero =>
        have : z = z' := by simpa using hz
        subst this
        simpa using e
      | succ m => exact e4 m z' (by omega) (by simpa using hz)
def fIndex (d e : D) (m : Mu) : Out D := match d.pyM m, e.pyM m with
  | some (.list ds), some q => if SeqAt.shaped (.list ds) = true ∧ SeqAt.shaped q = true then (match findD q ds 0 with
    | some j => .ok (.int (j : Nat)) m
    | none => .stuck) else .stuck
  | _, _ => .stuck
def mIndex (ma mb : SE) : SE := fun ρ μ => (ma ρ μ).bnd fun d μ1 => match listOf μ1 d with
  | some _ => (mb ρ μ1).bnd fun e μ2 => fIndex d e μ2
  | none => .stuck
theorem pd_index {apos : Pos} (hu : X.A.units + 65 < cLine) (ha : PD X W true e ma) (hb : PD X W true f mb) (hbase : attributeBase e "index" X.env (eval e X.env) = eval e X.env := by rfl)
    (hfew : ((backTo pos (starEach (f :: []) X.env)).all (fun x => !x.1) && (backToKw pos (keywordEach [] X.env)).all (fun x => x.1.isSome)
      && decide ((f :: []).length + ([] : List Keyword).length + (if ([] : List Keyword).isEmpty then 0 else 1) < 30)) = true := by rfl)
    (hline : (apos.endLine == pos.line) = true := by rfl) (hs : starEach (f :: []) X.env = (false, eval f X.env) :: starEach [] X.env := by rfl) (hplain : (backTo pos (starEach [] X.env)).any (·.1) = false := by rfl) :
    PD X W b (.Call (.Attribute e "index" apos) [f] [] pos) (mIndex ma mb) := by
  obtain ⟨ta, a1, a2⟩ := ha
  obtain ⟨tb, b1, b2⟩ := hb
  refine ⟨_, pe_bm PySem.F.plainAttrs_list PySem.F.slot_list_index PySem.F.type_list_index (mt_indexD hu) a1 (pa_cons b1 pa_nil hs) hbase hfew hline hs hplain, fun c H σ ρ μ hK k Q p => ?_⟩
  refine a2 c H σ ρ μ hK k _ (PostG.bnd p fun d μ1 v c1 H1 s1 M1 r1 p1 => ?_)
  cases e1 : listOf μ1 d with
  | none => rw [e1] at p1; exact p1.elim
  | some l =>
    rw [e1] at p1
    obtain ⟨a, vs, ev, h2, h3⟩ := rep_list M1 r1 e1
    subst ev
    refine ⟨.inl ⟨rfl, vs, SqL.of h2⟩, ?_⟩
    refine b2 c1 H1 σ ρ μ1 (s1.K.trans hK) (k.step s1 M1) _ (PostG.bnd p1 fun e' μ2 w c2 H2 s2 M2 r2 p2 => ?_)
    have hK2 : c2.K = X.K := s2.K.trans (s1.K.trans hK)
    unfold fIndex at p2
    cases q1 : d.pyM μ2 with
    | none => rw [q1] at p2; exact p2.elim
    | some dd =>
      cases q2 : e'.pyM μ2 with
      | none => rw [q1, q2] at p2; cases dd <;> exact p2.elim
      | some q =>
        rw [q1, q2] at p2
        cases dd with
        | list ds =>
          have p3 : Post b c2 σ H2 W (if SeqAt.shaped (.list ds) = true ∧ SeqAt.shaped q = true then (match findD q ds 0 with
            | some j => .ok (.int (j : Nat)) μ2
            | none => .stuck) else .stuck) Q := p2
          by_cases hc : SeqAt.shaped (.list ds) = true ∧ SeqAt.shaped q = true
          · rw [if_pos hc] at p3
            cases q3 : findD q ds 0 with
            | none => rw [q3] at p3; exact p3.elim
            | some j =>
              rw [q3] at p3
              obtain ⟨kk, z, ej, z1, z2, z3⟩ := findD_ok q3
              rw [Nat.zero_add] at ej
              subst ej
              have d1 := rep_dp M2 (r1.step s2) q1
              have d2 := rep_dp M2 r2 q2
              rw [hK2] at d1 d2
              exact ⟨a, w, q, ds, j, z, rfl, rfl, d1, d2, hc.1, hc.2, z1, z2, z3, post_int M2 p3⟩
          · rw [if_neg hc] at p3
            exact p3.elim
        | _ => exact p2.elim
end
end DL
/-! # Dz: calls with keywords; zip; extend, pop; list * int; list(range(..)) -/
namespace DL
open PySem PySem.Spec L2
open PyProof.Rows hiding St
variable [HasL] [HasX] [HasH]

/-! ### calls with keywords -/
abbrev fdS (x : Str) (st : Stmt) (kV doc pm : Value) (an : Option Addr) (cdv ct : Value) : FuncData := PySem.W.fnOf x x (defArgs st) (defBody st) (defScope st) .none kV doc pm an cdv ct
/-- a def of the module that may be called by its name, its text told -/
structure CalK (P : Program) (w : World) (K : PySem.W.Frag) (mg : Str → Option Value) (base : Heap) (k : Nat) (x : Str) (st : Stmt) (ps : List Str) (F : FD) : Prop where
  ex : ∃ f kV doc pm an cdv ct, mg x = some (.ref f) ∧ PySem.W.keepIn K (.ref f) = true ∧ ∀ h : HasH, FnG P w K mg base (L2.CX P w) k f (fdS x st kV doc pm an cdv ct) ps (spOf (h := h) K ps.length F)
section
variable {P : Program} {w : World} {K : PySem.W.Frag} {mg : Str → Option Value} {base : Heap}
theorem calK_mk {x : Str} {st : Stmt} {N ps : List Str} {k : Nat} {m : SS} {f : Addr} {fd : FuncData} (F : FunD K x x (defArgs st) (defBody st) (defScope st) [] [] f fd) (hm : mg x = some (.ref f)) (S : FnScope N ps (defScope st)) (hNp : ps.length ≤ N.length)
    (hb : ∀ (h : HasH) (cdv : Value) (A : Around) (outer : List PySem.Env) (s : Shared) (H : Hp) (E : XK), Rm k (A.deeper (envOfC x (defScope st) s.heap.objs.size f cdv)) → PSDs (cxOf (L2.CX P w) P w K mg base N x (defScope st) f cdv A outer s H E) (WE' E) (defBody st) m) :
    CalK P w K mg base (k + 1) x st ps (mFn ps.length N.length m) := by
  have G := fun h : HasH => fn_data (w := w) F S hNp (hb h)
  have kp := F.kp
  obtain ⟨oc, od, dV, kV, doc, pm, an, cdv, ct, osl, rfl, lk, hcd, hD, hK⟩ := F.ex
  rcases hD with ⟨_, rfl⟩ | ⟨e, _⟩
  · exact ⟨f, kV, doc, pm, an, cdv, ct, hm, kp, G⟩
  · exact absurd rfl e
theorem CalK.cal {x : Str} {st : Stmt} {ps : List Str} {k : Nat} {F : FD} (c : CalK P w K mg base k x st ps F)
    (hbind : ∀ (kV doc pm : Value) (an : Option Addr) (cdv ct : Value) (us : List Value), us.length = ps.length → bindArgs (fdS x st kV doc pm an cdv ct) ⟨us, []⟩ = pure (ps.zip us)) : Cal P w K mg base k x ps.length F := by
  obtain ⟨f, kV, doc, pm, an, cdv, ct, hm, kp, G⟩ := c.ex
  exact ⟨f, _, ps, hm, kp, G, .all (hbind kV doc pm an cdv ct), rfl⟩
end
section
variable {X : Cx} {W : WX} {b : Bool} {e : Expr} {es : List Expr} {kws : List Keyword} {mr mk : SA} {x : Str} {p pos : Pos} {k j : Nat} {F : FD} {st : Stmt} {ps ks : List Str}
def SimK (K : PySem.W.Frag) (W : WX) (t : TA) (m : SA) : Prop := SimA K W false t m
def PDK (X : Cx) (W : WX) (kws : List Keyword) (m : SA) : Prop := ∃ t, PK X kws t ∧ SimA X.K W false t m
theorem pdk_nil : PDK X W [] mNil := ⟨_, pk_nil, sim_nil⟩
theorem pdk_cons {nm : Option Str} {kpos : Pos} {ma : SE} (ha : PD X W false e ma) (hr : PDK X W kws mr) : PDK X W (⟨nm, e, kpos⟩ :: kws) (mCons ma mr) := by
  obtain ⟨t, h1, h2⟩ := ha
  obtain ⟨u, h3, h4⟩ := hr
  exact ⟨_, pk_cons h1 h3, sim_cons h2 h4⟩
/-- in the parameters' order -/
def perm {α : Type} (ord : List Nat) (l : List α) : List α := ord.filterMap fun i => l[i]?
theorem reps_perm {c : Ct} {H : Hp} {vs : List V} {ds : List D} (r : Reps c H vs ds) : ∀ ord : List Nat, Reps c H (perm ord vs) (perm ord ds)
  | [] => .nil
  | i :: ord => by
    have ih := reps_perm r ord
    unfold perm at ih ⊢
    cases h : ds[i]? with
    | none =>
      have hv : vs[i]? = none := by
        rw [List.getElem?_eq_none_iff] at h ⊢
        rw [r.length]
        exact h
      rw [List.filterMap_cons_none hv, List.filterMap_cons_none h]
      exact ih
    | some d =>
      obtain ⟨v, h1, h2⟩ := r.getD h
      rw [List.filterMap_cons_some h1, List.filterMap_cons_some h]
      exact .cons h2 ih
theorem vals_perm {vs : List V} {us : List Value} (r : Vals vs us) : ∀ ord : List Nat, Vals (perm ord vs) (perm ord us)
  | [] => .nil
  | i :: ord => by
    have ih := vals_perm r ord
    unfold perm at ih ⊢
    cases h : vs[i]? with
    | none =>
      rw [List.filterMap_cons_none (r.none_of h), List.filterMap_cons_none h]
      exact ih
    | some v =>
      obtain ⟨u, h1, h2⟩ := r.get h
      rw [List.filterMap_cons_some h1, List.filterMap_cons_some h]
      exact .cons h2 ih
/-- the arguments by place and by name -/
def mCallK (a n : Nat) (ord : List Nat) (k : Nat) (F : FD) (mr mk : SA) : SE := fun ρ μ => (mr ρ μ).bnd fun ds μ1 => (mk ρ μ1).bnd fun es μ2 => if ds.length = a ∧ es.length = n ∧ (perm ord (ds ++ es)).length = k then F (perm ord (ds ++ es)) μ2 else .stuck
def tCallKS (a n : Nat) (ord : List Nat) (sp : Sp) (E : St → XK) (t tk : TA) : TE := fun σ H Q => t σ H fun vs H1 => tk σ H1 fun zs H2 => vs.length = a ∧ zs.length = n ∧ sp (perm ord (vs ++ zs)) H2 Q (E σ)
theorem sim_callK {t tk : TA} {a n m : Nat} {ord : List Nat} (h1 : SimA X.K W false t mr) (h2 : SimA X.K W false tk mk) : SimE X.K W b (tCallKS a n ord (spOf X.K m F) (fun σ => WE W σ) t tk) (mCallK a n ord m F mr mk) := by
  intro c H σ ρ μ hK kk Q p
  refine h1 c H σ ρ μ hK kk _ (PostG.bnd p fun ds μ1 vs c1 H1 s1 M1 r1 p1 => ?_)
  refine h2 c1 H1 σ ρ μ1 (s1.K.trans hK) (kk.step s1 M1) _ (PostG.bnd p1 fun es μ2 zs c2 H2 s2 M2 r2 p2 => ?_)
  have r3 := reps_perm ((r1.reps.step s2).append r2.reps) ord
  by_cases hl : ds.length = a ∧ es.length = n ∧ (perm ord (ds ++ es)).length = m
  · rw [if_pos hl] at p2
    refine ⟨by rw [r1.length]; exact hl.1, by rw [r2.length]; exact hl.2.1, c2, μ2, perm ord (ds ++ es), s2.K.trans (s1.K.trans hK), M2, r3, hl.2.2, ?_⟩
    cases q : F (perm ord (ds ++ es)) μ2 with
    | ok d m => rw [q] at p2; exact fun v H' f' => fin_post p2 (Stp.refl _ _) f'
    | exn y fs m => rw [q] at p2; exact fun cls dd c' H' s M r => p2 cls dd c' H' s M r
    | stuck => rw [q] at p2; exact p2
  · rw [if_neg hl] at p2
    exact p2.elim
/-- it runs -/
theorem run_fnK {CX : CXT} {f : Addr} {fd : FuncData} {sp : Sp} {E : St → XK} {pins : List (Addr × Obj)} {σ : St} {H : Hp} {s : Shared} {Q : VK} {us ws : List Value} {vs zs : List V} {a n : Nat} {ord : List Nat} (G : FnG X.prog X.w X.K X.mg X.base CX k f fd ps sp)
    (room : Rm k X.A) (hb : ∀ us ws : List Value, us.length = a → ws.length = n → bindArgs fd ⟨us, ks.zip ws⟩ = pure (ps.zip (perm ord (us ++ ws)))) (hx : PassesAt CX X σ (E σ)) (I : Inv X pins σ H s) (r : Vals vs us) (rz : Vals zs ws)
    (h : vs.length = a ∧ zs.length = n ∧ sp (perm ord (vs ++ zs)) H Q (E σ)) : wpAny (model X.prog X.w) X.A (call (.ref f) us (ks.zip ws)) (EP X pins σ Q) X.xe s := by
  obtain ⟨h1, h2, h3⟩ := h
  have bound := hb us ws (by rw [← r.length]; exact h1) (by rw [← rz.length]; exact h2)
  refine wpAny_call (codeAny_mono (G.run X.A X.stack s H ⟨us, ks.zip ws⟩ (perm ord (us ++ ws)) _ Q (E σ) room I.env0 (.of_eq bound) (vals_perm (r.append rz) ord) h3) ?_)
  intro res s' ends
  cases res with
  | error e => exact hx pins H s e s' I ends
  | ok fl =>
    cases fl with
    | ret u => exact I.after ends
    | next => exact ends.elim
    | brk => exact ends.elim
    | cont => exact ends.elim
theorem pd_callK {a n : Nat} {ord : List Nat} (c : CalK X.prog X.w X.K X.mg X.base k x st ps F) (ks : List Str) (hr : Rm j X.A) (hk : k ≤ j) (tk : Takes X W) (ha : PDA X W false (e :: es) mr) (hkw : PDK X W kws mk)
    (hbind : ∀ (kV doc pm : Value) (an : Option Addr) (cdv ct : Value) (us ws : List Value), us.length = a → ws.length = n → bindArgs (fdS x st kV doc pm an cdv ct) ⟨us, ks.zip ws⟩ = pure (ps.zip (perm ord (us ++ ws))))
    (hg : Gl X x := by rfl) (hdb : (x == ("__debug__" : Str)) = false := by decide) (hall : (backToKw pos (keywordEach kws X.env)).all (·.1.isSome) = true := by rfl) (hks : (backToKw pos (keywordEach kws X.env)).filterMap (·.1) = ks := by rfl)
    (he : starEach (e :: es) X.env = (false, eval e X.env) :: starEach es X.env := by rfl)
    (hpl : ((backTo pos (starEach (e :: es) X.env)).any (·.1) || (backToKw pos (keywordEach kws X.env)).any (·.1.isNone)) = false := by rfl) : PD X W b (.Call (.Name x p) (e :: es) kws pos) (mCallK a n ord ps.length F mr mk) := by
  obtain ⟨f, kV, doc, pm, an, cdv, ct, hm, kp, G⟩ := c.ex
  obtain ⟨t, h1, h2⟩ := ha
  obtain ⟨u, h3, h4⟩ := hkw
  refine ⟨tCallKS a n ord (spOf X.K ps.length F) (fun σ => WE W σ) t u, ⟨fun pins s σ H Q I h => ?_⟩, sim_callK h2 h4⟩
  refine wpAny_Call_Name_kw (ld_glob I hg hm ?_ hdb)
  refine PySem.W.callWith_KW (h₀ := X.base) I.ok.mod.kin kp hall (thn (h1.run pos pins s σ H _ I h) ?_) hpl he
  rintro us s1 ⟨vs, H1, I1, r, q⟩
  refine thn (h3.run pos pins s1 σ H1 _ I1 q) ?_
  rintro ws s2 ⟨zs, H2, I2, rz, q2⟩
  refine ⟨I2.kIn, ?_⟩
  rw [hks]
  exact run_fnK (G ‹HasH›) (hr.mono hk) (hbind kV doc pm an cdv ct) (passAt tk σ) I2 r rz q2
/-- all by name -/
theorem pd_callK0 {n : Nat} {ord : List Nat} (c : CalK X.prog X.w X.K X.mg X.base k x st ps F) (ks : List Str) (hr : Rm j X.A) (hk : k ≤ j) (tk : Takes X W) (hkw : PDK X W kws mk)
    (hbind : ∀ (kV doc pm : Value) (an : Option Addr) (cdv ct : Value) (us ws : List Value), us.length = 0 → ws.length = n → bindArgs (fdS x st kV doc pm an cdv ct) ⟨us, ks.zip ws⟩ = pure (ps.zip (perm ord (us ++ ws))))
    (hg : Gl X x := by rfl) (hdb : (x == ("__debug__" : Str)) = false := by decide) (hall : (backToKw pos (keywordEach kws X.env)).all (·.1.isSome) = true := by rfl) (hks : (backToKw pos (keywordEach kws X.env)).filterMap (·.1) = ks := by rfl)
    (hpl : ((backTo pos (starEach [] X.env)).any (·.1) || (backToKw pos (keywordEach kws X.env)).any (·.1.isNone)) = false := by rfl) : PD X W b (.Call (.Name x p) [] kws pos) (mCallK 0 n ord ps.length F mNil mk) := by
  obtain ⟨f, kV, doc, pm, an, cdv, ct, hm, kp, G⟩ := c.ex
  obtain ⟨u, h3, h4⟩ := hkw
  refine ⟨tCallKS 0 n ord (spOf X.K ps.length F) (fun σ => WE W σ) tNil u, ⟨fun pins s σ H Q I h => ?_⟩, sim_callK sim_nil h4⟩
  refine wpAny_Call_Name_kw (ld_glob I hg hm ?_ hdb)
  refine PySem.W.callWith_KW0 (h₀ := X.base) I.ok.mod.kin kp hall (thn (h3.run pos pins s σ H _ I h) ?_) hpl
  rintro ws s2 ⟨zs, H2, I2, rz, q2⟩
  refine ⟨I2.kIn, ?_⟩
  rw [hks]
  exact run_fnK (us := []) (G ‹HasH›) (hr.mono hk) (hbind kV doc pm an cdv ct) (passAt tk σ) I2 .nil rz q2
end
end DL
/-! # Dj: zip, extend, list * int, list(range(..)) -/
namespace DL
open PySem PySem.Spec L2
open PyProof.Rows hiding St
variable [HasL] [HasX] [HasH]
section
variable {X : Cx} {W : WX} {b : Bool} {e f g : Expr} {es : List Expr} {ma mb : SE} {mr : SA} {p pos : Pos}
/-! ### zip -/
def zipL : List D → List D → List D
  | x :: xs, y :: ys => .tup [x, y] :: zipL xs ys
  | _, _ => []
theorem zipL_length : ∀ xs ys : List D, (zipL xs ys).length = min xs.length ys.length
  | [], ys => by simp [zipL]
  | _ :: _, [] => by simp [zipL]
  | x :: xs, y :: ys => by
    simp only [zipL, List.length_cons, zipL_length xs ys]
    omega
theorem zipL_get : ∀ {xs ys : List D} {i : Nat} {x y : D}, xs[i]? = some x → ys[i]? = some y → (zipL xs ys)[i]? = some (.tup [x, y])
  | [], _, _, _, _, h, _ => by simp at h
  | _ :: _, [], _, _, _, _, h => by simp at h
  | a :: xs, c :: ys, 0, x, y, h1, h2 => by
    simp at h1 h2
    subst h1
    subst h2
    rfl
  | a :: xs, c :: ys, i + 1, x, y, h1, h2 => by
    simp at h1 h2
    exact zipL_get (xs := xs) (ys := ys) h1 h2
theorem wlk_ZL {K : PySem.W.Frag} {a a' : Addr} {d d' : D} {ds ds' : List D} (e : itemsL d = some ds) (e' : itemsL d' = some ds') : Wlk K (Itz K a a') (fun c H => Rep c H (.ref a) d ∧ Rep c H (.ref a') d') (zipL ds ds') := by
  have hl := zipL_length ds ds'
  refine ⟨fun i c H hK hi r => ?_, fun c H hK r => ?_, fun i c H x H' m hK M r hi y => ?_⟩
  · obtain ⟨b, vs, eb, h1, h2⟩ := rep_itemsL r.1 e
    obtain ⟨b', vs', eb', h1', h2'⟩ := rep_itemsL r.2 e'
    cases eb
    cases eb'
    rw [hK] at h1 h1'
    exact ⟨vs, vs', vs[i]'(by rw [h2.length]; omega), vs'[i]'(by rw [h2'.length]; omega), h1, h1', List.getElem?_eq_getElem _, List.getElem?_eq_getElem _⟩
  · obtain ⟨b, vs, eb, h1, h2⟩ := rep_itemsL r.1 e
    obtain ⟨b', vs', eb', h1', h2'⟩ := rep_itemsL r.2 e'
    cases eb
    cases eb'
    rw [hK] at h1 h1'
    refine ⟨vs, vs', h1, h1', ?_⟩
    rw [h2.length, h2'.length, hl]
    omega
  · obtain ⟨b, vs, eb, h1, h2⟩ := rep_itemsL r.1 e
    obtain ⟨b', vs', eb', h1', h2'⟩ := rep_itemsL r.2 e'
    cases eb
    cases eb'
    rw [hK] at h1 h1'
    obtain ⟨T, z, z', rfl, hT, rfl, e2, e3⟩ := y
    obtain ⟨dd, h3, h4⟩ := h2.get (e2 vs h1)
    obtain ⟨dd', h3', h4'⟩ := h2'.get (e3 vs' h1')
    have st : Stp c c H (upd H T (.tup [z, z'])) := Stp.same (same_upd hT)
    exact ⟨same_upd hT, _, zipL_get h3 h3', .tup (fresh_cs M hT) upd_same (.cons (h4.step st) (.cons (h4'.step st) .nil))⟩
theorem wlk_ZT {K : PySem.W.Frag} {a a' : Addr} {ds ds' : List D} : Wlk K (RZ.ItzT K a a') (fun c H => Rep c H (.ref a) (.tup ds) ∧ Rep c H (.ref a') (.tup ds')) (zipL ds ds') := by
  have hl := zipL_length ds ds'
  refine ⟨fun i c H hK hi r => ?_, fun c H hK r => ?_, fun i c H x H' m hK M r hi y => ?_⟩
  · obtain ⟨b, vs, eb, _, h1, h2⟩ := rep_tup (b := false) r.1.f
    obtain ⟨b', vs', eb', _, h1', h2'⟩ := rep_tup (b := false) r.2.f
    cases eb
    cases eb'
    exact ⟨vs, vs', vs[i]'(by rw [h2.length]; omega), vs'[i]'(by rw [h2'.length]; omega), SqT.of h1, SqT.of h1', List.getElem?_eq_getElem _, List.getElem?_eq_getElem _⟩
  · obtain ⟨b, vs, eb, _, h1, h2⟩ := rep_tup (b := false) r.1.f
    obtain ⟨b', vs', eb', _, h1', h2'⟩ := rep_tup (b := false) r.2.f
    cases eb
    cases eb'
    refine ⟨vs, vs', SqT.of h1, SqT.of h1', ?_⟩
    rw [h2.length, h2'.length, hl]
    omega
  · obtain ⟨b, vs, eb, _, h1, h2⟩ := rep_tup (b := false) r.1.f
    obtain ⟨b', vs', eb', _, h1', h2'⟩ := rep_tup (b := false) r.2.f
    cases eb
    cases eb'
    obtain ⟨T, z, z', rfl, hT, rfl, e2, e3⟩ := y
    obtain ⟨dd, h3, h4⟩ := h2.get (e2 vs (SqT.of h1))
    obtain ⟨dd', h3', h4'⟩ := h2'.get (e3 vs' (SqT.of h1'))
    have st : Stp c c H (upd H T (.tup [z, z'])) := Stp.same (same_upd hT)
    exact ⟨same_upd hT, _, zipL_get h3 h3', .tup (fresh_cs M hT) upd_same (.cons (h4.step st) (.cons (h4'.step st) .nil))⟩
def fZip : List D → Mu → Out (List D)
  | [.tup l, .tup l'], m => .ok (zipL l l') m
  | [d, d'], m => (match itemsL d, itemsL d' with
    | some l, some l' => .ok (zipL l l') m
    | _, _ => .stuck)
  | _, _ => .stuck
theorem pid_zip {elts : List Expr} {kk : Nat} {tpos : Pos} (hm : X.mg "zip" = none) (ha : PDA X W false [e, f] mr) (hg : Gl X "zip" := by rfl) (hs : starEach [e, f] X.env = (false, eval e X.env) :: starEach [f] X.env := by rfl) (hpl : (backTo pos (starEach [f] X.env)).any (·.1) = false := by rfl) :
    PID X W (.Tuple elts kk tpos) (.Call (.Name "zip" p) [e, f] [] pos) (mRng fZip mr) := by
  obtain ⟨t, h1, h2⟩ := ha
  refine ⟨_, RZ.pi_zipA hg hm h1 hs hpl, fun c H σ ρ μ hK k R q => ?_⟩
  refine h2 c H σ ρ μ hK k _ (PostG.bnd q fun ds μ1 vs c1 H1 s1 M1 r1 p1 => ?_)
  have hK1 : c1.K = X.K := s1.K.trans hK
  unfold fZip at p1
  split at p1
  · rename_i l l'
    cases r1 with
    | cons q1 t1 =>
      cases t1 with
      | cons q2 t2 =>
        cases t2
        obtain ⟨a, ws, rfl, _, h3, h4⟩ := rep_tup q1
        obtain ⟨a', ws', rfl, _, h3', h4'⟩ := rep_tup q2
        exact ⟨a, a', ws, ws', rfl, .inr ⟨SqT.of h3, SqT.of h3', p1 _ c1 H1 (Stp.refl _ _) M1 ⟨[.ref a, .ref a'], [.tup l, .tup l'], .two wlk_ZT, .cons q1.rep (.cons q2.rep .nil)⟩⟩⟩
  · rename_i d d' hnt
    cases e1 : itemsL d with
    | none => rw [e1] at p1; exact p1.elim
    | some l =>
      cases e2 : itemsL d' with
      | none => rw [e1, e2] at p1; exact p1.elim
      | some l' =>
        rw [e1, e2] at p1
        cases r1 with
        | cons q1 t1 =>
          cases t1 with
          | cons q2 t2 =>
            cases t2
            obtain ⟨a, ws, rfl, h3, h4⟩ := rep_itemsL q1.rep e1
            obtain ⟨a', ws', rfl, h3', h4'⟩ := rep_itemsL q2.rep e2
            rw [hK1] at h3 h3'
            exact ⟨a, a', ws, ws', rfl, .inl ⟨h3, h3', p1 _ c1 H1 (Stp.refl _ _) M1 ⟨[.ref a, .ref a'], [d, d'], .two (wlk_ZL e1 e2), .cons q1.rep (.cons q2.rep .nil)⟩⟩⟩
  · exact p1.elim
/-! ### x.extend(e) -/
def sExt (i : Nat) (m : SE) : SS := fun ρ μ => match ownAt ρ i with
  | some es => (m ρ μ).go ρ fun d μ1 => match listOf μ1 d with
    | some l => if es.length + l.length ≤ 16777216 then .nx (setO ρ i (es ++ l)) μ1 else .stuck
    | none => .stuck
  | none => .stuck
theorem psd_ext {i : Nat} {x : Str} {p1 p2 p3 : Pos} (ha : PD X W true e ma) (hi : X.N[i]? = some x := by rfl) (hv : Vis X.env.scope x := by first | exact Or.inl rfl | exact Or.inr (Or.inl rfl) | exact Or.inr (Or.inr rfl))
    (hd : (x == ("__debug__" : Str)) = false := by decide) (hcd : (x == ("__classdict__" : Str)) = false := by decide)
    (hbase : attributeBase (.Name x p1) "extend" X.env (eval (.Name x p1) X.env) = eval (.Name x p1) X.env := by rfl)
    (hfew : ((backTo p3 (starEach (e :: []) X.env)).all (fun x => !x.1) && (backToKw p3 (keywordEach [] X.env)).all (fun x => x.1.isSome)
      && decide ((e :: []).length + ([] : List Keyword).length + (if ([] : List Keyword).isEmpty then 0 else 1) < 30)) = true := by rfl)
    (hline : (p2.endLine == p3.line) = true := by rfl) (hs : starEach (e :: []) X.env = (false, eval e X.env) :: starEach [] X.env := by rfl) (hplain : (backTo p3 (starEach [] X.env)).any (·.1) = false := by rfl)
    (hsw : swapsWith (.Call (.Attribute (.Name x p1) "extend" p2) [e] [] p3) none pos.line X.env = pure false := by rfl) :
    PSD X W (.Expr (.Call (.Attribute (.Name x p1) "extend" p2) [e] [] p3) pos) (sExt i ma) := by
  obtain ⟨t, h1, h2⟩ := ha
  refine ⟨_, ps_expr (pe_bm PySem.F.plainAttrs_list PySem.F.slot_list_extend PySem.F.type_list_extend mt_extend (pe_var hi hv hd hcd) (pa_cons h1 pa_nil hs) hbase hfew hline hs hplain) hsw, fun B c H σ ρ μ hK f D p => ?_⟩
  unfold sExt at p
  cases eo : ownAt ρ i with
  | none => rw [eo] at p; exact p.elim
  | some es =>
    rw [eo] at p
    have hi' := ownAt_ok eo
    obtain ⟨a, vs, ha, hb, hc, hw, r⟩ := f.ok.e.ownL i es hi'
    refine ⟨_, ha, .inl ⟨rfl, vs, SqL.of hw⟩, ?_⟩
    refine h2 c H σ ρ μ hK f.ok _ (f.go p fun d m v c1 H1 s1 f1 r1 p1 => ?_)
    have hw1 := s1.keep _ _ hw hc (fun _ z => by cases z)
    cases el : listOf m d with
    | none => rw [el] at p1; exact p1.elim
    | some l =>
      rw [el] at p1
      obtain ⟨a2, ws, rfl, hw2, r2⟩ := rep_list f1.ok.m r1 el
      by_cases hl : es.length + l.length ≤ 16777216
      · have p2 : PostS B W (if es.length + l.length ≤ 16777216 then .nx (setO ρ i (es ++ l)) m else .stuck) D := p1
        rw [if_pos hl] at p2
        refine ⟨a, a2, vs, ws, rfl, rfl, hw1, hw2, by rw [r.length, r2.length, sizeLine_eq]; exact hl, ?_⟩
        have hb1 : a ∈ c1.br := by rw [s1.br]; exact hb
        exact p2 c1 _ σ (f1.put hi' ha hb1 (s1.notin hc hw) hw1 ((r.step s1).append r2))
      · have p2 : PostS B W (if es.length + l.length ≤ 16777216 then .nx (setO ρ i (es ++ l)) m else .stuck) D := p1
        rw [if_neg hl] at p2
        exact p2.elim
/-! ### xs * n -/
def repL : Nat → List D → List D
  | 0, _ => []
  | n + 1, l => l ++ repL n l
theorem reps_rep {c : Ct} {H : Hp} {vs : List V} {ds : List D} (r : Reps c H vs ds) : ∀ n : Nat, Reps c H (List.replicate n vs).flatten (repL n ds)
  | 0 => .nil
  | n + 1 => by
    rw [List.replicate_succ, List.flatten_cons]
    exact r.append (reps_rep r n)
def nRep (ma mb : SE) : SN := fun ρ μ => (ma ρ μ).bnd fun d μ1 => (mb ρ μ1).bnd fun e μ2 => match listOf μ2 d, e with
  | some l, .int k => if in62 k = true ∧ l.length * k.toNat ≤ 16777216 then .ok (repL k.toNat l) μ2 else .stuck
  | _, _ => .stuck
theorem pdn_rep (ha : PD X W true e ma) (hb : PD X W true f mb) : PDN X W (.BinOp e .Mult f pos) (nRep ma mb) := by
  obtain ⟨ta, a1, a2⟩ := ha
  obtain ⟨tb, b1, b2⟩ := hb
  refine ⟨_, pe_op op_rep a1 b1, fun c H σ ρ μ hK k Q p => ?_⟩
  refine a2 c H σ ρ μ hK k _ (PostN.bnd p fun d μ1 v c1 H1 s1 M1 r1 p1 => ?_)
  refine b2 c1 H1 σ ρ μ1 (s1.K.trans hK) (k.step s1 M1) _ (PostN.bnd p1 fun e μ2 w c2 H2 s2 M2 r2 p2 => ?_)
  cases q : listOf μ2 d with
  | none => rw [q] at p2; exact p2.elim
  | some l =>
    rw [q] at p2
    cases e with
    | int j =>
      have p3 : PostN c2 σ H2 W (if in62 j = true ∧ l.length * j.toNat ≤ 16777216 then .ok (repL j.toNat l) μ2 else .stuck) Q := p2
      by_cases hc : in62 j = true ∧ l.length * j.toNat ≤ 16777216
      · rw [if_pos hc] at p3
        obtain ⟨a, vs, rfl, h4, h5⟩ := rep_list M2 (r1.step s2) q
        obtain ⟨z1, z2⟩ := in62_ok hc.1
        refine ⟨a, j, vs, rfl, rep_int r2, h4, by omega, by omega, by rw [h5.length, sizeLine_eq]; exact hc.2, fun q2 hq => p3.lay M2 (reps_rep h5 j.toNat) hq⟩
      · rw [if_neg hc] at p3
        exact p3.elim
    | _ => exact p2.elim
/-! ### xs + ys, a new list -/
def nCat (ma mb : SE) : SN := fun ρ μ => (ma ρ μ).bnd fun d μ1 => (mb ρ μ1).bnd fun e μ2 => match listOf μ2 d, listOf μ2 e with
  | some l, some l' => if l.length + l'.length ≤ 16777216 then .ok (l ++ l') μ2 else .stuck
  | _, _ => .stuck
theorem pdn_cat (ha : PD X W true e ma) (hb : PD X W true f mb) : PDN X W (.BinOp e .Add f pos) (nCat ma mb) := by
  obtain ⟨ta, a1, a2⟩ := ha
  obtain ⟨tb, b1, b2⟩ := hb
  refine ⟨_, pe_op op_cat a1 b1, fun c H σ ρ μ hK k Q p => ?_⟩
  refine a2 c H σ ρ μ hK k _ (PostN.bnd p fun d μ1 v c1 H1 s1 M1 r1 p1 => ?_)
  refine b2 c1 H1 σ ρ μ1 (s1.K.trans hK) (k.step s1 M1) _ (PostN.bnd p1 fun e μ2 w c2 H2 s2 M2 r2 p2 => ?_)
  cases q : listOf μ2 d with
  | none => rw [q] at p2; exact p2.elim
  | some l =>
    cases q' : listOf μ2 e with
    | none => rw [q, q'] at p2; exact p2.elim
    | some l' =>
      rw [q, q'] at p2
      have p3 : PostN c2 σ H2 W (if l.length + l'.length ≤ 16777216 then .ok (l ++ l') μ2 else .stuck) Q := p2
      by_cases hc : l.length + l'.length ≤ 16777216
      · rw [if_pos hc] at p3
        obtain ⟨a, vs, rfl, h4, h5⟩ := rep_list M2 (r1.step s2) q
        obtain ⟨a', vs', rfl, h4', h5'⟩ := rep_list M2 r2 q'
        exact ⟨a, a', vs, vs', rfl, rfl, h4, h4', by rw [h5.length, h5'.length, sizeLine_eq]; exact hc, fun q2 hq => p3.lay M2 (h5.append h5') hq⟩
      · rw [if_neg hc] at p3
        exact p3.elim
/-! ### list(range(..)), tuple(range(..)) -/
def rgB (i j : Int) : Bool := in62 i && in62 j && decide ((j - i).toNat ≤ 2 ^ 24)
theorem rgB_ok {i j : Int} (h : rgB i j = true) : RgOk i j := by
  unfold rgB at h
  simp only [Bool.and_eq_true, decide_eq_true_eq] at h
  obtain ⟨⟨h1, h2⟩, h3⟩ := h
  obtain ⟨a1, a2⟩ := in62_ok h1
  obtain ⟨b1, b2⟩ := in62_ok h2
  exact ⟨a1, a2, b1, b2, h3⟩
theorem reps_rg {c : Ct} {H : Hp} (i : Int) : ∀ l : List Nat, Reps c H (l.map fun k => V.int (i + (k : Nat))) (l.map fun (k : Nat) => D.int (i + (k : Int)))
  | [] => .nil
  | _ :: l => .cons (.int _) (reps_rg i l)
def nRg1 (ma : SE) : SN := fun ρ μ => (ma ρ μ).bnd fun d μ1 => match d with
  | .int j => if rgB 0 j = true then .ok (rngL 0 (j - 0).toNat) μ1 else .stuck
  | _ => .stuck
theorem pdn_rg1 {p2 : Pos} {pos2 : Pos} (hc : X.calm = true) (hl : X.mg "list" = none) (hr : X.mg "range" = none) (ha : PD X W true e ma) (hg : Gl X "list" := by rfl) (hg2 : Gl X "range" := by rfl) (na : starEach [e] X.env = (false, eval e X.env) :: starEach [] X.env := by rfl)
    (na2 : starEach [.Call (.Name "range" p2) [e] [] pos2] X.env = (false, eval (.Call (.Name "range" p2) [e] [] pos2) X.env) :: starEach [] X.env := by rfl) : PDN X W (.Call (.Name "list" p) [.Call (.Name "range" p2) [e] [] pos2] [] pos) (nRg1 ma) := by
  obtain ⟨t, h1, h2⟩ := ha
  refine ⟨_, pe_listRg hc hg hl (prg_1 hg2 hr h1 na) na2, fun c H σ ρ μ hK k Q q => ?_⟩
  refine h2 c H σ ρ μ hK k _ (PostN.bnd q fun d μ1 v c1 H1 s1 M1 r1 p1 => ?_)
  cases d with
  | int j =>
    have p2' : PostN c1 σ H1 W (if rgB 0 j = true then .ok (rngL 0 (j - 0).toNat) μ1 else .stuck) Q := p1
    by_cases hb : rgB 0 j = true
    · rw [if_pos hb] at p2'
      exact ⟨j, rep_int r1, rgB_ok hb, fun q2 hq => p2'.lay M1 (reps_rg 0 _) hq⟩
    · rw [if_neg hb] at p2'
      exact p2'.elim
  | _ => exact p1.elim
end
end DL
namespace DL
open PySem PySem.Spec L2
variable [HasL] [HasX] [HasH]
theorem u65 {k : Nat} {A : Around} (h : Rm k A) : A.units + 65 < cLine := by
  have := h.r.un
  omega
end DL
/-! # Db1: lambdas: they are made -/
namespace DL
open PySem PySem.Spec L2
open PyProof.Rows hiding St
section
variable {X : Cx} {pins : List (Addr × Obj)} {σ : St} {H : Hp} {s : Shared}
/-- a lambda's function object just made is known from now on -/
theorem inv_lam {L : LText} {cl : List (Str × Addr)} {c' : Addr} {pm ctv : Value} {t' : Nat} (I : Inv X pins σ H s) :
    Inv X pins σ (upd H s.heap.objs.size (LamO s.heap.objs.size L cl c')) { s with heap := s.heap.push (PySem.W.kla_obj "<lambda>" L.qual L.params L.body L.scope cl pm c' ctv), toks := t' } := by
  refine I.laid (a := s.heap.objs.size) (fun b u e => Heap.get?_push_of_some _ e) (Nat.le_refl _) ?_
  have e : (s.heap.push (PySem.W.kla_obj "<lambda>" L.qual L.params L.body L.scope cl pm c' ctv)).get? s.heap.objs.size = some (PySem.W.kla_obj "<lambda>" L.qual L.params L.body L.scope cl pm c' ctv) := Heap.get?_push_size _ rfl
  exact ⟨⟨pm, ctv, e⟩, ⟨_, e⟩, fun h1 h2 ⟨pm, ctv, z⟩ st => ⟨pm, ctv, st _ z⟩⟩
theorem lam_makeF {T : List (Addr × Str)} {c P : Addr} {params : Arguments} {body : Expr} {scope : Scope} {pos : Pos} {E : Value → Shared → Prop} {Q : Value → Shared → Prop} (I : Inv X pins σ H s) (TB : LamX.TabB X.base X.mg c P) (hcode : X.env.code = .ref c)
    (hm : (P, X.env.qual ++ "<lambda>") ∈ T) (hu : ∀ p ∈ T, p.1 = P → p.2 = X.env.qual ++ "<lambda>") (hT : LamX.Tabs T H) (hdef : defaultsOf params X.env = ([], [])) (hfree : ∀ y ∈ scope.names, y.2 = .free → ∃ c, X.env.cells.lookup y.1 = some c)
    (h : ∀ (f c' : Addr) (H1 : Hp) (s' : Shared), Inv X pins σ H1 s' → LamX.ExtN H H1 → (∀ b, H1 b = none → H b = none) → LamX.Tabs T H1 → H f = none → H c' = none ∨ (∃ q, H c' = some (LamX.CodeO c' q)) →
      H1 f = some (LamO f ⟨params, body, scope, X.env.qual ++ "<lambda>"⟩ (cloFrom X.env.cells scope.names []) c') → H1 c' = some (LamX.CodeO c' (X.env.qual ++ "<lambda>")) → Q (.ref f) s') :
    wpAny (model X.prog X.w) X.A (eval (.Lambda params body scope pos) X.env) Q E s := by
  obtain ⟨ps, hP, ht, ha⟩ := hT _ hm
  refine PySem.W.kla_eval hdef ?_
  have bP : s.heap.BuiltinsAt X.mg P := TB.bm.keeps I.bk
  have atP : s.heap.get? P = some { cls := .none, data := .fields ps } := I.hok P _ hP
  cases hc : codeAmong pos ps.toList with
  | none =>
    refine PySem.W.kla_makeFunction (mg := X.mg) (c := c) (P := P) (ps := ps) (closure_ok hfree) I.ok.glob (I.mod.glob.keeps I.bk) hcode (TB.code.keeps I.bk) atP ht hc TB.gP bP fun c' ctv h' tk hx hge hlt hrec htb => ?_
    obtain ⟨c2, oc, vs, t, e2, hoc, hd, hv⟩ := hrec
    cases e2
    have nC : H c' = none := I.hok.fresh hge
    have I1 := LamX.inv_table (t' := tk) (more := #[rawInt pos.line, rawInt pos.col, .ref c']) (h' := h') I hP (fun b o hb e => hx b o hb e) htb hge ⟨oc, vs, t, hoc, hd, hv⟩
    have hE : LamX.ExtN H (upd (upd H P (.tbl (ps ++ #[rawInt pos.line, rawInt pos.col, .ref c']))) c' (LamX.CodeO c' (X.env.qual ++ "<lambda>"))) := by
      intro b o e n
      rw [upd_ne (ne_of_none e nC), upd_ne (fun z => n ps (Option.some.inj (e.symm.trans (by rw [z]; exact hP))))]
      exact e
    have eL : (ps ++ #[rawInt pos.line, rawInt pos.col, .ref c']).toList = ps.toList ++ [rawInt pos.line, rawInt pos.col, .ref c'] := by simp
    have T1 : LamX.Tabs T (upd (upd H P (.tbl (ps ++ #[rawInt pos.line, rawInt pos.col, .ref c']))) c' (LamX.CodeO c' (X.env.qual ++ "<lambda>"))) := by
      intro p hp
      by_cases hb : p.1 = P
      · rw [hu p hp hb, hb]
        refine ⟨_, by rw [upd_ne (ne_of_none hP nC), upd_same], by rw [eL]; exact PySem.TriplesOk_snoc _ _ _ _ ht, fun p' cv hcv => ?_⟩
        rw [eL] at hcv
        rcases LamX.among_app _ ht hcv with z | z
        · obtain ⟨c0, e1, e2⟩ := ha p' cv z
          exact ⟨c0, e1, hE _ _ e2 LamX.codeO_ne⟩
        · exact ⟨c', z, upd_same⟩
      · obtain ⟨ps', a1, a2, a3⟩ := hT p hp
        refine ⟨ps', by rw [upd_ne (ne_of_none a1 nC), upd_ne hb]; exact a1, a2, fun p' cv hcv => ?_⟩
        obtain ⟨c0, e1, e2⟩ := a3 p' cv hcv
        exact ⟨c0, e1, hE _ _ e2 LamX.codeO_ne⟩
    have nF := I1.hok.fresh (Nat.le_refl _)
    have I2 := inv_lam (L := ⟨params, body, scope, X.env.qual ++ "<lambda>"⟩) (cl := cloFrom X.env.cells scope.names []) (c' := c') (t' := tk) (pm := (X.mg "__name__").getD .none) (ctv := ctv) I1
    refine h h'.objs.size c' _ _ I2 (fun b o e n => ?_) (fun b e => NdefX.upd_none (NdefX.upd_none (NdefX.upd_none e))) (T1.ext fun b o e => ?_) (I.hok.fresh (Nat.le_trans hge (Nat.le_of_lt hlt))) (.inl nC) upd_same ?_
    · have e1 := hE b o e n
      exact (upd_ne (ne_of_none e1 nF)).trans e1
    · exact (upd_ne (ne_of_none e nF)).trans e
    · exact (upd_ne (Nat.ne_of_lt hlt)).trans upd_same
  | some cv =>
    obtain ⟨c', e, hco⟩ := ha pos cv hc
    subst e
    refine PySem.W.kla_makeFunctionHit (mg := X.mg) (c := c) (P := P) (ps := ps) (closure_ok hfree) I.ok.glob (I.mod.glob.keeps I.bk) hcode (TB.code.keeps I.bk) atP ht hc bP fun ctv h' tk hx hsz => ?_
    have I1 : Inv X pins σ H { s with heap := h', toks := tk } := I.kept hx
    have nF : H h'.objs.size = none := I1.hok.fresh (Nat.le_refl _)
    have I2 := inv_lam (L := ⟨params, body, scope, X.env.qual ++ "<lambda>"⟩) (cl := cloFrom X.env.cells scope.names []) (c' := c') (t' := tk) (pm := (X.mg "__name__").getD .none) (ctv := ctv) I1
    refine h h'.objs.size c' _ _ I2 (fun b o e n => ?_) (fun b e => NdefX.upd_none e) (hT.ext fun b o e => ?_) nF (.inr ⟨_, hco⟩) upd_same ?_
    · exact (upd_ne (ne_of_none e nF)).trans e
    · exact (upd_ne (ne_of_none e nF)).trans e
    · exact (upd_ne (ne_of_none hco nF)).trans hco
end
end DL

namespace DL
open PySem PySem.Spec L2
open PyProof.Rows hiding St
variable [HasL] [HasX] [HasH]
/-- what the frame that makes lambdas must have: its code's table is good -/
structure LamF (X : Cx) : Prop where
  tb : ∃ c P, LamX.TabB X.base X.mg c P ∧ X.env.code = .ref c ∧ (P, X.env.qual ++ "<lambda>") ∈ HasX.x.tb ∧ ∀ p ∈ HasX.x.tb, p.1 = P → p.2 = X.env.qual ++ "<lambda>"
theorem stp_extN {c : Ct} {H H1 : Hp} (e : LamX.ExtN H H1) (n : ∀ b, H1 b = none → H b = none) (t : LamX.Tabs HasX.x.tb H → LamX.Tabs HasX.x.tb H1) : Stp c c H H1 := by
  refine ⟨rfl, rfl, ⟨[], by simp, by simp⟩, fun a o h _ ht => e a o h ht, fun a o h => ?_, t⟩
  cases q : H1 a with
  | some o' => exact ⟨o', rfl⟩
  | none => rw [n a q] at h; cases h
theorem MRel.extN {c : Ct} {H H1 : Hp} {m : Mu} (M : MRel c H m) (e : LamX.ExtN H H1) (n : ∀ b, H1 b = none → H b = none) (t : LamX.Tabs HasX.x.tb H1) : MRel c H1 m := by
  have s := stp_extN (c := c) e n fun _ => t
  refine ⟨M.len, M.nd, fun k a ds h1 h2 => ?_, fun a ha => ?_, t, fun p hp => (M.held p hp).step s⟩
  · obtain ⟨h3, vs, h4, h5⟩ := M.at_ k a ds h1 h2
    exact ⟨h3, vs, e _ _ h4 (fun ps z => by cases z), h5.step s⟩
  · obtain ⟨o, ho⟩ := M.br a ha
    exact s.there a o ho
section
variable {X : Cx} {W : WX} {b : Bool}
def eOf' (K : PySem.W.Frag) (W : WX) (b : Bool) (m : SE) : TE := fun σ H Q => ∃ c ρ μ, c.K = K ∧ Ok c H σ ρ μ ∧ Post b c σ H W (m ρ μ) Q
/-- by the machine's own step -/
theorem PD.mk' {e : Expr} {m : SE} (h : ∀ (pins : List (Addr × Obj)) (s : Shared) (σ : L2.St) (H : Hp) (Q : VK) (c : Ct) (ρ : Env) (μ : Mu), Inv X pins σ H s → c.K = X.K → Ok c H σ ρ μ → Post b c σ H W (m ρ μ) Q → wpAny (model X.prog X.w) X.A (eval e X.env) (EP X pins σ Q) X.xe s) : PD X W b e m :=
  ⟨eOf' X.K W b m, ⟨fun pins s σ H Q I ⟨c, ρ, μ, hK, k, p⟩ => h pins s σ H Q c ρ μ I hK k p⟩, fun c H σ ρ μ hK k Q p => ⟨c, ρ, μ, hK, k, p⟩⟩
def mLam (n : Nat) (fc : List (Str × Addr)) : SE := fun _ μ => .ok (.lam n fc) μ
theorem pd_lam {params : Arguments} {body : Expr} {scope : Scope} {pos : Pos} (L : LamF X) (n : Nat) (ht : HasL.lt n = ⟨params, body, scope, X.env.qual ++ "<lambda>"⟩) (hdef : defaultsOf params X.env = ([], []))
    (hfree : ∀ y ∈ scope.names, y.2 = .free → X.env.scope.names.lookup y.1 = some .cell ∨ X.env.scope.names.lookup y.1 = some .free) : PD X W b (.Lambda params body scope pos) (mLam n X.env.cells) := by
  refine PD.mk' fun pins s σ H Q c ρ μ I hK k p => ?_
  obtain ⟨cc, P, TB, hcode, hm, hu⟩ := L.tb
  have hf : ∀ y ∈ scope.names, y.2 = .free → ∃ c, X.env.cells.lookup y.1 = some c := fun y hy e => (hfree y hy e).elim (fun z => I.ok.has _ (.inl z)) fun z => I.ok.has _ (.inr z)
  refine lam_makeF (T := HasX.x.tb) I TB hcode hm hu k.m.tabs hdef hf fun f c' H1 s' I1 eN hn T1 nf hc' h1 h2 => ?_
  refine ⟨.ref f, H1, I1, rfl, ?_⟩
  refine p (.ref f) c H1 (stp_extN eN hn fun _ => T1) (k.m.extN eN hn T1) (Rep.f (.lam (c' := c') (fresh_cs k.m nf) ?_ (by rw [ht]; exact h1) (by rw [ht]; exact h2)))
  rcases hc' with z | ⟨q, z⟩
  · exact fresh_cs k.m z
  · intro hm'
    obtain ⟨vs, e⟩ := k.m.there hm'
    rw [z] at e
    exact codeO_not (o := HO.lst vs) (fun _ z => by cases z) (Option.some.inj e)
end
end DL
/-! # Db2: lambdas are called; values that are called -/
namespace DL
open PySem PySem.Spec L2
open PyProof.Rows hiding St
variable [HasL] [HasX]
/-- cells that hold such values -/
abbrev Stn := Addr → Option Value → Prop
def CellsOk (S : Stn) (h : Heap) (H : Hp) : Prop := ∀ c v, S c v → H c = none ∧ h.IsCell c v
theorem CellsOk.un {S : Stn} {fs ex : List Addr} {H H' : Hp} {h h' : Heap} (k : CellsOk S h H) (u : Un fs ex H H' h h') (hx : ∀ c v, S c v → c ∉ ex) : CellsOk S h' H' := by
  intro c v q
  obtain ⟨n, o, ho, hd⟩ := k c v q
  obtain ⟨sl, e⟩ := u.any ho n (hx c v q)
  exact ⟨u.free c o ho n (hx c v q), _, e, hd⟩
/-- the frame began where the cells held them -/
def Sees (X : Cx) (S : Stn) : Prop := CellsOk S X.s_0.heap X.H_0 ∧ ∀ c v, S c v → c ∉ X.ex
theorem Sees.now {X : Cx} {S : Stn} {pins : List (Addr × Obj)} {σ : L2.St} {H : Hp} {s : Shared} (k : Sees X S) (I : Inv X pins σ H s) : CellsOk S s.heap H := k.1.un I.base k.2
/-- a value that may be called -/
def isCal : D → Bool
  | .lam _ _ => true
  | .fn _ => true
  | _ => false
/-- wherever the cells hold S, calling a value does CT -/
def CallF [HasH] (P : Program) (w : World) (K : PySem.W.Frag) (mg : Str → Option Value) (base : Heap) (k : Nat) (S : Stn) (CT : D → FD) : Prop :=
  ∀ (A : Around) (outer : List PySem.Env) (s : Shared) (H : Hp) (c : Ct) (μ : Mu) (v : V) (u : Value) (d : D) (vs : List V) (us : List Value) (ds : List D) (Q : VK) (E : XK),
    Rm k A → Env0 P w K mg base A outer s H → CellsOk S s.heap H → c.K = K → MRel c H μ → Rep c H v d → RelV v u → Reps c H vs ds → Vals vs us → PostF c H (CT d ds μ) Q E →
    codeAny (model P w) A (.call u ⟨us, []⟩) (CR (L2.CX P w) outer P w H s Q E) s
theorem CallF.mono [HasH] {P : Program} {w : World} {K : PySem.W.Frag} {mg : Str → Option Value} {base : Heap} {j k : Nat} {S : Stn} {CT : D → FD} (h : CallF P w K mg base j S CT) (le : j ≤ k) : CallF P w K mg base k S CT :=
  fun A outer s H c μ v u d vs us ds Q E hr => h A outer s H c μ v u d vs us ds Q E (hr.mono le)
def ct0 : D → FD := fun _ _ _ => .stuck
theorem callF0 [HasH] {P : Program} {w : World} {K : PySem.W.Frag} {mg : Str → Option Value} {base : Heap} {k : Nat} {S : Stn} : CallF P w K mg base k S ct0 := by
  intro A outer s H c μ v u d vs us ds Q E _ _ _ _ _ _ _ _ _ p
  exact p.elim
/-- held otherwise -/
theorem mrel_to {h h' : HasH} {c : Ct} {H : Hp} {μ : Mu} (M : @MRel _ _ h c H μ) (g : ∀ p ∈ h'.hd, Rep c H p.1 p.2) : @MRel _ _ h' c H μ := by
  obtain ⟨m1, m2, m3, m4, m5, _⟩ := M
  exact ⟨m1, m2, m3, m4, m5, g⟩
theorem mrel_held {h : HasH} {c : Ct} {H : Hp} {μ : Mu} (M : @MRel _ _ h c H μ) : ∀ p ∈ h.hd, Rep c H p.1 p.2 := by
  obtain ⟨_, _, _, _, _, m⟩ := M
  exact m
theorem rep_step {c c' : Ct} {H H' : Hp} (s : Stp c c' H H') {v : V} {d : D} (r : Rep c H v d) : Rep c' H' v d := by
  haveI : HasH := ⟨[]⟩
  exact r.step s
/-- more is held -/
theorem PostF.up {h h' : HasH} {c : Ct} {H : Hp} {o : Out D} {Q : VK} {E : XK} (g : ∀ p ∈ h'.hd, Rep c H p.1 p.2) (p : @PostF _ _ h' c H o Q E) : @PostF _ _ h c H o Q E := by
  cases o with
  | ok d m =>
    rintro v H' ⟨c', s, M', r⟩
    exact p v H' ⟨c', s, mrel_to M' fun q hq => rep_step s (g q hq), r⟩
  | exn x fs m => exact fun cls dd c' H' s M' r => p cls dd c' H' s (mrel_to M' fun q hq => rep_step s (g q hq)) r
  | stuck => exact p
theorem PostF.down {h h' : HasH} {c : Ct} {H : Hp} {o : Out D} {Q : VK} {E : XK} (hs : ∀ p ∈ h.hd, p ∈ h'.hd) (p : @PostF _ _ h c H o Q E) : @PostF _ _ h' c H o Q E := by
  cases o with
  | ok d m =>
    rintro v H' ⟨c', s, M', r⟩
    exact p v H' ⟨c', s, mrel_to M' fun q hq => mrel_held M' q (hs q hq), r⟩
  | exn x fs m => exact fun cls dd c' H' s M' r => p cls dd c' H' s (mrel_to M' fun q hq => mrel_held M' q (hs q hq)) r
  | stuck => exact p
theorem CallF.up {h h' : HasH} {P : Program} {w : World} {K : PySem.W.Frag} {mg : Str → Option Value} {base : Heap} {k : Nat} {S S' : Stn} {CT : D → FD} (f : @CallF _ _ h P w K mg base k S CT) (hs : ∀ p ∈ h.hd, p ∈ h'.hd) (hS : ∀ c v, S c v → S' c v) : @CallF _ _ h' P w K mg base k S' CT := by
  intro A outer s H c μ v u d vs us ds Q E hr e0 kS hK M r ru rs rv p
  exact f A outer s H c μ v u d vs us ds Q E hr e0 (fun a b q => kS a b (hS a b q)) hK (mrel_to M fun q hq => mrel_held M q (hs q hq)) r ru rs rv (PostF.up (mrel_held M) p)

/-! ### a lambda runs -/
def lamEnv (N : Nat) (ds : List D) (wd : List (Option D)) : Env := ds.map (fun d => some (.val d)) ++ (wd.map (Option.map Slot.val) ++ List.replicate (N - ds.length - wd.length) none)
def mLamS (np N : Nat) (js : List Nat) (m : SE) (get : Nat → Option D) : FD := fun ds μ => if ds.length = np then m (lamEnv N ds (js.map get)) μ else .stuck
/-- the n-th lambda as a function: its cells, its code object -/
abbrev lamNF (n : Nat) (cl : List (Str × Addr)) (c' : Addr) : NdefX.NF := ⟨"<lambda>", (HasL.lt n).qual, (HasL.lt n).params, [], (HasL.lt n).scope, cl, c'⟩
/-- the n-th lambda: its names (parameters ps, captured fr), its body's reading; a value that its body calls does CT -/
structure LamOk (P : Program) (w : World) (K : PySem.W.Frag) (mg : Str → Option Value) (base : Heap) (k n : Nat) (N ps fr : List Str) (m : (D → FD) → SE) : Prop where
  S : NdefX.NScope N ps fr (HasL.lt n).scope
  bind : ∀ (q : Str) (cl : List (Str × Addr)) (pm cv ctv : Value) (us : List Value), us.length = ps.length → bindArgs (PySem.W.kla_fn "<lambda>" q (HasL.lt n).params (HasL.lt n).body (HasL.lt n).scope cl pm cv ctv) ⟨us, []⟩ = pure (ps.zip us)
  body : ∀ (h : HasH) (S : Stn) (CT : D → FD) (cl : List (Str × Addr)) (c' f : Addr) (A : Around) (outer : List PySem.Env) (s : Shared) (H : Hp) (E : XK), CallF P w K mg base k S CT → Sees (NdefX.ncx (L2.CX P w) P w K mg base N (lamNF n cl c') f A outer s H E) S → Rm k (A.deeper (NdefX.envF (lamNF n cl c') f s.heap.objs.size)) →
    PD (NdefX.ncx (L2.CX P w) P w K mg base N (lamNF n cl c') f A outer s H E) (WE' E) false (HasL.lt n).body (m CT)
theorem lamEnv_ok [HasH] {c : Ct} {H : Hp} {μ : Mu} {N : List Str} {vs : List V} {ds : List D} {ws : List (Option V)} {wd : List (Option D)} (M : MRel c H μ) (r : Reps c H vs ds) (hw : ∀ (i : Nat) (d : D), wd[i]? = some (some d) → ∃ v, ws[i]? = some (some v) ∧ Rep c H v d) (hl : wd.length = ws.length) :
    Ok c H (NdefX.startF N vs ws) (lamEnv N.length ds wd) μ := by
  have hv := r.length
  have key : ∀ (i : Nat) (q : Slot), (lamEnv N.length ds wd)[i]? = some (some q) → ∃ d, q = .val d ∧ ∃ v, (NdefX.startF N vs ws)[i]? = some (some v) ∧ Rep c H v d := by
    intro i q h
    unfold lamEnv at h
    unfold NdefX.startF
    by_cases h1 : i < ds.length
    · rw [List.getElem?_append_left (by rw [List.length_map]; exact h1), List.getElem?_map, List.getElem?_eq_getElem h1] at h
      cases h
      obtain ⟨v, e1, e2⟩ := r.getD (List.getElem?_eq_getElem h1)
      exact ⟨_, rfl, v, by rw [List.getElem?_append_left (by rw [List.length_map, hv]; exact h1), List.getElem?_map, e1]; rfl, e2⟩
    · rw [List.getElem?_append_right (by rw [List.length_map]; omega), List.length_map] at h
      by_cases h2 : i - ds.length < wd.length
      · rw [List.getElem?_append_left (by rw [List.length_map]; exact h2), List.getElem?_map] at h
        cases e : wd[i - ds.length]? with
        | none => rw [e] at h; cases h
        | some o =>
          rw [e] at h
          cases o with
          | none => cases h
          | some d =>
            cases h
            obtain ⟨v, e1, e2⟩ := hw _ d e
            refine ⟨d, rfl, v, ?_, e2⟩
            rw [List.getElem?_append_right (by rw [List.length_map]; omega), List.length_map, hv, List.getElem?_append_left (by rw [← hl]; exact h2)]
            exact e1
      · rw [List.getElem?_append_right (by rw [List.length_map]; omega), List.getElem?_replicate] at h
        split at h <;> cases h
  refine ⟨⟨fun i d h => ?_, fun i l h => ?_, fun i j l l' a _ h => ?_⟩, M, ?_⟩
  · obtain ⟨d', e, v, h1, h2⟩ := key i _ h
    cases e
    exact ⟨v, h1, h2⟩
  · obtain ⟨d', e, _⟩ := key i _ h
    cases e
  · obtain ⟨d', e, _⟩ := key i _ h
    cases e
  · unfold lamEnv NdefX.startF
    simp only [List.length_append, List.length_map, List.length_replicate, hv, hl]
theorem lam_run [HasH] {P : Program} {w : World} {K : PySem.W.Frag} {mg : Str → Option Value} {base : Heap} {k n : Nat} {CT : D → FD} {N ps fr : List Str} {m : (D → FD) → SE} (L : LamOk P w K mg base k n N ps fr m) {S : Stn} (hC : CallF P w K mg base k S CT)
    {A : Around} {outer : List PySem.Env} {s : Shared} {H : Hp} {c : Ct} {μ : Mu} {v : V} {u : Value} {fc : List (Str × Addr)} {vs : List V} {us : List Value} {ds : List D} {ws : List (Option V)} {wd : List (Option D)} {Q : VK} {E : XK}
    (hr : Rm (k + 1) A) (e0 : Env0 P w K mg base A outer s H) (hS : CellsOk S s.heap H) (hK : c.K = K) (M : MRel c H μ) (hf : Rep c H v (.lam n fc)) (ru : RelV v u) (C : NdefX.CellsAt (L2.cloFrom fc (HasL.lt n).scope.names []) fr ws s.heap H) (r : Reps c H vs ds) (rv : Vals vs us) (hl : ds.length = ps.length)
    (hw : ∀ (i : Nat) (d : D), wd[i]? = some (some d) → ∃ v, ws[i]? = some (some v) ∧ Rep c H v d) (hwl : wd.length = ws.length) (p : PostF c H (m CT (lamEnv N.length ds wd) μ) Q E) : codeAny (model P w) A (.call u ⟨us, []⟩) (CR (L2.CX P w) outer P w H s Q E) s := by
  cases hf with
  | lam n1 n2 h1 h2 =>
    rename_i f c'
    obtain rfl : u = Value.ref f := ru
    obtain ⟨⟨pm, ctv, of1⟩, _, _⟩ := e0.hok f _ h1
    obtain ⟨⟨oc, wv, t, hoc, hdc, hvc⟩, _, _⟩ := e0.hok c' _ h2
    have lim : s.heap.NoLimit := e0.mod.nolimit.keeps fun b o e => (e0.bs b o e).1
    refine PySem.W.kla_callFunE hr.r.depth of1 rfl L.S.co L.S.gen rfl ⟨c', oc, wv, t, rfl, hoc, hdc, hvc⟩ ?_
    have hul : us.length = ps.length := by rw [← rv.length, r.length, hl]
    have eb := L.bind (HasL.lt n).qual (L2.cloFrom fc (HasL.lt n).scope.names []) pm (.ref c') ctv us hul
    refine wpAny_mono (E := fun e s' => CR (L2.CX P w) outer P w H s Q E (.error e) s') (Q := fun b s' => b = ps.zip us ∧ s' = s) ?_ ?_ (fun _ _ z => z)
    · show wpAny _ _ (bindArgs (PySem.W.kla_fn "<lambda>" (HasL.lt n).qual (HasL.lt n).params (HasL.lt n).body (HasL.lt n).scope (L2.cloFrom fc (HasL.lt n).scope.names []) pm (.ref c') ctv) ⟨us, []⟩) _ _ _
      rw [eb]
      exact wpAny_pure ⟨rfl, rfl⟩
    · rintro b s' ⟨rfl, rfl⟩
      refine wpAny_newFunctionEnv L.S.nocell (fun ⟨x, _⟩ hy => L.S.par x (List.of_mem_zip hy).1) (fun h₁ hns hsb => ⟨lim.fresh _ hsb, ?_⟩) L.S.kind
      let F : NdefX.NF := ⟨"<lambda>", (HasL.lt n).qual, (HasL.lt n).params, [], (HasL.lt n).scope, L2.cloFrom fc (HasL.lt n).scope.names [], c'⟩
      show codeAny _ _ (.expr (HasL.lt n).body (NdefX.envF F f s'.heap.objs.size)) _ _
      have kp : ∀ b o, s'.heap.get? b = some o → h₁.get? b = some o := fun b o e => hsb.extBut b o (Nat.ne_of_lt (Heap.lt_size e)) (Heap.get?_push_of_some _ e)
      have J : Inv (NdefX.ncx (L2.CX P w) P w K mg base N F f A outer s' H E) [] (NdefX.startF N vs ws) H { s' with heap := h₁, toks := s'.toks + (ps.zip us).length } := NdefX.inv_startN (F := F) L.S hr.r.hd e0 (by rw [r.length, hl]) rv C hns kp
      obtain ⟨t, ht, hsim⟩ := L.body inferInstance S CT (L2.cloFrom fc (HasL.lt n).scope.names []) c' f A outer s' H E hC ⟨hS, fun a b _ z => absurd (show a ∈ ([] : List Addr) from z) (by simp)⟩ (hr.deeper _)
      have ok := lamEnv_ok (N := N) M r hw hwl
      have post : Post false c (NdefX.startF N vs ws) H (WE' E) (m CT (lamEnv N.length ds wd) μ) Q := by
        cases q : m CT (lamEnv N.length ds wd) μ with
        | ok d m' => rw [q] at p; exact fun v c' H' s M r => p v H' ⟨c', s, M, r.rep⟩
        | exn x fs m' => rw [q] at p; exact fun cls dd c' H' s M r => p cls dd c' H' s M r
        | stuck => rw [q] at p; exact p.elim
      refine PySem.W.kla_codeExpr (wpAny_mono (ht.run [] _ _ H Q J (hsim c H _ _ μ hK ok Q post)) (fun v s' hq => ?_) fun e s' hq => hq)
      obtain ⟨w', H', J', rv, q⟩ := hq
      exact ⟨w', H', J'.os, J'.bare, J'.base, J'.hok, rv, q⟩
end DL
/-! # Db3: calls of values, defs that are handed values to call, frames that make lambdas -/
namespace DL
open PySem PySem.Spec L2
open PyProof.Rows hiding St
variable [HasL] [HasX]
theorem cal_at {P : Program} {w : World} {c : Ct} {H : Hp} {h : Heap} {v : V} {u : Value} {d : D} (hok : HOk P w H h) (kin : c.K.In h) (r : Rep c H v d) (ru : RelV v u) (hc : isCal d = true) : ∃ f, u = .ref f ∧ PySem.W.FnAt f h := by
  cases r with
  | lam n1 n2 h1 h2 =>
    obtain rfl : u = Value.ref _ := ru
    obtain ⟨⟨pm, ctv, e⟩, _, _⟩ := hok _ _ h1
    exact ⟨_, rfl, _, _, _, _, e⟩
  | fn h1 h2 =>
    obtain rfl : u = Value.ref _ := ru
    rename_i x a
    unfold fnIn at h2
    refine ⟨_, rfl, ?_⟩
    cases q : c.K.lookup a with
    | none => rw [q] at h2; cases h2
    | some o =>
      obtain ⟨oc, od, dt, sl⟩ := o
      rw [q] at h2
      cases dt with
      | func fd => exact ⟨oc, od, fd, sl, kin _ _ q⟩
      | _ => cases h2
  | _ => cases hc
section
variable [HasH] {X : Cx} {W : WX} {b : Bool} {e : Expr} {es : List Expr} {mr : SA} {x : Str} {p pos : Pos} {k j n : Nat} {S : Stn} {CT : D → FD}
theorem postF_of {c c1 : Ct} {H H1 : Hp} {σ : L2.St} {o : Out D} {Q : VK} (p : Post b c σ H W o Q) (s : Stp c c1 H H1) : PostF c1 H1 o Q (WE W σ) := by
  cases o with
  | ok d m => exact fun v H' f' => fin_post p s f'
  | exn y fs m => exact fun cls dd c' H' s' M r => p cls dd c' H' (s.trans s') M r
  | stuck => exact p
/-- a call that does o ends as the frame wants -/
theorem call_ends {pins : List (Addr × Obj)} {σ : L2.St} {H : Hp} {s : Shared} {Q : VK} {u : Value} {us : List Value} (tk : Takes X W) (I : Inv X pins σ H s) (h : codeAny (model X.prog X.w) X.A (.call u ⟨us, []⟩) (CR (L2.CX X.prog X.w) X.stack X.prog X.w H s Q (WE W σ)) s) :
    wpAny (model X.prog X.w) X.A (call u us) (EP X pins σ Q) X.xe s := by
  refine wpAny_call (codeAny_mono h ?_)
  intro res s' ends
  cases res with
  | error e => exact passAt tk σ pins H s e s' I ends
  | ok fl =>
    cases fl with
    | ret u => exact I.after ends
    | next => exact ends.elim
    | brk => exact ends.elim
    | cont => exact ends.elim
/-- a name's value is called -/
def mCallV (CT : D → FD) (i : Nat) (mr : SA) : SE := fun ρ μ => match ρ[i]? with
  | some (some (.val d)) => if isCal d = true then (mr ρ μ).bnd fun ds μ1 => CT d ds μ1 else .stuck
  | _ => .stuck
theorem callv_core {pins : List (Addr × Obj)} {σ : L2.St} {H : Hp} {s : Shared} {Q : VK} {c : Ct} {μ : Mu} {v : V} {u : Value} {d : D} {vs : List V} {us : List Value} {ds : List D} (hS : Sees X S) (hC : CallF X.prog X.w X.K X.mg X.base k S CT) (hr : Rm j X.A) (hk : k ≤ j) (tk : Takes X W) (I : Inv X pins σ H s)
    (hK : c.K = X.K) (M : MRel c H μ) (r : Rep c H v d) (ru : RelV v u) (rs : Reps c H vs ds) (rv : Vals vs us) (q : Post b c σ H W (CT d ds μ) Q) : wpAny (model X.prog X.w) X.A (call u us) (EP X pins σ Q) X.xe s :=
  call_ends tk I (hC X.A X.stack s H c μ v u d vs us ds Q (WE W σ) (hr.mono hk) I.env0 (hS.now I) hK M r ru rs rv (postF_of q (Stp.refl _ _)))
theorem pd_callv (i : Nat) (hS : Sees X S) (hC : CallF X.prog X.w X.K X.mg X.base k S CT) (hr : Rm j X.A) (hk : k ≤ j) (tk : Takes X W) (ha : PDA X W false (e :: es) mr) (hN : X.N[i]? = some x := by rfl) (hv : Vis X.env.scope x := by first | exact Or.inl rfl | exact Or.inr (Or.inl rfl) | exact Or.inr (Or.inr rfl))
    (hd : (x == ("__debug__" : Str)) = false := by decide) (hcd : (x == ("__classdict__" : Str)) = false := by decide) (he : starEach (e :: es) X.env = (false, eval e X.env) :: starEach es X.env := by rfl) (hpl : (backTo pos (starEach es X.env)).any (·.1) = false := by rfl) :
    PD X W b (.Call (.Name x p) (e :: es) [] pos) (mCallV CT i mr) := by
  obtain ⟨ta, a1, a2⟩ := ha
  refine PD.mk' fun pins s σ H Q c ρ μ I hK kk q => ?_
  unfold mCallV at q
  cases hi : ρ[i]? with
  | none => rw [hi] at q; exact q.elim
  | some o =>
    cases o with
    | none => rw [hi] at q; exact q.elim
    | some sl =>
      cases sl with
      | own l => rw [hi] at q; exact q.elim
      | val d =>
        rw [hi] at q
        by_cases hc : isCal d = true
        · have q' : Post b c σ H W ((mr ρ μ).bnd fun ds μ1 => CT d ds μ1) Q := by
            have z : Post b c σ H W (if isCal d = true then (mr ρ μ).bnd fun ds μ1 => CT d ds μ1 else .stuck) Q := q
            rw [if_pos hc] at z
            exact z
          obtain ⟨v, hv1, rv⟩ := kk.e.val i d hi
          refine wpAny_Call_Name_kw (thn ((pe_var (pos := p) (i := i) hN hv hd hcd).run pins s σ H (fun w H1 => w = v ∧ H1 = H) I ⟨v, hv1, rfl, rfl⟩) fun u s1 ⟨w, H1, I1, r1, q1⟩ => ?_)
          obtain ⟨rfl, rfl⟩ := q1
          obtain ⟨f, rfl, hf⟩ := cal_at I1.hok (by rw [hK]; exact I1.kIn) rv r1 hc
          refine PySem.W.callWith_F hf (thn (a1.run pos pins s1 σ H1 _ I1 (a2 c H1 σ ρ μ hK kk _ (PostG.bnd q' fun ds μ1 vs c1 H2 s2 M2 r2 p2 => (⟨c1, μ1, ds, s2, M2, r2.reps, Post.of p2⟩ : ∃ c1 μ1 ds, Stp c c1 H1 H2 ∧ MRel c1 H2 μ1 ∧ Reps c1 H2 vs ds ∧ Post false c1 σ H2 W (CT d ds μ1) Q)))) ?_) he hpl
          rintro us s2 ⟨vs, H2, I2, rv2, c1, μ1, ds, st, M2, r2, p2⟩
          obtain ⟨f', e', hf'⟩ := cal_at I2.hok (by rw [st.K, hK]; exact I2.kIn) (rv.step st) r1 hc
          cases e'
          exact ⟨hf', callv_core hS hC hr hk tk I2 (st.K.trans hK) M2 (rv.step st) r1 r2 rv2 p2⟩
        · have z : Post b c σ H W (if isCal d = true then (mr ρ μ).bnd fun ds μ1 => CT d ds μ1 else .stuck) Q := q
          rw [if_neg hc] at z
          exact z.elim
theorem pd_callv0 (i : Nat) (hS : Sees X S) (hC : CallF X.prog X.w X.K X.mg X.base k S CT) (hr : Rm j X.A) (hk : k ≤ j) (tk : Takes X W) (hN : X.N[i]? = some x := by rfl) (hv : Vis X.env.scope x := by first | exact Or.inl rfl | exact Or.inr (Or.inl rfl) | exact Or.inr (Or.inr rfl))
    (hd : (x == ("__debug__" : Str)) = false := by decide) (hcd : (x == ("__classdict__" : Str)) = false := by decide) :
    PD X W b (.Call (.Name x p) [] [] pos) (mCallV CT i mNil) := by
  refine PD.mk' fun pins s σ H Q c ρ μ I hK kk q => ?_
  unfold mCallV mNil at q
  cases hi : ρ[i]? with
  | none => rw [hi] at q; exact q.elim
  | some o =>
    cases o with
    | none => rw [hi] at q; exact q.elim
    | some sl =>
      cases sl with
      | own l => rw [hi] at q; exact q.elim
      | val d =>
        rw [hi] at q
        have z : Post b c σ H W (if isCal d = true then CT d [] μ else .stuck) Q := q
        by_cases hc : isCal d = true
        · rw [if_pos hc] at z
          obtain ⟨v, hv1, rv⟩ := kk.e.val i d hi
          refine wpAny_Call_Name_kw (thn ((pe_var (pos := p) (i := i) hN hv hd hcd).run pins s σ H (fun w H1 => w = v ∧ H1 = H) I ⟨v, hv1, rfl, rfl⟩) fun u s1 ⟨w, H1, I1, r1, q1⟩ => ?_)
          obtain ⟨rfl, rfl⟩ := q1
          obtain ⟨f, rfl, hf⟩ := cal_at I1.hok (by rw [hK]; exact I1.kIn) rv r1 hc
          exact PySem.W.callWith_F0 hf (callv_core hS hC hr hk tk I1 hK kk.m rv r1 .nil .nil z)
        · rw [if_neg hc] at z
          exact z.elim
end

/-! ### a def that is handed values to call -/
/-- the code of the function at f -/
def CodeIs (K : PySem.W.Frag) (f : Addr) (cdv : Value) : Prop := ∃ oc od fd osl, K.lookup f = some ⟨oc, od, .func fd, osl⟩ ∧ fd.code = cdv
def PostAll [HasH] (c : Ct) (H : Hp) (F : List (Str × Addr) → Out D) (Q : VK) (E : XK) : Prop := ∀ fc, PostF c H (F fc) Q E
section
variable {P : Program} {w : World} {K : PySem.W.Frag} {mg : Str → Option Value} {base : Heap}
theorem run_pre [HasH] {x qual : Str} {params : Arguments} {body : List Stmt} {scope : Scope} {dvs : List V} {kws : List (Str × V)} {f : Addr} {fd : FuncData} {N ps : List Str} {k : Nat} {sp : List (Str × Addr) → Sp} (F : FunD K x qual params body scope dvs kws f fd) (S : FnScope N ps scope) (Pre : Shared → Hp → Prop) (ln : ∀ fc vs H Q E, sp fc vs H Q E → vs.length = ps.length)
    (hb : ∀ (cdv : Value) (A : Around) (outer : List PySem.Env) (s : Shared) (H : Hp) (vs : List V) (Q : VK) (E : XK), CodeIs K f cdv → Rm k (A.deeper (envOfC qual scope s.heap.objs.size f cdv)) → Pre s H → sp (envOfC qual scope s.heap.objs.size f cdv).cells vs H Q E →
      ∃ t, PSs (cxOf (L2.CX P w) P w K mg base N qual scope f cdv A outer s H E) body t ∧ t { rt := Q, nx := fun _ H' => Q .non H' } (L2.start N vs) H)
    (A : Around) (outer : List PySem.Env) (s : Shared) (H : Hp) (args : Args) (us : List Value) (vs : List V) (Q : VK) (E : XK)
    (room : Rm (k + 1) A) (e0 : Env0 P w K mg base A outer s H) (bound : BindsTo s fd args (ps.zip us)) (rel : Vals vs us) (pre : Pre s H) (said : ∀ fc, sp fc vs H Q E) :
    codeAny (model P w) A (.call (.ref f) args) (CR (L2.CX P w) outer P w H s Q E) s := by
  have sameLen := ln [] _ _ _ _ (said [])
  obtain ⟨oc, od, dV, kV, doc, pm, an, cdv, ct, osl, rfl, atF, inCode, _, _⟩ := F.ex
  have kin : K.In s.heap := e0.mod.kin.keeps (fun b o e => (e0.bs b o e).1)
  have nolim : s.heap.NoLimit := e0.mod.nolimit.keeps (fun b o e => (e0.bs b o e).1)
  have kinds : ∀ y ∈ ps.zip us, scope.names.lookup y.1 = some .local ∨
      (scope.names.lookup y.1 = some .cell ∧ ((cellsFrom (s.heap.objs.size + 1) scope.names []).lookup y.1).isSome = true) := by
    rintro ⟨n, v⟩ hy
    have q := S.par n (List.of_mem_zip hy).1
    rcases q with q | q
    · left; exact q
    · right; exact ⟨q, PySem.W.cellsFrom_some _ _ _ (.inl q)⟩
  refine codeAny_call_function room.r.depth (kin _ _ atF) rfl S.co S.gen rfl (PySem.W.codeRec_of kin inCode) (bound _ _ _ _ ?_)
  refine wpAny_newFunctionEnv_cells S.kind kinds ?_
  intro env henv s1 x1
  subst henv
  refine ⟨nolim.keeps x1.toInCall.keep, codeAny_func ?_⟩
  obtain ⟨t, body1, wish⟩ := hb cdv A outer s H vs Q E ⟨oc, od, _, osl, atF, rfl⟩ (room.deeper _) pre (said _)
  have I := inv_start (CX := L2.CX P w) (P := P) (w := w) (qual := qual) (f := f) (cd := cdv) (E := E) S room.r.hd e0 sameLen rel x1
  refine wpAny_mono (body1.run [] s1 (L2.start N vs) H _ I wish) ?_ fun e s' hs => hs
  intro fl s' hs
  cases fl with
  | ret u =>
    obtain ⟨v, σ', H', J, rv, q⟩ := hs
    exact ⟨v, H', J.os, J.bare, J.base, J.hok, rv, q⟩
  | next =>
    obtain ⟨σ', H', J, q⟩ := hs
    exact ⟨V.non, H', J.os, J.bare, J.base, J.hok, rfl, q⟩
  | brk => obtain ⟨_, _, _, q⟩ := hs; exact q.elim
  | cont => obtain ⟨_, _, _, q⟩ := hs; exact q.elim
/-- from the frame's outcome to the def's -/
theorem ends_data [HasH] {W : XK} {N n : Nat} {m : SS} {c : Ct} {H : Hp} {μ : Mu} {ds : List D} {Q : VK} (e : ds.length = n) (p : PostF c H (mFn n N m ds μ) Q W) : PostS ⟨c, H, [], []⟩ (WE' W) (m (env0 N ds) μ) { rt := Q, nx := fun _ H' => Q .non H' } := by
  unfold mFn at p
  rw [if_pos e] at p
  cases q : m (env0 N ds) μ with
  | nx ρ' μ' =>
    rw [q] at p
    exact fun c' H' σ' f' => p .non H' (f'.fin .non)
  | rt d μ' => rw [q] at p; exact fun H' v f' => p v H' f'
  | exn y fs ρ' μ' =>
    rw [q] at p
    intro c' H' σ' cls dd f' r'
    obtain ⟨more, eb⟩ := f'.br
    have hbr : ∀ a ∈ c.br, a ∈ c'.br := fun a z => by rw [eb]; exact List.mem_append_right _ z
    refine p cls dd ⟨c'.K, c'.cs, c.br⟩ H' f'.stp (f'.ok.m.lessB hbr) ⟨r'.cls, ?_⟩
    rcases r'.fs with z | ⟨d, ff, v, e', z1, z2, z3, z4, z5⟩
    · exact .inl z
    · exact .inr ⟨d, ff, v, e', z1, z2, z3, z4, z5.lessB hbr⟩
  | bk ρ' μ' => rw [q] at p; exact p.elim
  | ct ρ' μ' => rw [q] at p; exact p.elim
  | stuck => rw [q] at p; exact p.elim
/-- a def whose cells are told, where Pre stands -/
def spAll [HasH] (K : PySem.W.Frag) (n : Nat) (F : List (Str × Addr) → FD) (fc : List (Str × Addr)) : Sp := fun vs H Q E => ∃ c μ ds, c.K = K ∧ MRel c H μ ∧ Reps c H vs ds ∧ ds.length = n ∧ PostF c H (F fc ds μ) Q E
theorem run_data [HasH] {x qual : Str} {params : Arguments} {body : List Stmt} {scope : Scope} {dvs : List V} {kws : List (Str × V)} {f : Addr} {fd : FuncData} {N ps : List Str} {k : Nat} {m : List (Str × Addr) → SS} (F : FunD K x qual params body scope dvs kws f fd) (S : FnScope N ps scope) (hNp : ps.length ≤ N.length) (Pre : Shared → Hp → Prop)
    (hb : ∀ (cdv : Value) (A : Around) (outer : List PySem.Env) (s : Shared) (H : Hp) (E : XK), CodeIs K f cdv → Rm k (A.deeper (envOfC qual scope s.heap.objs.size f cdv)) → Pre s H →
      PSDs (cxOf (L2.CX P w) P w K mg base N qual scope f cdv A outer s H E) (WE' E) body (m (envOfC qual scope s.heap.objs.size f cdv).cells))
    (A : Around) (outer : List PySem.Env) (s : Shared) (H : Hp) (args : Args) (us : List Value) (vs : List V) (Q : VK) (E : XK)
    (room : Rm (k + 1) A) (e0 : Env0 P w K mg base A outer s H) (bound : BindsTo s fd args (ps.zip us)) (rel : Vals vs us) (pre : Pre s H) (said : ∀ fc, spAll K ps.length (fun fc => mFn ps.length N.length (m fc)) fc vs H Q E) :
    codeAny (model P w) A (.call (.ref f) args) (CR (L2.CX P w) outer P w H s Q E) s := by
  refine run_pre (sp := spAll K ps.length (fun fc => mFn ps.length N.length (m fc))) F S Pre (fun fc vs H Q E h => ?_) (fun cdv A outer s H vs Q E hcd hr hp h => ?_) A outer s H args us vs Q E room e0 bound rel pre said
  · obtain ⟨c, μ, ds, _, _, r, e, _⟩ := h
    rw [r.length, e]
  · obtain ⟨c, μ, ds, hK, M, r, e, p⟩ := h
    obtain ⟨t, h1, h2⟩ := hb cdv A outer s H E hcd hr hp
    exact ⟨t, h1, h2 ⟨c, H, [], []⟩ c H (L2.start N vs) (env0 N.length ds) μ hK (frR_start M r (by rw [r.length, e]; exact hNp)) _ (ends_data e p)⟩
/-- whatever the cells' places are -/
noncomputable def mAll (F : List (Str × Addr) → FD) : FD := fun ds μ => by
  classical
  exact if h : ∃ o, ∀ fc, F fc ds μ = o then h.choose else .stuck
theorem mAll_eq {F : List (Str × Addr) → FD} {ds : List D} {μ : Mu} {o : Out D} (h : ∀ fc, F fc ds μ = o) : mAll F ds μ = o := by
  have ex : ∃ o, ∀ fc, F fc ds μ = o := ⟨o, h⟩
  unfold mAll
  rw [dif_pos ex]
  exact (ex.choose_spec []).symm.trans (h [])
theorem spAll_of [HasH] {n : Nat} {F : List (Str × Addr) → FD} {vs : List V} {H : Hp} {Q : VK} {E : XK} (h : spOf K n (mAll F) vs H Q E) (fc : List (Str × Addr)) : spAll K n F fc vs H Q E := by
  obtain ⟨c, μ, ds, hK, M, r, e, p⟩ := h
  refine ⟨c, μ, ds, hK, M, r, e, ?_⟩
  unfold mAll at p
  split at p
  · rename_i ex
    rw [ex.choose_spec fc]
    exact p
  · exact p.elim
theorem spAll_one [HasH] {n : Nat} {F : FD} {vs : List V} {H : Hp} {Q : VK} {E : XK} (h : spOf K n F vs H Q E) (fc : List (Str × Addr)) : spAll K n (fun _ => F) fc vs H Q E := h

/-- a def that is handed values to call (level kc): F of what calls of values do -/
structure CalL (P : Program) (w : World) (K : PySem.W.Frag) (mg : Str → Option Value) (base : Heap) (k kc : Nat) (x : Str) (n : Nat) (F : (D → FD) → FD) : Prop where
  ex : ∃ f fd ps, mg x = some (.ref f) ∧ PySem.W.keepIn K (.ref f) = true ∧ Binds K fd ps [] ∧ ps.length = n ∧ ∀ (h : HasH) (S : Stn) (CT : D → FD), CallF P w K mg base kc S CT →
    ∀ (A : Around) (outer : List PySem.Env) (s : Shared) (H : Hp) (args : Args) (us : List Value) (vs : List V) (Q : VK) (E : XK), Rm k A → Env0 P w K mg base A outer s H → BindsTo s fd args (ps.zip us) → Vals vs us → CellsOk S s.heap H → spOf K n (F CT) vs H Q E →
      codeAny (model P w) A (.call (.ref f) args) (CR (L2.CX P w) outer P w H s Q E) s
theorem calL_mk {x : Str} {st : Stmt} {N ps : List Str} {k kc : Nat} {m : (D → FD) → SS} {f : Addr} {fd : FuncData} (F : FunD K x x (defArgs st) (defBody st) (defScope st) [] [] f fd) (hm : mg x = some (.ref f)) (S : FnScope N ps (defScope st)) (hNp : ps.length ≤ N.length)
    (hbind : ∀ (kV doc pm : Value) (an : Option Addr) (cdv ct : Value) (us : List Value), us.length = ps.length → bindArgs (PySem.W.fnOf x x (defArgs st) (defBody st) (defScope st) .none kV doc pm an cdv ct) ⟨us, []⟩ = pure (ps.zip us))
    (hb : ∀ (h : HasH) (S : Stn) (CT : D → FD) (cdv : Value) (A : Around) (outer : List PySem.Env) (s : Shared) (H : Hp) (E : XK), CallF P w K mg base kc S CT → Sees (cxOf (L2.CX P w) P w K mg base N x (defScope st) f cdv A outer s H E) S → CodeIs K f cdv → Rm k (A.deeper (envOfC x (defScope st) s.heap.objs.size f cdv)) →
      PSDs (cxOf (L2.CX P w) P w K mg base N x (defScope st) f cdv A outer s H E) (WE' E) (defBody st) (m CT)) :
    CalL P w K mg base (k + 1) kc x ps.length (fun CT => mFn ps.length N.length (m CT)) := by
  refine ⟨⟨f, fd, ps, hm, F.kp, F.bindsN hbind, rfl, fun h S' CT hC A outer s H args us vs Q E hr e0 bd rv hS sp => ?_⟩⟩
  exact run_data (m := fun _ => m CT) F S hNp (fun s H => CellsOk S' s.heap H) (fun cdv A outer s H E hcd hr hS => hb h S' CT cdv A outer s H E hC ⟨hS, fun a b _ z => absurd (show a ∈ ([] : List Addr) from z) (by simp)⟩ hcd hr) A outer s H args us vs Q E hr e0 bd rv hS (spAll_one sp)
/-- .. that makes lambdas of its own -/
theorem calLO_mk {x : Str} {st : Stmt} {N ps : List Str} {k kc : Nat} {m : (D → FD) → List (Str × Addr) → SS} {f : Addr} {fd : FuncData} (F : FunD K x x (defArgs st) (defBody st) (defScope st) [] [] f fd) (hm : mg x = some (.ref f)) (S : FnScope N ps (defScope st)) (hNp : ps.length ≤ N.length)
    (hbind : ∀ (kV doc pm : Value) (an : Option Addr) (cdv ct : Value) (us : List Value), us.length = ps.length → bindArgs (PySem.W.fnOf x x (defArgs st) (defBody st) (defScope st) .none kV doc pm an cdv ct) ⟨us, []⟩ = pure (ps.zip us))
    (hb : ∀ (h : HasH) (S : Stn) (CT : D → FD) (cdv : Value) (A : Around) (outer : List PySem.Env) (s : Shared) (H : Hp) (E : XK), CallF P w K mg base kc S CT → Sees (cxOf (L2.CX P w) P w K mg base N x (defScope st) f cdv A outer s H E) S → CodeIs K f cdv → Rm k (A.deeper (envOfC x (defScope st) s.heap.objs.size f cdv)) →
      PSDs (cxOf (L2.CX P w) P w K mg base N x (defScope st) f cdv A outer s H E) (WE' E) (defBody st) (m CT (envOfC x (defScope st) s.heap.objs.size f cdv).cells)) :
    CalL P w K mg base (k + 1) kc x ps.length (fun CT => mAll fun fc => mFn ps.length N.length (m CT fc)) := by
  refine ⟨⟨f, fd, ps, hm, F.kp, F.bindsN hbind, rfl, fun h S' CT hC A outer s H args us vs Q E hr e0 bd rv hS sp => ?_⟩⟩
  exact run_data (m := m CT) F S hNp (fun s H => CellsOk S' s.heap H) (fun cdv A outer s H E hcd hr hS => hb h S' CT cdv A outer s H E hC ⟨hS, fun a b _ z => absurd (show a ∈ ([] : List Addr) from z) (by simp)⟩ hcd hr) A outer s H args us vs Q E hr e0 bd rv hS (spAll_of sp)
/-- such a def as one that may be called anywhere -/
theorem CalL.cal {x : Str} {n k kc : Nat} {F : (D → FD) → FD} (c : CalL P w K mg base k kc x n F) : Cal P w K mg base k x n (F ct0) := by
  obtain ⟨f, fd, ps, hm, hk, hb, hn, run⟩ := c.ex
  refine ⟨⟨f, fd, ps, hm, hk, fun h => ⟨fun vs H Q E q => ?_, fun A outer s H args us vs Q E hr e0 bd rv sp => ?_⟩, hb, hn⟩⟩
  · obtain ⟨c, μ, ds, _, _, r, e, _⟩ := q
    rw [r.length, e, hn]
  · exact run h (fun _ _ => False) ct0 callF0 A outer s H args us vs Q E hr e0 bd rv (fun _ _ z => z.elim) sp
end
section
variable [HasH] {X : Cx} {W : WX} {b : Bool} {e : Expr} {es : List Expr} {mr : SA} {x : Str} {p pos : Pos} {k kc j n : Nat} {S : Stn} {CT : D → FD} {F : (D → FD) → FD}
/-- the call of such a def -/
theorem pd_callL (cl : CalL X.prog X.w X.K X.mg X.base k kc x n F) (hS : Sees X S) (hC : CallF X.prog X.w X.K X.mg X.base kc S CT) (hr : Rm j X.A) (hk : k ≤ j) (tk : Takes X W) (ha : PDA X W false (e :: es) mr) (hg : Gl X x := by rfl) (hdb : (x == ("__debug__" : Str)) = false := by decide)
    (he : starEach (e :: es) X.env = (false, eval e X.env) :: starEach es X.env := by rfl) (hpl : (backTo pos (starEach es X.env)).any (·.1) = false := by rfl) : PD X W b (.Call (.Name x p) (e :: es) [] pos) (mCall n (F CT) mr) := by
  obtain ⟨f, fd, ps, hm, hkp, hb, hn, run⟩ := cl.ex
  obtain ⟨ta, a1, a2⟩ := ha
  refine PD.mk' fun pins s σ H Q c ρ μ I hK kk q => ?_
  refine wpAny_Call_Name_kw (ld_glob I hg hm ?_ hdb)
  refine PySem.W.callWith_K (h₀ := X.base) I.ok.mod.kin hkp (thn (a1.run pos pins s σ H _ I (a2 c H σ ρ μ hK kk _ (PostG.bnd q fun ds μ1 vs c1 H2 s2 M2 r2 p2 => (⟨c1, μ1, ds, s2, M2, r2.reps, Post.of p2⟩ : ∃ c1 μ1 ds, Stp c c1 H H2 ∧ MRel c1 H2 μ1 ∧ Reps c1 H2 vs ds ∧ Post false c1 σ H2 W (if ds.length = n then F CT ds μ1 else .stuck) Q)))) ?_) he hpl
  rintro us s2 ⟨vs, H2, I2, rv2, c1, μ1, ds, st, M2, r2, p2⟩
  refine ⟨I2.kIn, call_ends tk I2 ?_⟩
  by_cases hl : ds.length = n
  · rw [if_pos hl] at p2
    have bound := hb s2 us I2.kIn (by rw [List.append_nil, ← rv2.length, r2.length, hl, hn])
    rw [List.append_nil] at bound
    exact run _ S CT hC X.A X.stack s2 H2 ⟨us, []⟩ us vs Q (WE W σ) (hr.mono hk) I2.env0 bound rv2 (hS.now I2) ⟨c1, μ1, ds, st.K.trans hK, M2, r2, hl, postF_of p2 (Stp.refl _ _)⟩
  · rw [if_neg hl] at p2
    exact p2.elim
end
end DL
/-! # Db4: a frame's own lambdas are handed on -/
namespace DL
open PySem PySem.Spec L2
open PyProof.Rows hiding St
variable [HasL] [HasX]
/-- a lambda of a frame: its number, names, the places of the captured ones in the frame, its body's reading -/
structure LamE where
  n : Nat
  N : List Str
  ps : List Str
  fr : List Str
  js : List Nat
  m : (D → FD) → SE
def ctOwn (fc : List (Str × Addr)) (l : List LamE) (get : Nat → Option D) (CTi CT0 : D → FD) : D → FD := fun d ds μ => match d with
  | .lam n fc' => if fc' = fc then (match l.find? (fun e => e.n == n) with
    | some e => mLamS e.ps.length e.N.length e.js (e.m CTi) get ds μ
    | none => .stuck) else CT0 d ds μ
  | d => CT0 d ds μ
def ctN (fc : List (Str × Addr)) (l : List LamE) (CT0 : D → FD) (get : Nat → Option D) : Nat → D → FD
  | 0 => CT0
  | n + 1 => ctOwn fc l get (ctN fc l CT0 get n) CT0
def valAt (ρ : Env) (j : Nat) : Option D := match ρ[j]? with
  | some (some (.val d)) => some d
  | _ => none
theorem valAt_some {ρ : Env} {j : Nat} {d : D} (h : valAt ρ j = some d) : ρ[j]? = some (some (.val d)) := by
  unfold valAt at h
  split at h
  · rename_i e q
    cases h
    exact q
  · cases h
def heldAt (σ : L2.St) (ρ : Env) (j : Nat) : Option (V × D) := match σ[j]?, valAt ρ j with
  | some (some v), some d => some (v, d)
  | _, _ => none
def heldOf (σ : L2.St) (ρ : Env) : List (V × D) := (List.range ρ.length).filterMap (heldAt σ ρ)
theorem heldOf_mem {σ : L2.St} {ρ : Env} {j : Nat} {v : V} {d : D} (h1 : σ[j]? = some (some v)) (h2 : ρ[j]? = some (some (.val d))) : (v, d) ∈ heldOf σ ρ := by
  refine List.mem_filterMap.mpr ⟨j, List.mem_range.mpr (List.getElem?_eq_some_iff.mp h2).1, ?_⟩
  unfold heldAt
  rw [h1]
  have : valAt ρ j = some d := by unfold valAt; rw [h2]
  rw [this]
theorem heldOf_rep [HasH] {c : Ct} {H : Hp} {σ : L2.St} {ρ : Env} {μ : Mu} (k : Ok c H σ ρ μ) : ∀ p ∈ heldOf σ ρ, Rep c H p.1 p.2 := by
  rintro ⟨v, d⟩ hp
  obtain ⟨j, _, hj⟩ := List.mem_filterMap.mp hp
  unfold heldAt at hj
  cases h1 : σ[j]? with
  | none => rw [h1] at hj; cases hj
  | some o =>
    cases o with
    | none => rw [h1] at hj; cases hj
    | some v' =>
      rw [h1] at hj
      cases h2 : valAt ρ j with
      | none => rw [h2] at hj; cases hj
      | some d' =>
        rw [h2] at hj
        cases hj
        obtain ⟨v'', e1, e2⟩ := k.e.val j d (valAt_some h2)
        rw [h1] at e1
        cases e1
        exact e2
structure OwnL (X : Cx) (k : Nat) (l : List LamE) : Prop where
  ok : ∀ j, k ≤ j → ∀ e ∈ l, LamOk X.prog X.w X.K X.mg X.base j e.n e.N e.ps e.fr e.m
  js : ∀ e ∈ l, (e.js.map fun j => X.N[j]?) = e.fr.map some
  free : ∀ e ∈ l, ∀ y ∈ (HasL.lt e.n).scope.names, y.2 = .free → X.env.scope.names.lookup y.1 = some .cell ∨ X.env.scope.names.lookup y.1 = some .free
/-- the frame's values are held besides -/
abbrev hUp (h : HasH) (σ : L2.St) (ρ : Env) : HasH := ⟨heldOf σ ρ ++ h.hd⟩
/-- the frame's cells hold what they hold now -/
def sUp (X : Cx) (s : Shared) (S : Stn) : Stn := fun c v => S c v ∨ ((∃ y, X.env.cells.lookup y = some c) ∧ s.heap.IsCell c v)
section
variable {X : Cx} {pins : List (Addr × Obj)} {σ : L2.St} {H : Hp} {s : Shared} {S : Stn} {CT0 : D → FD} {k : Nat} {l : List LamE} {c : Ct} {ρ : Env} {μ : Mu}
theorem sUp_ok (hS : Sees X S) (I : Inv X pins σ H s) : CellsOk (sUp X s S) s.heap H := by
  rintro a v (q | ⟨⟨y, hy⟩, q⟩)
  · exact hS.now I a v q
  · exact ⟨I.freeC y a hy, q⟩
theorem ctN_ok {h : HasH} (hC : CallF X.prog X.w X.K X.mg X.base k S CT0) (O : OwnL X k l) (I : Inv X pins σ H s) (k0 : ∀ (j : Nat) (d : D), ρ[j]? = some (some (.val d)) → ∃ v, σ[j]? = some (some v)) : ∀ d, @CallF _ _ (hUp h σ ρ) X.prog X.w X.K X.mg X.base (k + d) (sUp X s S) (ctN X.env.cells l CT0 (valAt ρ) d)
  | 0 => CallF.up hC (fun p hp => List.mem_append_right _ hp) (fun a v q => .inl q)
  | d + 1 => by
    have ih := ctN_ok hC O I k0 d
    have up0 : @CallF _ _ (hUp h σ ρ) X.prog X.w X.K X.mg X.base (k + (d + 1)) (sUp X s S) CT0 := (CallF.mono hC (Nat.le_add_right k (d + 1))).up (fun p hp => List.mem_append_right _ hp) (fun a v q => .inl q)
    intro A outer s' H' c' μ' v u dd vs us ds Q E hr e0 hS' hK M r ru rs rv p
    cases dd with
    | lam n fc' =>
      have p1 : @PostF _ _ (hUp h σ ρ) c' H' (if fc' = X.env.cells then (match l.find? (fun e => e.n == n) with
        | some e => mLamS e.ps.length e.N.length e.js (e.m (ctN X.env.cells l CT0 (valAt ρ) d)) (valAt ρ) ds μ'
        | none => .stuck) else CT0 (.lam n fc') ds μ') Q E := p
      clear p
      by_cases hf : fc' = X.env.cells
      · rw [if_pos hf] at p1
        subst hf
        cases hfi : l.find? (fun e => e.n == n) with
        | none => rw [hfi] at p1; exact p1.elim
        | some e =>
          rw [hfi] at p1
          have he : e ∈ l := List.mem_of_find?_eq_some hfi
          have hn : e.n = n := by
            have z := List.find?_some hfi
            simpa using z
          subst hn
          have L := O.ok (k + d) (Nat.le_add_right _ _) e he
          have p2 : @PostF _ _ (hUp h σ ρ) c' H' (if ds.length = e.ps.length then e.m (ctN X.env.cells l CT0 (valAt ρ) d) (lamEnv e.N.length ds (e.js.map (valAt ρ))) μ' else .stuck) Q E := p1
          by_cases hl : ds.length = e.ps.length
          · rw [if_pos hl] at p2
            have caps : NdefX.Caps X (L2.cloFrom X.env.cells (HasL.lt e.n).scope.names []) e.fr e.js := NdefX.Caps.made I.ok (O.free e he) (fun y hy => PySem.mem_of_lookup (L.S.frk y hy)) (O.js e he)
            have C0 := NdefX.cells_of I caps
            have C1 : NdefX.CellsAt (L2.cloFrom X.env.cells (HasL.lt e.n).scope.names []) e.fr (e.js.map (NdefX.slotAt σ)) s'.heap H' := by
              refine ⟨C0.len, fun y a ha => ?_, C0.inj, fun i y hy => ?_⟩
              · obtain ⟨n1, w', z⟩ := C0.all y a ha
                obtain ⟨z1, z2⟩ := hS' a w' (.inr ⟨⟨y, caps.sub y a ha⟩, z⟩)
                exact ⟨z1, w', z2⟩
              · obtain ⟨a, ha, hv⟩ := C0.has i y hy
                refine ⟨a, ha, fun w' ew => ?_⟩
                obtain ⟨u', ru', z⟩ := hv w' ew
                exact ⟨u', ru', (hS' a _ (.inr ⟨⟨y, caps.sub y a ha⟩, z⟩)).2⟩
            refine @lam_run _ _ (hUp h σ ρ) _ _ _ _ _ _ _ _ _ _ _ _ L _ ih A outer s' H' c' μ' v u _ vs us ds _ (e.js.map (valAt ρ)) Q E hr e0 hS' hK M r ru C1 rs rv hl ?_ (by rw [List.length_map, List.length_map]) p2
            intro i d' hd'
            rw [List.getElem?_map] at hd'
            cases ej : e.js[i]? with
            | none => rw [ej] at hd'; cases hd'
            | some j =>
              rw [ej] at hd'
              have h2 := valAt_some (Option.some.inj hd')
              obtain ⟨w', e1⟩ := k0 j d' h2
              refine ⟨w', by rw [List.getElem?_map, ej]; exact congrArg some (NdefX.slotAt_of e1), ?_⟩
              exact mrel_held M (w', d') (List.mem_append_left _ (heldOf_mem e1 h2))
          · rw [if_neg hl] at p2
            exact p2.elim
      · rw [if_neg hf] at p1
        exact up0 A outer s' H' c' μ' v u _ vs us ds Q E hr e0 hS' hK M r ru rs rv p1
    | _ => exact up0 A outer s' H' c' μ' v u _ vs us ds Q E hr e0 hS' hK M r ru rs rv p
end
section
variable [h : HasH] {X : Cx} {W : WX} {b : Bool} {e : Expr} {es : List Expr} {mr : SA} {x : Str} {p pos : Pos} {k kc j n d : Nat} {S : Stn} {CT0 : D → FD} {F : (D → FD) → FD} {l : List LamE}
/-- a def is called that is handed the frame's own lambdas -/
def mCallO (n : Nat) (F : (D → FD) → FD) (ct : (Nat → Option D) → D → FD) (mr : SA) : SE := fun ρ μ => (mr ρ μ).bnd fun ds μ1 => if ds.length = n then F (ct (valAt ρ)) ds μ1 else .stuck
theorem pd_callO (cl : CalL X.prog X.w X.K X.mg X.base j kc x n F) (hS : Sees X S) (hC : CallF X.prog X.w X.K X.mg X.base k S CT0) (O : OwnL X k l) {r : Nat} (hr : Rm r X.A) (hj : j ≤ r) (hd : k + d ≤ kc) (tk : Takes X W) (ha : PDA X W false (e :: es) mr) (hg : Gl X x := by rfl) (hdb : (x == ("__debug__" : Str)) = false := by decide)
    (he : starEach (e :: es) X.env = (false, eval e X.env) :: starEach es X.env := by rfl) (hpl : (backTo pos (starEach es X.env)).any (·.1) = false := by rfl) : PD X W b (.Call (.Name x p) (e :: es) [] pos) (mCallO n F (fun get => ctN X.env.cells l CT0 get d) mr) := by
  obtain ⟨f, fd, ps, hm, hkp, hb, hn, run⟩ := cl.ex
  obtain ⟨ta, a1, a2⟩ := ha
  refine PD.mk' fun pins s σ H Q c ρ μ I hK kk q => ?_
  refine wpAny_Call_Name_kw (ld_glob I hg hm ?_ hdb)
  refine PySem.W.callWith_K (h₀ := X.base) I.ok.mod.kin hkp (thn (a1.run pos pins s σ H _ I (a2 c H σ ρ μ hK kk _ (PostG.bnd q fun ds μ1 vs c1 H2 s2 M2 r2 p2 => (⟨c1, μ1, ds, s2, M2, r2.reps, Post.of p2⟩ : ∃ c1 μ1 ds, Stp c c1 H H2 ∧ MRel c1 H2 μ1 ∧ Reps c1 H2 vs ds ∧ Post false c1 σ H2 W (if ds.length = n then F (ctN X.env.cells l CT0 (valAt ρ) d) ds μ1 else .stuck) Q)))) ?_) he hpl
  rintro us s2 ⟨vs, H2, I2, rv2, c1, μ1, ds, st, M2, r2, p2⟩
  refine ⟨I2.kIn, call_ends tk I2 ?_⟩
  by_cases hl : ds.length = n
  · rw [if_pos hl] at p2
    have bound := hb s2 us I2.kIn (by rw [List.append_nil, ← rv2.length, r2.length, hl, hn])
    rw [List.append_nil] at bound
    have kk2 : Ok c1 H2 σ ρ μ1 := kk.step st M2
    have g2 : ∀ p ∈ (hUp h σ ρ).hd, Rep c1 H2 p.1 p.2 := fun p hp => (List.mem_append.mp hp).elim (heldOf_rep kk2 p) (mrel_held M2 p)
    have M3 : @MRel _ _ (hUp h σ ρ) c1 H2 μ1 := mrel_to M2 g2
    have p3 : @PostF _ _ (hUp h σ ρ) c1 H2 (F (ctN X.env.cells l CT0 (valAt ρ) d) ds μ1) Q (WE W σ) := PostF.down (fun p hp => List.mem_append_right _ hp) (postF_of p2 (Stp.refl _ _))
    exact run (hUp h σ ρ) (sUp X s2 S) _ (@CallF.mono _ _ (hUp h σ ρ) _ _ _ _ _ _ _ _ _ (ctN_ok hC O I2 (fun j d hj => (kk2.e.val j d hj).imp fun _ z => z.1) d) hd) X.A X.stack s2 H2 ⟨us, []⟩ us vs Q (WE W σ) (hr.mono hj) I2.env0 bound rv2 (sUp_ok hS I2) ⟨c1, μ1, ds, st.K.trans hK, M3, r2, hl, p3⟩
  · rw [if_neg hl] at p2
    exact p2.elim
end
end DL
/-! # Db5: a comprehension whose block is looked at where it starts -/
namespace DL
open PySem PySem.Spec L2
open PyProof.Rows hiding St
variable [HasL] [HasX]
section
variable {X : Cx}
/-- what is known where the block starts -/
structure Begins (X : Cx) (pins : List (Addr × Obj)) (σ : L2.St) (s : Shared) (H : Hp) (fp : List Addr) : Prop where
  inv : Inv X pins σ H s
  fp : ∀ b ∈ fp, FpOk X pins H b ∧ b < s.heap.objs.size
theorem lc_own {pins : List (Addr × Obj)} {s0 : Shared} {σ : L2.St} {H0 : Hp} {Q : VK} {elt tg iter : Expr} {ifs : List Expr} {scope : Scope} {own : List (Str × Nat)} {pos : Pos} {wi : TI} {g : TG} {tt : TT} {te : TE}
    (calm : X.calm = true) (nd : X.N.Nodup) (I0 : Inv X pins σ H0 s0) (over : PI X tg iter wi) (bo : BlkOk X.N X.env.scope scope own)
    (parts : ∀ (s : Shared) (H : Hp) (C : Addr) (cl : List (Str × Addr)) (fp : List Addr), Begins X pins σ s H fp →
      PG (X.blk s H scope (compEnvC scope cl C X.env) fp) tg g ∧ PTs (X.blk s H scope (compEnvC scope cl C X.env) fp) ifs tt ∧ PE (X.blk s H scope (compEnvC scope cl C X.env) fp) elt te)
    (nf : ∀ x, foldedSetIterable iter X.env x = pure x) (wish : tLc wi g tt te (own.map (·.2)) σ H0 Q) :
    wpAny (model X.prog X.w) X.A (eval (.ListComp elt [⟨tg, iter, ifs, 0⟩] scope pos) X.env) (EP X pins σ Q) X.xe s0 := by
  have caught : ∀ y ∈ scope.names, y.2 = .free → ∃ c, X.env.cells.lookup y.1 = some c := by
    intro y hy e
    have z := bo.free y hy e
    exact z.elim (fun k => I0.ok.has y.1 (Or.inl k)) (fun k => I0.ok.has y.1 (Or.inr k))
  rw [eval_ListComp]
  refine wpAny_comprehension_free (use := none) rfl nf (closure_ok caught) bo.kind ?_ ?_
  · intro y hy e
    rw [bo.uniq y hy, e]
  refine thn (over.run pins s0 σ H0 _ I0 wish) ?_
  intro xv sA hA
  refine thn hA ?_
  rintro itv sB ⟨it, fp, tn, J, HB, rfl, IB, T, atB, okB, more⟩
  refine wpAny_newObj_type (newEnv_comp ?_) (by show 0 ≤ sizeLine; decide)
  obtain ⟨L, hL⟩ : ∃ L, L = sB.heap.objs.size := ⟨_, rfl⟩
  rw [← hL]
  have freeL : HB L = none := IB.hok.fresh (Nat.le_of_eq hL.symm)
  obtain ⟨W, ⟨m0, w0⟩, turns⟩ := more L freeL
  -- the new list stands
  obtain ⟨sC, hC⟩ : ∃ sC : Shared, sC = { sB with heap := sB.heap.push { cls := .type "list", data := .seq ([] : List Value).toArray } } := ⟨_, rfl⟩
  have heapC : sC.heap = sB.heap.push { cls := .type "list", data := .seq ([] : List Value).toArray } := by rw [hC]
  obtain ⟨HC, hHC⟩ : ∃ HC, HC = upd HB L (.lst []) := ⟨_, rfl⟩
  have IC : Inv X pins σ HC sC := by
    rw [hC, hHC]
    refine IB.laid (t' := sB.toks) (fun b o e => Heap.get?_push_of_some _ e) (Nat.le_of_eq hL.symm) ⟨Nat.zero_le _, [], 0, .nil, ?_⟩
    rw [hL]
    exact Heap.get?_push_size _ rfl
  have newer : ∀ b ∈ fp, b < sB.heap.objs.size := by
    intro b hb
    obtain ⟨o, e, _⟩ := T.obj _ _ atB b hb
    exact Heap.lt_size e
  have okC : ∀ b ∈ fp, FpOk X pins HC b ∧ b < sC.heap.objs.size := by
    intro b hb
    have lt := newer b hb
    have apart : b ≠ L := by rw [hL]; exact Nat.ne_of_lt lt
    refine ⟨⟨?_, (okB b hb).2⟩, ?_⟩
    · rw [hHC, upd_ne apart]
      exact (okB b hb).1
    · rw [heapC, Heap.size_push]
      exact Nat.lt_succ_of_lt lt
  have atC : tn 0 sC.heap := by
    refine T.keep _ _ _ atB fun b _ o e => ?_
    rw [heapC]
    exact Heap.get?_push_of_some _ e
  have ID := block_start IC bo nd okC
  obtain ⟨pg, pt, pe⟩ := parts sC HC sC.heap.objs.size (cellsFrom (sC.heap.objs.size + 1) scope.names (cloFrom X.env.cells scope.names [])) fp ⟨IC, okC⟩
  rw [← hC]
  show codeAny _ _ (.compStart (.ListComp elt [⟨tg, iter, ifs, 0⟩] scope pos) 0 (.ref it) (.ref L) (compEnvC scope (cellsFrom (sC.heap.objs.size + 1) scope.names (cloFrom X.env.cells scope.names [])) sC.heap.objs.size X.env)) (compPost (model X.prog X.w) X.A X.xe none (EP X pins σ Q) (.ref L) sC.heap.objs.size) { sC with heap := pushCells (sC.heap.push { cls := .type "dict", data := .dict #[] }) scope.names }
  rw [← hHC] at w0
  have fpC : ∀ b ∈ fp, HC b = none := fun b hb => (okC b hb).1.1
  obtain ⟨ce, hce⟩ : ∃ ce, ce = compEnvC scope (cellsFrom (sC.heap.objs.size + 1) scope.names (cloFrom X.env.cells scope.names [])) sC.heap.objs.size X.env := ⟨_, rfl⟩
  rw [← hce] at ID pg pt pe ⊢
  have ceL : ce.locals = sC.heap.objs.size := by rw [hce] <;> rfl
  obtain ⟨sD, hsD⟩ : ∃ sD : Shared, sD = { sC with heap := pushCells (sC.heap.push { cls := .type "dict", data := .dict #[] }) scope.names } := ⟨_, rfl⟩
  rw [← hsD] at ID ⊢
  have atD : tn 0 sD.heap := by
    refine T.keep _ _ _ atC fun b _ o e => ?_
    rw [hsD]
    exact pushCells_keeps _ _ _ _ (Heap.get?_push_of_some _ e)
  have fpB : ∀ {σ' : L2.St} {H' : Hp} {s' : Shared}, Inv (X.blk sC HC scope ce fp) [] σ' H' s' → (∀ b ∈ fp, H' b = none) → ∀ b ∈ fp, FpOk (X.blk sC HC scope ce fp) [] H' b := by
    intro σ' H' s' J' un b hb
    have q := J'.ok.exf b hb
    refine ⟨un b hb, q.1, J'.ok.exfs b hb, Or.inl hb, fun x c e => q.2 x c e, fun p hp => ?_⟩
    exact absurd (show p ∈ ([] : List (Addr × Obj)) ++ [] from hp) (by simp)
  have step : codeAny (model X.prog X.w) X.A (.compLoop (.ListComp elt [⟨tg, iter, ifs, 0⟩] scope pos) 0 (.ref it) (.ref L) ce) (compPost (model X.prog X.w) X.A X.xe none (EP X pins σ Q) (.ref L) sC.heap.objs.size) sD := by
    refine compLoop_any (fun n s' => ∃ i H', W i n H' ∧ (∀ b ∈ fp, H' b = none) ∧ tn i s'.heap ∧ Inv (X.blk sC HC scope ce fp) [] (wipe σ (own.map (·.2))) H' s') ?_ m0 ⟨0, HC, w0, fpC, atD, ID⟩
    rintro n s1 ⟨i, H1, w1, un1, at1, J1⟩
    rcases turns i n H1 w1 with ⟨stop, fine⟩ | ⟨go, Nx, next, body⟩
    · -- no item is left
      have fin := T.done (X.blk sC HC scope ce fp) rfl rfl rfl calm i [] s1 _ H1 (fun _ _ => False) J1 (fpB J1 un1) at1 stop
      refine thnF fin ?_
      rintro r s2 ⟨rfl, J2⟩
      have I2 : Inv X pins σ H1 s2 := by
        refine IC.call' (ch := fp) J2.os J2.base J2.hok J2.bare fun b hb => ?_
        obtain ⟨_, z1, z2, z3, z4, z5⟩ := (okC b hb).1
        exact ⟨z3, z1, z4, z5⟩
      obtain ⟨m, hm, _⟩ := J2.loc
      have hm : s2.heap.Ns sC.heap.objs.size m := by rw [← ceL]; exact hm
      have hz : H1 sC.heap.objs.size = none := by rw [← ceL]; exact J2.free
      obtain ⟨f0, f1, f2, f3, f4, f5⟩ := IC.fpOk (Nat.le_refl _) hz
      refine ⟨m, hm, fun h'' sb => ?_⟩
      exact ⟨.ref L, H1, I2.turned (t' := s2.toks) (fun b o hb e => (sb.2 b hb).trans e) f0 f1 f3 f4 f5, rfl, fine⟩
    · -- one more item
      have item := T.item (X.blk sC HC scope ce fp) rfl rfl rfl calm i [] s1 _ H1 (fun _ _ => False) J1 (fpB J1 un1) at1 go
      refine thnF item ?_
      rintro r s2 ⟨u, rfl, h2⟩
      refine thnF h2 ?_
      rintro _ s3 ⟨x, H3, J3, r3, y3, at3, un3⟩
      have J4 := J3.pinned (fpB J3 un3) (T.obj _ _ at3)
      refine thnF (pg.run _ s3 _ H3 x u _ J4 r3 (body x H3 y3)) ?_
      rintro _ s5 ⟨σ5, H5, J5, same5, q5⟩
      refine thnF (pt.run _ s5 σ5 H5 _ J5 q5) ?_
      rintro b s6 ⟨H6, J6, q6⟩
      have close : ∀ {s' : Shared} {H' : Hp}, Nx H' → Inv (X.blk sC HC scope ce fp) ([] ++ pinsAt fp s3.heap) σ5 H' s' →
          ∃ m, m < n ∧ ∃ i H', W i m H' ∧ (∀ b ∈ fp, H' b = none) ∧ tn i s'.heap ∧ Inv (X.blk sC HC scope ce fp) [] (wipe σ (own.map (·.2))) H' s' := by
        intro s' H' hx J'
        obtain ⟨m', lt, w'⟩ := next H' hx
        have held : ∀ b ∈ fp, ∀ o, s3.heap.get? b = some o → s'.heap.get? b = some o ∧ H' b = none := by
          intro b hb o e
          have z := J'.pin (b, o) (List.mem_append_right _ (List.mem_append_right _ (mem_pinsAt hb e)))
          exact ⟨z.1, z.2.1⟩
        have len : (wipe σ (own.map (·.2))).length = σ5.length := by
          rw [← same5, wipe_length]
        refine ⟨m', lt, i + 1, H', w', ?_, ?_, ?_⟩
        · intro b hb
          obtain ⟨o, e, _⟩ := T.obj _ _ at3 b hb
          exact (held b hb o e).2
        · exact T.keep _ _ _ at3 fun b hb o e => (held b hb o e).1
        · refine (J'.unpinned (pins := [])).weak len fun j v e => ?_
          rw [← same5] at e
          exact (wipe_some e).1
      cases b with
      | false =>
        simp only [Bool.false_eq_true, if_false] at q6 ⊢
        exact close q6 J6
      | true =>
        simp only [if_true] at q6 ⊢
        refine thnF (pe.run _ s6 σ5 H6 _ J6 q6) ?_
        rintro z s7 ⟨yv, H7, J7, r7, acc, hL7, short, nx⟩
        exact app_ok (X := X.blk sC HC scope ce fp) J7 hL7 short r7 fun s8 J8 => close nx J8
  exact codeAny_compStart_list step (T.self X.A 0 _ _ _ atD step)
end
/-- what the frame sees it sees in the block -/
theorem Begins.sees {X : Cx} {pins : List (Addr × Obj)} {σ : L2.St} {s : Shared} {H : Hp} {fp : List Addr} {S : Stn} {scope : Scope} {ce : PySem.Env} (B : Begins X pins σ s H fp) (k : Sees X S) : Sees (X.blk s H scope ce fp) S := by
  refine ⟨k.now B.inv, fun a v q hb => ?_⟩
  have hb : a ∈ fp := hb
  obtain ⟨_, _, _, z, _⟩ := (B.fp a hb).1
  rcases z with z | z
  · exact k.2 a v q z
  · obtain ⟨o, e, _⟩ := (k.1 a v q).2
    exact absurd (Nat.lt_of_lt_of_le (Heap.lt_size e) z) (Nat.lt_irrefl _)
/-- .. and its own cells -/
theorem Begins.seesUp {X : Cx} {pins : List (Addr × Obj)} {σ : L2.St} {s : Shared} {H : Hp} {fp : List Addr} {S : Stn} {scope : Scope} {ce : PySem.Env} (B : Begins X pins σ s H fp) (k : Sees X S) : Sees (X.blk s H scope ce fp) (sUp X s S) := by
  refine ⟨sUp_ok k B.inv, fun a v q hb => ?_⟩
  rcases q with q | ⟨⟨y, hy⟩, _⟩
  · exact (B.sees (scope := scope) (ce := ce) k).2 a v q hb
  · have hb : a ∈ fp := hb
    obtain ⟨_, _, _, _, z, _⟩ := (B.fp a hb).1
    exact z y a hy rfl
theorem PostN.down {h h' : HasH} {c : Ct} {σ : L2.St} {H : Hp} {W : WX} {o : Out (List D)} {Q : VK} (hs : ∀ p ∈ h.hd, p ∈ h'.hd) (p : @PostN _ _ h c σ H W o Q) : @PostN _ _ h' c σ H W o Q := by
  cases o with
  | ok d m => exact fun a vs c' H' s n M' hv ha r => p a vs c' H' s n (mrel_to M' fun q hq => mrel_held M' q (hs q hq)) hv ha r
  | exn x fs m => exact fun cls dd c' H' s M' r => p cls dd c' H' s (mrel_to M' fun q hq => mrel_held M' q (hs q hq)) r
  | stuck => exact p
/-- [e for t in it if ..], in which calls of values are made: ct what they do -/
def nCompO (mi : SI) (tg : TgD) (mt : (D → FD) → ST') (me : (D → FD) → SE) (vs : List Nat) (ct : (Nat → Option D) → D → FD) : SN := fun ρ μ => nComp mi tg (mt (ct (valAt ρ))) (me (ct (valAt ρ))) vs ρ μ
section
variable [h : HasH] {X : Cx} {W : WX} {elt tg iter : Expr} {ifs : List Expr} {scope : Scope} {own : List (Str × Nat)} {pos : Pos} {mi : SI} {tgd : TgD} {is : List Nat} {mt : (D → FD) → ST'} {me : (D → FD) → SE} {S : Stn} {CT0 : D → FD} {k kc d : Nat} {l : List LamE}
/-- the frame hands on its own lambdas -/
theorem pdn_compO (hS : Sees X S) (hC : CallF X.prog X.w X.K X.mg X.base k S CT0) (O : OwnL X k l) (hd : k + d ≤ kc) (calm : X.calm = true) (nd : X.N.Nodup) (hi : ∀ h' : HasH, @PID _ _ h' X W tg iter mi) (bo : blkC X.N X.env.scope scope own = true)
    (hg : ∀ (s : Shared) (H : Hp) (C : Addr) (cl : List (Str × Addr)) (fp : List Addr), PGD (X.blk s H scope (compEnvC scope cl C X.env) fp) tg tgd is)
    (ht : ∀ (h' : HasH) (S' : Stn) (CT : D → FD) (s : Shared) (H : Hp) (C : Addr) (cl : List (Str × Addr)) (fp : List Addr), CallF X.prog X.w X.K X.mg X.base kc S' CT → Sees (X.blk s H scope (compEnvC scope cl C X.env) fp) S' → PDTs (X.blk s H scope (compEnvC scope cl C X.env) fp) W0 ifs (mt CT))
    (he : ∀ (h' : HasH) (S' : Stn) (CT : D → FD) (s : Shared) (H : Hp) (C : Addr) (cl : List (Str × Addr)) (fp : List Addr), CallF X.prog X.w X.K X.mg X.base kc S' CT → Sees (X.blk s H scope (compEnvC scope cl C X.env) fp) S' → PD (X.blk s H scope (compEnvC scope cl C X.env) fp) W0 false elt (me CT))
    (his : (is.all fun i => decide (i ∈ own.map (·.2))) = true) (nf : ∀ x, foldedSetIterable iter X.env x = pure x := by intro _; rfl) :
    PDN X W (.ListComp elt [⟨tg, iter, ifs, 0⟩] scope pos) (nCompO mi tgd mt me (own.map (·.2)) fun get => ctN X.env.cells l CT0 get d) := by
  refine ⟨fun σ H Q => ∃ c ρ μ, c.K = X.K ∧ Ok c H σ ρ μ ∧ PostN c σ H W (nCompO mi tgd mt me (own.map (·.2)) (fun get => ctN X.env.cells l CT0 get d) ρ μ) Q, ⟨fun pins s σ H Q I ⟨c, ρ, μ, hK, kk, p⟩ => ?_⟩, fun c H σ ρ μ hK kk Q p => ⟨c, ρ, μ, hK, kk, p⟩⟩
  have kk' : @Ok _ _ (hUp h σ ρ) c H σ ρ μ := by
    obtain ⟨e1, e2, e3⟩ := kk
    have g : ∀ p ∈ heldOf σ ρ, Rep c H p.1 p.2 := heldOf_rep ⟨e1, e2, e3⟩
    exact @Ok.mk _ _ (hUp h σ ρ) _ _ _ _ _ e1 (mrel_to (h' := hUp h σ ρ) e2 fun p hp => (List.mem_append.mp (show p ∈ heldOf σ ρ ++ h.hd from hp)).elim (g p) (mrel_held e2 p)) e3
  have p' : @PostN _ _ (hUp h σ ρ) c σ H W (nComp mi tgd (mt (ctN X.env.cells l CT0 (valAt ρ) d)) (me (ctN X.env.cells l CT0 (valAt ρ) d)) (own.map (·.2)) ρ μ) Q := PostN.down (fun p hp => List.mem_append_right _ hp) p
  obtain ⟨wi, i1, i2⟩ := hi (hUp h σ ρ)
  have wish := @sim_comp _ _ (hUp h σ ρ) W mi tgd is (mt (ctN X.env.cells l CT0 (valAt ρ) d)) (me (ctN X.env.cells l CT0 (valAt ρ) d)) X.K wi (own.map (·.2)) i2 (fun i hi => of_decide_eq_true (List.all_eq_true.mp his i hi)) c H σ ρ μ hK kk' Q p'
  refine lc_own calm nd I i1 (blkOk_by bo) (fun s' H' C cl fp B => ?_) nf wish
  have f := @CallF.mono _ _ (hUp h σ ρ) _ _ _ _ _ _ _ _ _ (ctN_ok hC O B.inv (fun j d hj => (kk.e.val j d hj).imp fun _ z => z.1) d) hd
  have see := B.seesUp (scope := scope) (ce := compEnvC scope cl C X.env) hS
  exact ⟨@PGD.of _ _ (hUp h σ ρ) _ _ _ _ (hg s' H' C cl fp), ht (hUp h σ ρ) _ _ s' H' C cl fp f see, @PD.of _ _ (hUp h σ ρ) _ _ _ _ _ (he (hUp h σ ρ) _ _ s' H' C cl fp f see)⟩
end
end DL
/-! # Db6: the end of a law that makes lambdas: tables of code objects -/
namespace DL
open PySem PySem.Spec L2
open PyProof.Rows hiding St
/-- the law's call from the starting heap: ts, the code objects and their empty tables -/
theorem lawT_call {P : Program} {w : World} {K : PySem.W.Frag} {mg mb : Str → Option Value} {CX : CXT} {k : Nat} {fa a : Addr} {ts : List (Addr × Addr)} {fd : FuncData} {x : Str} {sp : Sp} {s₁ : Shared} {vs : List Value} {ns : List Int}
    (kin : K.In s₁.heap) (glob : s₁.heap.Ns mainGlobals mg) (blt : s₁.heap.Ns builtinsNs mb) (boot : ∀ x : Str, x ≠ "__name__" → mb x = bootBuiltins x) (nolim : s₁.heap.NoLimit) (nogens : s₁.gens = #[])
    (empty : ∀ p ∈ ts, s₁.heap.get? p.2 = some { cls := .none, data := .fields #[] }) (out : ∀ p ∈ ts, K.lookup p.2 = none) (code : ∀ p ∈ ts, PySem.W.CodeHd s₁.heap p.1 p.2)
    (bmain : ∃ (bm : Addr) (ob : Obj), mg "__builtins__" = some (.ref bm) ∧ bm ≠ builtinsNs ∧ s₁.heap.get? bm = some ob ∧ ob.cls = .type "module" ∧ ob.dict = some builtinsNs ∧ ob.data = .plain)
    (atA : s₁.heap.get? a = some { cls := .type "list", data := .seq vs.toArray }) (allI : IntsAre vs ns) (short : ns.length ≤ sizeLine) (room : Rm k callerA)
    (F : ∀ base : Heap, K.In base → base.Ns mainGlobals mg → (∀ p ∈ ts, LamX.TabB base mg p.1 p.2) → FnG P w K mg base CX k fa fd [x] sp) (bound : ∀ (s : Shared) (u : Value), BindsTo s fd ⟨[u], []⟩ [(x, u)])
    (hsp : ∀ H : Hp, (∀ p ∈ ts, H p.2 = some (.tbl #[])) → (∀ xs, H a ≠ some (.lst xs)) → SqL K H a (ns.map V.int) → sp [.ref a] H (fun v _ => v = .bl true) fun _ _ _ => False)
    (noexc : ∀ H e s', CX [] H s₁ (fun _ _ _ => False) e s' → False) :
    codeAny (model P w) callerA (.call (.ref fa) ⟨[.ref a], []⟩) (fun r s' => r = .ok (.ret (.bool true)) ∧ OldK s₁.heap s'.heap ∧ s'.os = s₁.os ∧ AllBare s'.gens) s₁ := by
  have rv := vals_ints allI
  have lenV := allI.length
  have isTab : ∀ b, (∃ p ∈ ts, p.2 = b) → s₁.heap.get? b = some { cls := .none, data := .fields #[] } := by
    rintro b ⟨p, hp, rfl⟩
    exact empty p hp
  have notTab : ¬ ∃ p ∈ ts, p.2 = a := by
    intro z
    have q := (isTab a z).symm.trans atA
    have q2 : Data.fields #[] = Data.seq vs.toArray _ := congrArg Obj.data (Option.some.inj q)
    cases q2
  have core : ∀ H : Hp, (∀ p ∈ ts, H p.2 = some (.tbl #[])) → (∀ b, H b = none ∨ (∃ p ∈ ts, p.2 = b) ∨ ∃ o xs, H b = some (.frz o (.lst xs))) → SqL K H a (ns.map V.int) → HOk P w H s₁.heap →
      (∀ b, H b ≠ none → b = a ∨ ∃ p ∈ ts, p.2 = b) → (H a ≠ none → K.lookup a = none) →
      codeAny (model P w) callerA (.call (.ref fa) ⟨[.ref a], []⟩) (fun r s' => r = .ok (.ret (.bool true)) ∧ OldK s₁.heap s'.heap ∧ s'.os = s₁.os ∧ AllBare s'.gens) s₁ := by
    intro H tabs only sq hok where_ notK
    have free : ∀ {b : Addr} {o : Obj}, s₁.heap.get? b = some o → (∀ us n, o.data ≠ .seq us n) → o.data ≠ .fields #[] → H b = none := by
      intro b o e h1 h2
      rcases hq : H b with _ | u
      · rfl
      · rcases where_ b (by rw [hq]; exact nofun) with z | z
        · rw [z, atA] at e
          cases e
          exact absurd rfl (h1 _ _)
        · rw [isTab b z] at e
          cases e
          exact absurd rfl h2
    have nsK : ∀ {b : Addr} {m : Str → Option Value}, s₁.heap.Ns b m → (hidT s₁.heap H).Ns b m := by
      rintro b m ⟨o, es, ep, e, d, r⟩
      refine ⟨o, es, ep, hidT_get e (free e ?_ ?_), d, r⟩
      · intro us n z
        rw [d] at z
        cases z
      · intro z
        rw [d] at z
        cases z
    have kinB : K.In (hidT s₁.heap H) := by
      intro b o e
      refine hidT_get (kin b o e) ?_
      rcases hq : H b with _ | u
      · rfl
      · rcases where_ b (by rw [hq]; exact nofun) with z | ⟨p, hp, z⟩
        · subst z
          rw [notK (by rw [hq]; exact nofun)] at e
          cases e
        · rw [← z, out p hp] at e
          cases e
    obtain ⟨mc, c1, c2⟩ := nolim
    have mod : Mod K mg (hidT s₁.heap H) := ⟨kinB, nsK glob, ⟨mb, nsK blt, boot⟩, mc, nsK c1, c2⟩
    have tb : ∀ p ∈ ts, LamX.TabB (hidT s₁.heap H) mg p.1 p.2 := by
      intro p hp
      have gl : mainGlobals ≠ p.2 := by
        intro z
        obtain ⟨o, es, ep, e, hd, _⟩ := glob
        rw [z, empty p hp] at e
        cases e
        cases hd
      refine ⟨?_, ?_, gl⟩
      · obtain ⟨o, us, file, tf, flags, tg, inF, text, tt, e1, r1, r2, r3, rest⟩ := code p hp
        refine ⟨o, us, file, tf, flags, tg, inF, text, tt, hidT_get e1 (free e1 ?_ ?_), r1, r2, r3, rest⟩
        · intro us n z
          rw [r2] at z
          cases z
        · intro z
          rw [r2] at z
          cases z
          simp at r3
      · obtain ⟨bm, ob, b1, b2, b3, b4, b5, b6⟩ := bmain
        have z1 : bm ≠ mainGlobals := by
          intro z
          obtain ⟨o, es, ep, e, hd, _⟩ := glob
          rw [z, e] at b3
          cases b3
          rw [hd] at b6
          cases b6
        have z2 : bm ≠ p.2 := by
          intro z
          rw [z, empty p hp] at b3
          cases b3
          cases b6
        refine ⟨bm, ob, b1, b2, z1, z2, hidT_get b3 (free b3 ?_ ?_), b4, b5, b6⟩
        · intro us n z
          rw [b6] at z
          cases z
        · intro z
          rw [b6] at z
          cases z
    have e0 : Env0 P w K mg (hidT s₁.heap H) callerA [] s₁ H :=
      ⟨rfl, mod, fun b o e => of_hidT e, Nat.le_of_eq (hidT_size _ _), trivial, fun b hb => absurd (show b ∈ ([] : List Addr) from hb) (by simp), hok, .of_eq nogens⟩
    refine codeAny_mono ((F _ kinB (nsK glob) tb).run callerA [] s₁ H ⟨[.ref a], []⟩ [.ref a] [.ref a] _ _ room e0 (bound s₁ (.ref a)) (.cons rfl .nil) (hsp H tabs (fun xs z => (only a).elim (fun q => by rw [q] at z; cases z) (fun q => q.elim notTab fun ⟨o, xs', q⟩ => by rw [q] at z; cases z)) sq)) ?_
    intro r s' ends
    cases r with
    | error e => exact (noexc H e s' ends).elim
    | ok fl =>
      cases fl with
      | next => exact ends.elim
      | brk => exact ends.elim
      | cont => exact ends.elim
      | ret u =>
        obtain ⟨v, H', os, bare, un, hok', r', q⟩ := ends
        obtain rfl : v = .bl true := q
        obtain rfl : u = Value.bool true := r'
        have stays : ∀ b o, (¬ ∃ p ∈ ts, p.2 = b) → s₁.heap.get? b = some o → s'.heap.get? b = some o := by
          intro b o nb e
          rcases hq : H b with _ | u
          · exact un.keep b o e hq (fun z => absurd (show b ∈ ([] : List Addr) from z) (by simp)) (by simp)
          · rcases only b with z | z | ⟨ob, xs, z⟩
            · rw [hq] at z; cases z
            · exact absurd z nb
            · obtain ⟨e1, _⟩ := hok b _ z
              obtain ⟨e2, _⟩ := hok' b _ (un.frzs b ob _ z)
              rw [e] at e1
              cases e1
              exact e2
        have grown : ∀ p ∈ ts, ∃ more : Array Value, s'.heap.get? p.2 = some { cls := .none, data := .fields more } := by
          intro p hp
          obtain ⟨more, z⟩ := un.tbls p.2 #[] (tabs p hp)
          exact ⟨_, hok' p.2 _ z⟩
        refine ⟨rfl, ⟨?_, ?_⟩, os, bare⟩
        · intro b o e
          by_cases hb : ∃ p ∈ ts, p.2 = b
          · obtain ⟨p, hp, rfl⟩ := hb
            obtain ⟨more, hm⟩ := grown p hp
            rw [empty p hp] at e
            cases e
            exact .inr (.inl ⟨((code p hp).tab (empty p hp)).isCodeTable, rfl, #[], more, rfl, by rw [Array.empty_append]; exact hm⟩)
          · exact .inl (stays b o hb e)
        · intro b o e
          by_cases hb : ∃ p ∈ ts, p.2 = b
          · obtain ⟨p, hp, rfl⟩ := hb
            obtain ⟨more, hm⟩ := grown p hp
            exact ⟨_, hm⟩
          · exact ⟨o, stays b o hb e⟩
  classical
  rcases hk : K.lookup a with _ | o
  · refine core (fun b => if b = a then some (.frz { cls := .type "list", data := .seq vs.toArray } (.lst (ns.map V.int))) else if (∃ p ∈ ts, p.2 = b) then some (.tbl #[]) else none) (fun p hp => ?_) (fun b => ?_) (.inl (.inr ⟨{ cls := .type "list", data := .seq vs.toArray }, if_pos rfl⟩)) (fun b u z => ?_) (fun b z => ?_) fun _ => hk
    · have ne : p.2 ≠ a := fun z => notTab ⟨p, hp, z⟩
      exact (if_neg ne).trans (if_pos ⟨p, hp, rfl⟩)
    · by_cases hb : b = a
      · exact .inr (.inr ⟨_, _, if_pos hb⟩)
      · by_cases ht : ∃ p ∈ ts, p.2 = b
        · exact .inr (.inl ht)
        · exact .inl ((if_neg hb).trans (if_neg ht))
    · by_cases hb : b = a
      · have z' := (if_pos hb).symm.trans z
        cases z'
        subst hb
        exact ⟨atA, by rw [List.length_map]; exact short, vs, _, rv, atA⟩
      · have z1 := (if_neg hb).symm.trans z
        by_cases ht : ∃ p ∈ ts, p.2 = b
        · have z' := (if_pos ht).symm.trans z1
          cases z'
          exact isTab b ht
        · have z' := (if_neg ht).symm.trans z1
          cases z'
    · by_cases hb : b = a
      · exact .inl hb
      · by_cases ht : ∃ p ∈ ts, p.2 = b
        · exact .inr ht
        · exact absurd ((if_neg hb).trans (if_neg ht)) z
  · have e := kin a o hk
    rw [atA] at e
    cases e
    refine core (fun b => if (∃ p ∈ ts, p.2 = b) then some (.tbl #[]) else none) (fun p hp => if_pos ⟨p, hp, rfl⟩) (fun b => ?_) (.inr ⟨_, vs.toArray, _, hk, rfl, rfl, rfl, by rw [List.size_toArray, lenV]; exact short, by simpa using rv⟩) (fun b u z => ?_) (fun b z => ?_) fun z => absurd (if_neg notTab) z
    · by_cases ht : ∃ p ∈ ts, p.2 = b
      · exact .inr (.inl ht)
      · exact .inl (if_neg ht)
    · by_cases ht : ∃ p ∈ ts, p.2 = b
      · have z' := (if_pos ht).symm.trans z
        cases z'
        exact isTab b ht
      · have z' := (if_neg ht).symm.trans z
        cases z'
    · by_cases ht : ∃ p ∈ ts, p.2 = b
      · exact .inr ht
      · exact absurd (if_neg ht) z
theorem walkT_ofE {l : PySem.W.OpenLaw} {n k : Nat} {q : Program} {loose : List Str} {XP : (Str → Option Value) → Heap → Prop} {YP : World → Heap → Prop} {d : DefRec} {x : Str}
    (most : l.most = some n) (short : n ≤ sizeLine) (nodef : d.params.defaults = []) (room : Rm k callerA)
    (F : ∀ (w : World) (mg : Str → Option Value) (fa : Addr) (h : Heap), YP w h → h.Ns mainGlobals mg → mg d.name = some (.ref fa) →
      ∃ (K : PySem.W.Frag) (fd : FuncData) (ts : List (Addr × Addr)) (sp : Sp), K.In h ∧ (∀ p ∈ ts, h.get? p.2 = some { cls := .none, data := .fields #[] }) ∧ (∀ p ∈ ts, K.lookup p.2 = none) ∧ (∀ p ∈ ts, PySem.W.CodeHd h p.1 p.2) ∧ (∀ (s : Shared) (u : Value), BindsTo s fd ⟨[u], []⟩ [(x, u)]) ∧
        (∀ (H : Hp) (a : Addr) (ns : List Int), ns.length ≤ n → (∀ z ∈ ns, Builtin.Int.intBits z ≤ 1048576) → (∀ p ∈ ts, H p.2 = some (.tbl #[])) → (∀ xs, H a ≠ some (.lst xs)) → SqL K H a (ns.map V.int) → sp [.ref a] H (fun v _ => v = .bl true) fun _ _ _ => False) ∧
        ∀ base : Heap, K.In base → base.Ns mainGlobals mg → (∀ p ∈ ts, LamX.TabB base mg p.1 p.2) → FnG l.prog w K mg base (L2.CX l.prog w) k fa fd [x] sp) :
    PySem.W.WalkO q loose XP YP l.row.toRowW d [] (fun f vs => PySem.call f vs) := by
  refine Att.attach_callB most nodef ?_
  intro w s₀ s₁ mg mb fa o pm cd doc a vs ns G Y ho hd hcd hmg hobj hints hlen hbits hg
  obtain ⟨K, fd, ts, sp, kin, he, ho', hc, bound, hsp, hF⟩ := F w mg fa _ Y G.T.g hmg
  refine lawT_call kin G.T.g G.T.b G.T.builtins G.T.nolimit hg he ho' hc G.T.bmain hobj hints (Nat.le_trans hlen short) room hF bound (fun H tabs nl sq => hsp H a ns hlen hbits tabs nl sq) ?_
  rintro H e s' ⟨_, _, _, _, _, _, _, _, _, _, _, _, z⟩
  exact z

/-! ### the Hook with tables -/
def frM (n : Nat) (g : Addr → Option Obj) : PySem.W.Frag := He.frT g (PySem.cStatics :: He.asD g n)
abbrev AlM : Type := AlN × Bool
def obsM (n : Nat) (file : Str) (fa : List He.Fa) (fn : List He.DefD) (er : List ErD) (nm : List Str) (tf : List He.Defn) (ex : PySem.W.Frag → Bool) (g : Addr → Option Obj) : AlM :=
  (obsN file fa fn er nm ex (frM n g), He.tabsB g tf (frM n g) && decide ((tf.map fun p => (He.cT (frM n g) p).2).Nodup))
def valM (fn : List He.DefD) (er : List ErD) : AlM := (valN fn er, true)
structure SaysM (file : Str) (fa : List He.Fa) (fn : List He.DefD) (er : List ErD) (nm : List Str) (tf : List He.Defn) (ex : PySem.W.Frag → Bool) (h : Heap) (K : PySem.W.Frag) : Prop where
  t : SaysN file fa fn er nm ex K
  hd : ∀ p ∈ tf, PySem.W.codeHdIn K (He.cT K p).1 (He.cT K p).2 = true
  out : ∀ p ∈ tf, K.lookup (He.cT K p).2 = none
  empty : ∀ p ∈ tf, h.get? (He.cT K p).2 = some { cls := .none, data := .fields #[] }
  nd : (tf.map fun p => (He.cT K p).2).Nodup
theorem saysM_of {n : Nat} {file : Str} {fa : List He.Fa} {fn : List He.DefD} {er : List ErD} {nm : List Str} {tf : List He.Defn} {ex : PySem.W.Frag → Bool} {h : Heap} (e : obsM n file fa fn er nm tf ex h.get? = valM fn er) : SaysM file fa fn er nm tf ex h (frM n h.get?) := by
  have e1 : obsN file fa fn er nm ex (frM n h.get?) = valN fn er := congrArg (fun z : AlM => z.1) e
  have e2 : (He.tabsB h.get? tf (frM n h.get?) && decide ((tf.map fun p => (He.cT (frM n h.get?) p).2).Nodup)) = true := congrArg (fun z : AlM => z.2) e
  rw [Bool.and_eq_true] at e2
  obtain ⟨e3, e4⟩ := e2
  have each : ∀ p ∈ tf, PySem.W.codeHdIn (frM n h.get?) (He.cT (frM n h.get?) p).1 (He.cT (frM n h.get?) p).2 = true ∧ ∃ o, h.get? (He.cT (frM n h.get?) p).2 = some o ∧ He.emptyTab o = true := by
    intro p hp
    have z := List.all_eq_true.mp e3 p hp
    rw [Bool.and_eq_true] at z
    refine ⟨z.1, ?_⟩
    have z2 := z.2
    cases q : h.get? (He.cT (frM n h.get?) p).2 with
    | none => rw [q] at z2; cases z2
    | some o => rw [q] at z2; exact ⟨o, rfl, z2⟩
  refine ⟨saysN_of e1, fun p hp => (each p hp).1, fun p hp => ?_, fun p hp => ?_, of_decide_eq_true e4⟩
  · obtain ⟨_, o, q, z⟩ := each p hp
    exact He.frT_none q z
  · obtain ⟨_, o, q, z⟩ := each p hp
    rw [q, He.emptyTab_eq z]
def hookM (n : Nat) (file : Str) (fa : List He.Fa) (fn : List He.DefD) (er : List ErD) (nm : List Str) (tf : List He.Defn) (ex : PySem.W.Frag → Bool) : PySem.W.Hook where
  α := AlM
  obs := fun s => obsM n file fa fn er nm tf ex s.heap.get?
  val := fun _ => valM fn er
  says := fun _ h => ∃ K : PySem.W.Frag, K.In h ∧ SaysM file fa fn er nm tf ex h K
  of := fun _ _ e => ⟨_, He.frT_in, saysM_of e⟩
  keeps := fun _ _ _ ⟨K, hK, c⟩ k => ⟨K, PySem.W.Frag.In.keeps hK k, ⟨c.t, c.hd, c.out, fun p hp => k _ _ (c.empty p hp), c.nd⟩⟩
theorem obsM_eq {n : Nat} {file : Str} {fa : List He.Fa} {fn : List He.DefD} {er : List ErD} {nm : List Str} {tf : List He.Defn} {ex : PySem.W.Frag → Bool} {g : Addr → Option Obj} {s : Shared} (h : ∀ a, g a = s.heap.get? a) : obsM n file fa fn er nm tf ex g = (hookM n file fa fn er nm tf ex).obs s := by
  have e : g = s.heap.get? := funext h
  rw [e] <;> rfl
theorem nodup_map_inj {α β : Type} {f : α → β} : ∀ {l : List α}, (l.map f).Nodup → ∀ a ∈ l, ∀ b ∈ l, f a = f b → a = b
  | [], _, a, ha, _, _, _ => by simp at ha
  | c :: l, nd, a, ha, b, hb, e => by
    rw [List.map_cons, List.nodup_cons] at nd
    rcases List.mem_cons.mp ha with e1 | ha'
    · rcases List.mem_cons.mp hb with e2 | hb'
      · rw [e1, e2]
      · exact absurd (show f c ∈ l.map f from List.mem_map.mpr ⟨b, hb', by rw [← e, e1]⟩) nd.1
    · rcases List.mem_cons.mp hb with e2 | hb'
      · exact absurd (show f c ∈ l.map f from List.mem_map.mpr ⟨a, ha', by rw [e, e2]⟩) nd.1
      · exact nodup_map_inj nd.2 a ha' b hb' e
/-- the tables with the names of the lambdas that they tell -/
def tbOf (K : PySem.W.Frag) (tf : List He.Defn) : List (Addr × Str) := tf.map fun p => ((He.cT K p).2, (p.1 ++ ".<locals>.") ++ "<lambda>")
/-- a run with such lambdas -/
abbrev hasX (K : PySem.W.Frag) (tf : List He.Defn) : HasX := ⟨⟨tbOf K tf⟩⟩
section
variable {P : Program} {w : World} {K : PySem.W.Frag} {mg : Str → Option Value} {base : Heap}
theorem lamF_of {tf : List He.Defn} {x : Str} {params : Arguments} {body : List Stmt} {scope : Scope} {dvs : List V} {kws : List (Str × V)} {fd : FuncData} {N : List Str} {cdv : Value} {A : Around} {outer : List PySem.Env} {s : Shared} {H : Hp} {E : XK}
    (F : FunD K x x params body scope dvs kws (He.fAd K (x, none)) fd) (hcd : CodeIs K (He.fAd K (x, none)) cdv) (hp : (x, none) ∈ tf) (nd : (tf.map fun p => (He.cT K p).2).Nodup) (tb : ∀ p ∈ tf, LamX.TabB base mg (He.cT K p).1 (He.cT K p).2) :
    @LamF (hasX K tf) (cxOf (L2.CX P w) P w K mg base N x scope (He.fAd K (x, none)) cdv A outer s H E) := by
  obtain ⟨oc, od, fd2, osl, lk, hc⟩ := hcd
  obtain ⟨oc', od', dV, kV, doc, pm, an, cdv', ct, osl', rfl, atF, inCode, _, _⟩ := F.ex
  rw [lk] at atF
  have e : fd2 = PySem.W.fnOf x x params body scope dV kV doc pm an cdv' ct := by
    cases atF
    rfl
  subst e
  have hc : cdv' = cdv := hc
  subst hc
  obtain ⟨c, rfl⟩ := He.codeIn_ref inCode
  have ec : He.codeOf K (x, none) = c := He.codeOf_eq lk rfl
  have m1 : ((He.cT K (x, none)).2, (x ++ ".<locals>.") ++ "<lambda>") ∈ tbOf K tf := by
    unfold tbOf
    rw [List.mem_map]
    exact ⟨(x, none), hp, by rfl⟩
  have t1 := tb _ hp
  have c1 : Value.ref c = .ref (He.cT K (x, none)).1 := by
    show Value.ref c = .ref (He.codeOf K (x, none))
    rw [ec]
  have u1 : ∀ q ∈ tbOf K tf, q.1 = (He.cT K (x, none)).2 → q.2 = (x ++ ".<locals>.") ++ "<lambda>" := ?_
  · exact @LamF.mk (hasX K tf) _ ⟨_, _, t1, c1, m1, u1⟩
  · rintro ⟨q1, q2⟩ hq e1
    unfold tbOf at hq
    rw [List.mem_map] at hq
    obtain ⟨p', hp', e2⟩ := hq
    rw [Prod.mk.injEq] at e2
    obtain ⟨e3, e4⟩ := e2
    have e1 : q1 = (He.cT K (x, none)).2 := e1
    have inj : p' = (x, none) := by
      exact nodup_map_inj nd p' hp' _ hp (by rw [e3, e1])
    have e5 : q2 = (x ++ ".<locals>.") ++ "<lambda>" := by rw [← e4, inj]
    exact e5
end
/-- the law's promise from the start: the script, empty tables -/
theorem lawT_sp [HasL] {K : PySem.W.Frag} {tf : List He.Defn} {F : FD} {n : Nat} (h : ∀ ns : List Int, ns.length ≤ n → (∀ z ∈ ns, Builtin.Int.intBits z ≤ 1048576) → ∃ m, F [.scr ns] [] = .ok (.bl true) m)
    (H : Hp) (a : Addr) (ns : List Int) (hl : ns.length ≤ n) (hb : ∀ z ∈ ns, Builtin.Int.intBits z ≤ 1048576) (tabs : ∀ p ∈ tf, H (He.cT K p).2 = some (.tbl #[])) (sq : SqL K H a (ns.map V.int)) (nl : ∀ xs, H a ≠ some (.lst xs)) :
    @spOf _ (hasX K tf) ⟨[]⟩ K 1 F [.ref a] H (fun v _ => v = .bl true) fun _ _ _ => False := by
  letI : HasX := hasX K tf
  letI : HasH := ⟨[]⟩
  obtain ⟨m, e⟩ := h ns hl hb
  have r : Rep ⟨K, [], []⟩ H (.ref a) (.scr ns) := by
    rcases sq with (z | ⟨o, z⟩) | z
    · exact absurd z (nl _)
    · exact .scr (by simp) z
    · exact .scrK (.inr z)
  refine ⟨⟨K, [], []⟩, [], [.scr ns], rfl, ⟨rfl, List.nodup_nil, fun n a ds h1 _ => ?_, fun a ha => ?_, fun p hp => ?_, fun p hp => ?_⟩, .cons r .nil, rfl, ?_⟩
  · have h2 : ([] : List Addr)[n]? = some a := h1
    simp at h2
  · have h2 : a ∈ ([] : List Addr) := ha
    simp at h2
  · obtain ⟨p', hp', rfl⟩ := List.mem_map.mp hp
    exact LamX.TabS.nil (tabs p' hp')
  · have h2 : p ∈ ([] : List (V × D)) := hp
    simp at h2
  · rw [e]
    rintro v H' ⟨c', _, _, rv⟩
    cases rv
    rfl
end DL
/-! # Db7: small things for printed texts with lambdas -/
namespace DL
open PySem PySem.Spec L2
open PyProof.Rows hiding St
/-! ### where a lambda stands -/
def eKids : Expr → List Expr
  | .Call f as kws _ => f :: (as ++ kws.map (·.value))
  | .Tuple es _ _ => es
  | .List es _ => es
  | .Compare l _ rs _ => l :: rs
  | .BoolOp _ vs _ => vs
  | .BinOp l _ r _ => [l, r]
  | .UnaryOp _ e _ => [e]
  | .IfExp a b c _ => [a, b, c]
  | .Subscript v s _ => [v, s]
  | .Attribute v _ _ => [v]
  | .ListComp e gs _ _ => e :: gs.flatMap fun g => g.iter :: g.ifs
  | .Lambda _ b _ _ => [b]
  | _ => []
def sKids : Stmt → List Expr
  | .Assign _ v _ => [v]
  | .AugAssign _ _ v _ => [v]
  | .Expr v _ => [v]
  | .Return (some v) _ => [v]
  | .If t _ _ _ => [t]
  | .While t _ _ _ => [t]
  | .For _ i _ _ _ => [i]
  | _ => []
def sSubs : Stmt → List Stmt
  | .If _ a b _ => a ++ b
  | .While _ b o _ => b ++ o
  | .For _ _ b o _ => b ++ o
  | .Try b _ o f _ => b ++ (o ++ f)
  | _ => []
def stmtAt (ss : List Stmt) : List Nat → Stmt
  | [] => .Pass ⟨0, 0, 0, 0⟩
  | [i] => ss.getD i (.Pass ⟨0, 0, 0, 0⟩)
  | i :: r => stmtAt (sSubs (ss.getD i (.Pass ⟨0, 0, 0, 0⟩))) r
def exprAt (es : List Expr) : List Nat → Expr
  | [] => .Constant .none 0 ⟨0, 0, 0, 0⟩
  | [i] => es.getD i (.Constant .none 0 ⟨0, 0, 0, 0⟩)
  | i :: r => exprAt (eKids (es.getD i (.Constant .none 0 ⟨0, 0, 0, 0⟩))) r
def lamOf (q : Str) : Expr → LText
  | .Lambda a b s _ => ⟨a, b, s, q⟩
  | e => ⟨⟨[], [], none, [], [], none, []⟩, e, ⟨.function, [], false, false, []⟩, q⟩
/-- the lambda in the def st, by its statement and its place there -/
def lamIn (st : Stmt) (q : Str) (sp ep : List Nat) : LText := lamOf q (exprAt (sKids (stmtAt (defBody st) sp)) ep)
variable [HasL] [HasX]
theorem takes_lam {P : Program} {w : World} {K : PySem.W.Frag} {mg : Str → Option Value} {base : Heap} {N : List Str} {F : NdefX.NF} {f : Addr} {A : Around} {outer : List PySem.Env} {s : Shared} {H : Hp} {E : XK} : Takes (NdefX.ncx (L2.CX P w) P w K mg base N F f A outer s H E) (WE' E) := takes_of rfl rfl rfl rfl
section
variable [h : HasH] {X : Cx} {W : WX} {elt tg iter : Expr} {ifs : List Expr} {scope : Scope} {own : List (Str × Nat)} {pos : Pos} {mi : SI} {tgd : TgD} {is : List Nat} {mt : ST'} {me : SE} {S : Stn}
/-- a comprehension of a frame that was handed what calls of values do -/
theorem pdn_compL (hS : Sees X S) (calm : X.calm = true) (nd : X.N.Nodup) (hi : PID X W tg iter mi) (bo : blkC X.N X.env.scope scope own = true)
    (hg : ∀ (s : Shared) (H : Hp) (C : Addr) (cl : List (Str × Addr)) (fp : List Addr), PGD (X.blk s H scope (compEnvC scope cl C X.env) fp) tg tgd is)
    (ht : ∀ (s : Shared) (H : Hp) (C : Addr) (cl : List (Str × Addr)) (fp : List Addr), Sees (X.blk s H scope (compEnvC scope cl C X.env) fp) S → PDTs (X.blk s H scope (compEnvC scope cl C X.env) fp) W0 ifs mt)
    (he : ∀ (s : Shared) (H : Hp) (C : Addr) (cl : List (Str × Addr)) (fp : List Addr), Sees (X.blk s H scope (compEnvC scope cl C X.env) fp) S → PD (X.blk s H scope (compEnvC scope cl C X.env) fp) W0 false elt me)
    (his : (is.all fun i => decide (i ∈ own.map (·.2))) = true) (nf : ∀ x, foldedSetIterable iter X.env x = pure x := by intro _; rfl) :
    PDN X W (.ListComp elt [⟨tg, iter, ifs, 0⟩] scope pos) (nComp mi tgd mt me (own.map (·.2))) := by
  obtain ⟨wi, i1, i2⟩ := hi
  refine ⟨_, ⟨fun pins s σ H Q I wish => ?_⟩, sim_comp i2 fun i hi => of_decide_eq_true (List.all_eq_true.mp his i hi)⟩
  refine lc_own calm nd I i1 (blkOk_by bo) (fun s' H' C cl fp B => ?_) nf wish
  have see := B.sees (scope := scope) (ce := compEnvC scope cl C X.env) hS
  exact ⟨PGD.of (hg s' H' C cl fp), ht s' H' C cl fp see, PD.of (he s' H' C cl fp see)⟩
end
section
variable {P : Program} {w : World} {K : PySem.W.Frag} {mg : Str → Option Value} {base : Heap}
/-- the law's def, which makes lambdas -/
theorem lawO_fn {x : Str} {st : Stmt} {N ps : List Str} {k kc : Nat} {m : (D → FD) → List (Str × Addr) → SS} {f : Addr} {fd : FuncData} (F : FunD K x x (defArgs st) (defBody st) (defScope st) [] [] f fd) (S : FnScope N ps (defScope st)) (hNp : ps.length ≤ N.length)
    (hb : ∀ (h : HasH) (S : Stn) (CT : D → FD) (cdv : Value) (A : Around) (outer : List PySem.Env) (s : Shared) (H : Hp) (E : XK), CallF P w K mg base kc S CT → Sees (cxOf (L2.CX P w) P w K mg base N x (defScope st) f cdv A outer s H E) S → CodeIs K f cdv → Rm k (A.deeper (envOfC x (defScope st) s.heap.objs.size f cdv)) →
      PSDs (cxOf (L2.CX P w) P w K mg base N x (defScope st) f cdv A outer s H E) (WE' E) (defBody st) (m CT (envOfC x (defScope st) s.heap.objs.size f cdv).cells)) :
    FnG P w K mg base (L2.CX P w) (k + 1) f fd ps (spOf (h := ⟨[]⟩) K ps.length (mAll fun fc => mFn ps.length N.length (m ct0 fc))) := by
  refine ⟨fun vs H Q E q => ?_, fun A outer s H args us vs Q E hr e0 bd rv sp => ?_⟩
  · obtain ⟨c, μ, ds, _, _, r, e, _⟩ := q
    letI : HasH := ⟨[]⟩
    rw [r.length, e]
  · letI : HasH := ⟨[]⟩
    exact run_data (m := m ct0) F S hNp (fun _ _ => True) (fun cdv A outer s H E hcd hr _ => hb ⟨[]⟩ (fun _ _ => False) ct0 cdv A outer s H E callF0 ⟨fun _ _ z => z.elim, fun _ _ z => z.elim⟩ hcd hr) A outer s H args us vs Q E hr e0 bd rv trivial (spAll_of sp)
end
/-- (for trying a printed text: a def that is not looked at) -/
theorem psds_stuck [HasH] {X : Cx} {W : WX} {ss : List Stmt} : PSDs X W ss (fun _ _ => .stuck) := ⟨fun _ _ _ => False, ⟨fun _ _ _ _ _ _ z => z.elim⟩, fun _ _ _ _ _ _ _ _ _ p => p⟩
end DL
/-! # Dd1: dicts -/
namespace DL
open PySem PySem.Spec L2
open PyProof.Rows hiding St
section
variable {X : Cx} {pins : List (Addr × Obj)} {σ : L2.St} {H : Hp} {s : Shared} {a : Addr}
/-- the empty dict is of both kinds -/
theorem inv_KT (I : Inv X pins σ H s) (e : H a = some (.dK [])) : Inv X pins σ (upd H a (.dT [])) s := by
  obtain ⟨z, hd, vs, rel, o, es, ep, h1, h2, h3, h4⟩ := dk_of I.hok e
  refine d_write (h' := s.heap) (t' := s.toks) I (by rw [e]; trivial) ⟨rfl, fun _ _ => rfl⟩ ⟨o, h1⟩ ?_
  cases rel
  refine ⟨Nat.zero_le _, hd, [], .nil, o, es, ep, h1, h2, h3, ?_, List.nodup_nil⟩
  have h5 := h4.2.1
  generalize es.toList = l at h5
  cases h5
  rfl
theorem inv_TK (I : Inv X pins σ H s) (e : H a = some (.dT [])) : Inv X pins σ (upd H a (.dK [])) s := by
  obtain ⟨z, hd, xs, rel, dd⟩ := dt_of I.hok e
  have dd0 := dd
  obtain ⟨o, es, ep, h1, h2, h3, h4, h5⟩ := dd
  refine d_write (h' := s.heap) (t' := s.toks) I (by rw [e]; trivial) ⟨rfl, fun _ _ => rfl⟩ ⟨o, h1⟩ ?_
  cases rel
  have e0 : es = #[] := by
    apply Array.ext'
    rw [h4]
    rfl
  subst e0
  refine ⟨Nat.zero_le _, hd, [], .nil, o, #[], ep, h1, h2, h3, ?_, .nil, List.nodup_nil⟩
  intro x hx
  simp at hx
/-- what is found at the key y of the dict at a -/
def DFind (H : Hp) (a : Addr) (y : V) (r : Option V) : Prop := DGet H a y r ∨ (r = none ∧ ((H a = some (.dK []) ∧ ∃ (k : List Key) (b : Addr), y = .ref b ∧ H b = some (.tup (k.map kV))) ∨ (H a = some (.dT []) ∧ ∃ k, y = kV k)))
theorem back_same {H : Hp} {a : Addr} {o u : HO} (e : H a = some o) : upd (upd H a u) a o = H := by
  funext b
  by_cases h : b = a
  · subst h
    rw [upd_same, e]
  · rw [upd_ne h, upd_ne h]
theorem find_in {A : Around} {E : Value → Shared → Prop} {y : V} {u : Value} {o : Option V} {Q : Value → Shared → Prop} (hu : A.units + 1 < cLine) (I : Inv X pins σ H s) (g : DFind H a y o) (ry : RelV y u) (h : ∀ s', Inv X pins σ H s' → Q (.bool o.isSome) s') :
    wpAny (model X.prog X.w) A (compareOp .In u (.ref a)) Q E s := by
  rcases g with g | ⟨rfl, ⟨e, k, b, rfl, eb⟩ | ⟨e, k, rfl⟩⟩
  · exact d_in hu I g ry h
  · have nb : b ≠ a := fun z => by rw [z, e] at eb; cases eb
    have g : DGet (upd H a (.dT [])) a (.ref b) none := DGet.t (k := k) upd_same (by rw [upd_ne nb]; exact eb)
    refine d_in hu (inv_KT I e) g ry fun s' I' => h s' ?_
    have := inv_TK I' upd_same
    rw [back_same e] at this
    exact this
  · have g : DGet (upd H a (.dK [])) a (kV k) none := DGet.k (k := k) upd_same
    refine d_in hu (inv_TK I e) g ry fun s' I' => h s' ?_
    have := inv_KT I' upd_same
    rw [back_same e] at this
    exact this
theorem find_notIn {A : Around} {E : Value → Shared → Prop} {y : V} {u : Value} {o : Option V} {Q : Value → Shared → Prop} (hu : A.units + 1 < cLine) (I : Inv X pins σ H s) (g : DFind H a y o) (ry : RelV y u) (h : ∀ s', Inv X pins σ H s' → Q (.bool (!o.isSome)) s') :
    wpAny (model X.prog X.w) A (compareOp .NotIn u (.ref a)) Q E s := by
  rcases g with g | ⟨rfl, ⟨e, k, b, rfl, eb⟩ | ⟨e, k, rfl⟩⟩
  · exact d_notIn hu I g ry h
  · have nb : b ≠ a := fun z => by rw [z, e] at eb; cases eb
    have g : DGet (upd H a (.dT [])) a (.ref b) none := DGet.t (k := k) upd_same (by rw [upd_ne nb]; exact eb)
    refine d_notIn hu (inv_KT I e) g ry fun s' I' => h s' ?_
    have := inv_TK I' upd_same
    rw [back_same e] at this
    exact this
  · have g : DGet (upd H a (.dK [])) a (kV k) none := DGet.k (k := k) upd_same
    refine d_notIn hu (inv_TK I e) g ry fun s' I' => h s' ?_
    have := inv_KT I' upd_same
    rw [back_same e] at this
    exact this
/-- the heap behind a[y] = v -/
def DStore (H : Hp) (a : Addr) (y v : V) (H' : Hp) : Prop := DPut H a y v H' ∨ (H a = some (.dK []) ∧ ∃ (k : List Key) (b : Addr), y = .ref b ∧ H b = some (.tup (k.map kV)) ∧ H' = upd H a (.dT [(k, v)])) ∨ (H a = some (.dT []) ∧ ∃ k, y = kV k ∧ H' = upd H a (.dK [(k, v)]))
theorem store_item {A : Around} {E : Value → Shared → Prop} {y v : V} {u r : Value} {H' : Hp} {Q : Unit → Shared → Prop} (hu : A.units + 1 < cLine) (I : Inv X pins σ H s) (g : DStore H a y v H') (ry : RelV y u) (rv : RelV v r) (h : ∀ s', Inv X pins σ H' s' → Q () s') :
    wpAny (model X.prog X.w) A (setItem (.ref a) u r) Q E s := by
  have line0 : 0 < sizeLine := by show 0 < 16777216; decide
  rcases g with g | ⟨e, k, b, rfl, eb, rfl⟩ | ⟨e, k, rfl, rfl⟩
  · exact d_setItem hu I g ry rv h
  · have nb : b ≠ a := fun z => by rw [z, e] at eb; cases eb
    have g : DPut (upd H a (.dT [])) a (.ref b) v (upd (upd H a (.dT [])) a (.dT (putK [] k v))) := DPut.t (k := k) upd_same (by rw [upd_ne nb]; exact eb) line0
    refine d_setItem hu (inv_KT I e) g ry rv fun s' I' => h s' ?_
    rw [upd_upd] at I'
    exact I'
  · have g : DPut (upd H a (.dK [])) a (kV k) v (upd (upd H a (.dK [])) a (.dK (putK [] k v))) := DPut.k (k := k) upd_same line0
    refine d_setItem hu (inv_TK I e) g ry rv fun s' I' => h s' ?_
    rw [upd_upd] at I'
    exact I'
end
section
variable {X : Cx}
def rIxD : R2 := fun x y H Q => ∃ a v, x = .ref a ∧ DGet H a y (some v) ∧ Q v H
theorem ix_dict (hu : X.A.units + 1 < cLine) : IxR X rIxD := by
  intro value slice pins s σ H x y v u Q I rx ry h hs
  obtain ⟨a, w', rfl, g, q⟩ := h
  obtain rfl : v = Value.ref a := rx
  have hT : s.TypeIs (.ref a) "dict" := dict_typeIs I g
  unfold subscriptTail
  refine wpAny_bind ?_
  rw [getitemInPython_of_ne hT.not_modules]
  refine wpAny_bind (wpAny_specialOf hT PySem.F.slot_dict_getitem.lookup ?_)
  have fin : wpAny (model X.prog X.w) X.A (subscripted slice false (.ref a) u) (fun r s₃ => wpAny (model X.prog X.w) X.A (letTemporaryGo value (.ref a) r >>= fun _ => pure r) (EP X pins σ Q) X.xe s₃) X.xe s := by
    rw [hs]
    refine wpAny_operating (d_getItem hu I g ry fun w2 s3 I3 rw' => ?_)
    exact wpAny_bind (wpAny_letTemporaryGo (wpAny_pure ⟨w', H, I3, rw', q⟩))
  first
    | exact wpAny_pure (wpAny_bind fin)
    | exact wpAny_bind (wpAny_pure (wpAny_bind fin))
    | exact wpAny_bind fin
def rInD (neg : Bool) : R2 := fun y x H Q => ∃ a o, x = .ref a ∧ DFind H a y o ∧ Q (.bl (if neg then !o.isSome else o.isSome)) H
theorem op_inD (hu : X.A.units + 1 < cLine) : OpR X (compareOp .In) (rInD false) := by
  intro pins s σ H y x u v Q I ry rx h
  obtain ⟨a, o, rfl, g, q⟩ := h
  obtain rfl : v = Value.ref a := rx
  exact find_in hu I g ry fun s' I' => ⟨.bl o.isSome, H, I', rfl, q⟩
theorem op_notInD (hu : X.A.units + 1 < cLine) : OpR X (compareOp .NotIn) (rInD true) := by
  intro pins s σ H y x u v Q I ry rx h
  obtain ⟨a, o, rfl, g, q⟩ := h
  obtain rfl : v = Value.ref a := rx
  exact find_notIn hu I g ry fun s' I' => ⟨.bl (!o.isSome), H, I', rfl, q⟩
end
variable [HasL] [HasX] [HasH]
/-! ### keys as data -/
theorem key_rep {b : Bool} {c : Ct} {H : Hp} {v : V} {d : D} {k : Key} (r : RepF b c H v d) (e : d.key = some k) : v = kV k := by
  cases d with
  | int i => cases e; exact rep_int r
  | str x => cases e; exact rep_str r
  | _ => cases e
theorem keys_rep {c : Ct} {H : Hp} : ∀ {vs : List V} {ds : List D} {ks : List Key}, Reps c H vs ds → keysOf ds = some ks → vs = ks.map kV
  | _, _, _, .nil, e => by cases e; rfl
  | _, _, _, .cons (d := d) (ds := ds) r t, e => by
    unfold keysOf at e
    cases e1 : d.key with
    | none => rw [e1] at e; cases e
    | some k =>
      rw [e1] at e
      cases e2 : keysOf ds with
      | none => rw [e2] at e; cases e
      | some ks =>
        rw [e2] at e
        cases e
        rw [key_rep (b := false) r.f e1, keys_rep t e2]
        rfl
theorem keyT_rep {b : Bool} {c : Ct} {H : Hp} {v : V} {d : D} {k : List Key} (r : RepF b c H v d) (e : d.keyT = some k) : ∃ a, v = .ref a ∧ H a = some (.tup (k.map kV)) := by
  cases d with
  | tup l =>
    obtain ⟨a, vs, h1, h2, h3, h4⟩ := rep_tup r
    rw [keys_rep h4 e] at h3
    exact ⟨a, h1, h3⟩
  | _ => cases e
def kEq (a b : D) : Bool := match a.key, b.key with
  | some x, some y => decide (x = y)
  | none, none => (match a.keyT, b.keyT with
    | some x, some y => decide (x = y)
    | _, _ => false)
  | _, _ => false
/-- all keys are of one kind -/
def dOk (ks : List D) (k : D) : Bool := (k.key.isSome && ks.all fun d => d.key.isSome) || (k.keyT.isSome && ks.all fun d => d.keyT.isSome)
def dLook : List D → List D → D → Option D
  | k' :: ks, v :: vs, k => if kEq k' k = true then some v else dLook ks vs k
  | _, _, _ => none
def dRepl : List D → List D → D → D → List D
  | k' :: ks, w :: vs, k, v => (if kEq k' k = true then v else w) :: dRepl ks vs k v
  | _, vs, _, _ => vs
def dPutK (ks vs : List D) (k : D) : List D := if (dLook ks vs k).isSome = true then ks else ks ++ [k]
def dPutV (ks vs : List D) (k v : D) : List D := if (dLook ks vs k).isSome = true then dRepl ks vs k v else vs ++ [v]
omit [HasL] [HasX] [HasH] in
theorem key_keyT {d : D} {k : Key} (h : d.key = some k) : d.keyT = none := by
  cases d <;> first | rfl | cases h
omit [HasL] [HasX] [HasH] in
theorem keyT_key {d : D} {k : List Key} (h : d.keyT = some k) : d.key = none := by
  cases d <;> first | rfl | cases h
def RelOD (c : Ct) (H : Hp) : Option V → Option D → Prop
  | some v, some d => Rep c H v d
  | none, none => True
  | _, _ => False
section
variable {κ : Type} [DecidableEq κ] {kf : D → Option κ} (heq : ∀ a b x y, kf a = some x → kf b = some y → kEq a b = decide (x = y))
include heq
theorem look_rel {c : Ct} {H : Hp} {k : D} {x : κ} (hk : kf k = some x) : ∀ {kvs : List (κ × V)} {ks vs : List D}, ks.map kf = kvs.map (fun p => some p.1) → Reps c H (kvs.map fun p => p.2) vs → RelOD c H (valV kvs x) (dLook ks vs k)
  | [], ks, vs, e, r => by
    cases ks with
    | nil => exact trivial
    | cons _ _ => cases e
  | p :: kvs, [], vs, e, r => by cases e
  | p :: kvs, k' :: ks, vs, e, r => by
    rw [List.map_cons, List.map_cons] at e
    injection e with e1 e2
    rw [List.map_cons] at r
    cases r with
    | cons r1 r2 =>
      rename_i d ds
      unfold dLook
      rw [heq k' k _ _ e1 hk]
      by_cases h : p.1 = x
      · rw [valV_pos h, if_pos (decide_eq_true h)]
        exact r1
      · rw [valV_neg h, if_neg (by simpa using h)]
        exact look_rel hk e2 r2
theorem put_rel {c : Ct} {H : Hp} {k v : D} {x : κ} {w : V} (hk : kf k = some x) (rw_ : Rep c H w v) {kvs : List (κ × V)} {ks vs : List D} (e : ks.map kf = kvs.map (fun p => some p.1)) (r : Reps c H (kvs.map fun p => p.2) vs) :
    (dPutK ks vs k).map kf = (putK kvs x w).map (fun p => some p.1) ∧ Reps c H ((putK kvs x w).map fun p => p.2) (dPutV ks vs k v) := by
  have any := valV_any x kvs
  have rel := look_rel heq hk e r
  unfold dPutK dPutV putK
  rw [any]
  cases h1 : valV kvs x with
  | none =>
    rw [h1] at rel
    cases h2 : dLook ks vs k with
    | some d => rw [h2] at rel; exact rel.elim
    | none =>
      rw [if_neg (by simp), if_neg (by simp), if_neg (by simp)]
      refine ⟨?_, ?_⟩
      · rw [List.map_append, List.map_append, e]
        simp [hk]
      · rw [List.map_append]
        exact r.append (.cons rw_ .nil)
  | some v' =>
    rw [h1] at rel
    cases h2 : dLook ks vs k with
    | none => rw [h2] at rel; exact rel.elim
    | some d =>
      rw [if_pos (by simp), if_pos (by simp), if_pos (by simp)]
      refine ⟨?_, ?_⟩
      · rw [e, List.map_map]
        apply List.map_congr_left
        intro p _
        show _ = some (if p.1 = x then (p.1, w) else p).1
        split <;> rfl
      · clear any rel h1 h2 d v'
        induction kvs generalizing ks vs with
        | nil =>
          cases ks with
          | cons _ _ => cases e
          | nil =>
            cases r
            exact .nil
        | cons p kvs ih =>
          cases ks with
          | nil => cases e
          | cons k' ks =>
            rw [List.map_cons, List.map_cons] at e
            injection e with e1 e2
            rw [List.map_cons] at r
            cases r with
            | cons r1 r2 =>
              rename_i d ds
              unfold dRepl
              rw [heq k' k _ _ e1 hk]
              by_cases h : p.1 = x
              · rw [if_pos (decide_eq_true h)]
                simp only [List.map_cons, if_pos h]
                exact .cons rw_ (ih e2 r2)
              · rw [if_neg (by simpa using h)]
                simp only [List.map_cons, if_neg h]
                exact .cons r1 (ih e2 r2)
end
omit [HasL] [HasX] [HasH] in
theorem kEq_key (a b : D) (x y : Key) (h1 : a.key = some x) (h2 : b.key = some y) : kEq a b = decide (x = y) := by
  unfold kEq
  rw [h1, h2]
omit [HasL] [HasX] [HasH] in
theorem kEq_keyT (a b : D) (x y : List Key) (h1 : a.keyT = some x) (h2 : b.keyT = some y) : kEq a b = decide (x = y) := by
  unfold kEq
  rw [keyT_key h1, keyT_key h2, h1, h2]
/-- a dict as it stands -/
theorem rep_dct {b : Bool} {c : Ct} {H : Hp} {v : V} {ks vs : List D} (r : RepF b c H v (.dct ks vs)) : ∃ a, v = .ref a ∧ DcAt c H a ks vs := by
  rcases r with r | ⟨_, ⟨a, vs', ds', h1, h2, _⟩ | ⟨a, ks', vs', h1, h2, _, _, h5⟩⟩
  · cases r with
    | dK h1 h2 h3 h4 h5 => exact ⟨_, rfl, .inl ⟨_, h3, h4, h5⟩⟩
    | dT h1 h2 h3 h4 h5 => exact ⟨_, rfl, .inr ⟨_, h3, h4, h5⟩⟩
  · cases h2
  · cases h2
    exact ⟨a, h1, h5⟩
theorem all_key {κ : Type} {kf kg : D → Option κ} {l : List D} {κ' : Type} {kvs : List (κ' × V)} {kh : D → Option κ'} (h : l.map kh = kvs.map (fun p => some p.1)) (n : ∀ d ∈ l, kh d = none) : kvs = [] := by
  cases kvs with
  | nil => rfl
  | cons p r =>
    cases l with
    | nil => cases h
    | cons d l =>
      rw [List.map_cons, List.map_cons] at h
      injection h with h1 h2
      rw [n d List.mem_cons_self] at h1
      cases h1
/-- looking up -/
theorem find_rel {b : Bool} {c : Ct} {H : Hp} {a : Addr} {ks vs : List D} {k : D} {y : V} (dc : DcAt c H a ks vs) (rk : RepF b c H y k) (ok : dOk ks k = true) : ∃ r, DFind H a y r ∧ RelOD c H r (dLook ks vs k) ∧ (∀ v, r = some v → DGet H a y (some v)) := by
  unfold dOk at ok
  rw [Bool.or_eq_true, Bool.and_eq_true, Bool.and_eq_true] at ok
  rcases ok with ⟨h1, h2⟩ | ⟨h1, h2⟩
  · obtain ⟨x, hx⟩ := Option.isSome_iff_exists.mp h1
    have ey := key_rep rk hx
    subst ey
    rcases dc with ⟨kvs, e, q, r⟩ | ⟨kvs, e, q, r⟩
    · refine ⟨valV kvs x, .inl (DGet.k e), look_rel kEq_key hx q r, fun v hv => ?_⟩
      rw [← hv]
      exact DGet.k e
    · have e0 : kvs = [] := all_key (kf := D.key) (kg := D.key) q fun d hd => by
        obtain ⟨z, hz⟩ := Option.isSome_iff_exists.mp (List.all_eq_true.mp h2 d hd)
        exact key_keyT hz
      subst e0
      cases ks with
      | cons _ _ => cases q
      | nil => exact ⟨none, .inr ⟨rfl, .inr ⟨e, x, rfl⟩⟩, trivial, fun v hv => by cases hv⟩
  · obtain ⟨x, hx⟩ := Option.isSome_iff_exists.mp h1
    obtain ⟨bb, rfl, hb⟩ := keyT_rep rk hx
    rcases dc with ⟨kvs, e, q, r⟩ | ⟨kvs, e, q, r⟩
    · have e0 : kvs = [] := all_key (kf := D.key) (kg := D.key) q fun d hd => by
        obtain ⟨z, hz⟩ := Option.isSome_iff_exists.mp (List.all_eq_true.mp h2 d hd)
        exact keyT_key hz
      subst e0
      cases ks with
      | cons _ _ => cases q
      | nil => exact ⟨none, .inr ⟨rfl, .inl ⟨e, x, bb, rfl, hb⟩⟩, trivial, fun v hv => by cases hv⟩
    · refine ⟨valV kvs x, .inl (DGet.t e hb), look_rel kEq_keyT hx q r, fun v hv => ?_⟩
      rw [← hv]
      exact DGet.t e hb
/-- storing -/
theorem store_rel {b : Bool} {c : Ct} {H : Hp} {a : Addr} {ks vs : List D} {k v : D} {y w : V} (hb : a ∈ c.br) (dc : DcAt c H a ks vs) (rk : RepF b c H y k) (rv : Rep c H w v) (ok : dOk ks k = true) (hl : ks.length < 16777216) :
    ∃ u, DStore H a y w (upd H a u) ∧ DcAt c (upd H a u) a (dPutK ks vs k) (dPutV ks vs k v) := by
  have own : ∃ u, H a = some u ∧ isOwnO u := OAt.there (o := .dic ks vs) dc
  unfold dOk at ok
  rw [Bool.or_eq_true, Bool.and_eq_true, Bool.and_eq_true] at ok
  rcases ok with ⟨h1, h2⟩ | ⟨h1, h2⟩
  · obtain ⟨x, hx⟩ := Option.isSome_iff_exists.mp h1
    have ey := key_rep rk hx
    subst ey
    rcases dc with ⟨kvs, e, q, r⟩ | ⟨kvs, e, q, r⟩
    · obtain ⟨p1, p2⟩ := put_rel kEq_key hx rv q r
      have hl2 : kvs.length < sizeLine := by
        have := congrArg List.length q
        rw [List.length_map, List.length_map] at this
        rw [← this, sizeLine_eq]
        exact hl
      exact ⟨.dK (putK kvs x w), .inl (DPut.k e hl2), .inl ⟨_, upd_same, p1, p2.other hb own⟩⟩
    · have e0 : kvs = [] := all_key (kf := D.key) (kg := D.key) q fun d hd => by
        obtain ⟨z, hz⟩ := Option.isSome_iff_exists.mp (List.all_eq_true.mp h2 d hd)
        exact key_keyT hz
      subst e0
      cases ks with
      | cons _ _ => cases q
      | nil =>
        cases r
        exact ⟨.dK [(x, w)], .inr (.inr ⟨e, x, rfl, rfl⟩), .inl ⟨[(x, w)], upd_same, by simp [dPutK, dLook, hx], (Reps.cons rv .nil).other hb own⟩⟩
  · obtain ⟨x, hx⟩ := Option.isSome_iff_exists.mp h1
    obtain ⟨bb, rfl, hbb⟩ := keyT_rep rk hx
    rcases dc with ⟨kvs, e, q, r⟩ | ⟨kvs, e, q, r⟩
    · have e0 : kvs = [] := all_key (kf := D.key) (kg := D.key) q fun d hd => by
        obtain ⟨z, hz⟩ := Option.isSome_iff_exists.mp (List.all_eq_true.mp h2 d hd)
        exact keyT_key hz
      subst e0
      cases ks with
      | cons _ _ => cases q
      | nil =>
        cases r
        exact ⟨.dT [(x, w)], .inr (.inl ⟨e, x, bb, rfl, hbb, rfl⟩), .inr ⟨[(x, w)], upd_same, by simp [dPutK, dLook, hx], (Reps.cons rv .nil).other hb own⟩⟩
    · obtain ⟨p1, p2⟩ := put_rel kEq_keyT hx rv q r
      have hl2 : kvs.length < sizeLine := by
        have := congrArg List.length q
        rw [List.length_map, List.length_map] at this
        rw [← this, sizeLine_eq]
        exact hl
      exact ⟨.dT (putK kvs x w), .inl (DPut.t e hbb hl2), .inr ⟨_, upd_same, p1, p2.other hb own⟩⟩
end DL
/-! # Dd2: rules for dicts -/
namespace DL
open PySem PySem.Spec L2
open PyProof.Rows hiding St
variable [HasL] [HasX] [HasH]
section
variable {K : PySem.W.Frag} {W : WX} {b : Bool}
/-- s[k]: a dict, a list, a tuple -/
def fIx2 (d e : D) (m : Mu) : Out D := match d with
  | .dct ks vs => if dOk ks e = true then (match dLook ks vs e with
    | some x => .ok x m
    | none => .stuck) else .stuck
  | d => fIx d e m
theorem rel_ix2 : RelO K W b (fun x y H Q => rIxA K x y H Q ∨ rIxD x y H Q) fIx2 := by
  intro c H σ μ v w d e hK M rv rw_ Q p
  cases d with
  | dct ks vs =>
    right
    obtain ⟨a, rfl, dc⟩ := rep_dct rv
    have p : Post false c σ H W (if dOk ks e = true then (match dLook ks vs e with | some x => .ok x μ | none => .stuck) else .stuck) Q := p
    by_cases ok : dOk ks e = true
    · rw [if_pos ok] at p
      obtain ⟨r, g, rel, get⟩ := find_rel dc rw_ ok
      cases hl : dLook ks vs e with
      | none => rw [hl] at p; exact p.elim
      | some x =>
        rw [hl] at p rel
        cases r with
        | none => exact rel.elim
        | some y => exact ⟨a, y, rfl, get y rfl, post_val M rel p⟩
    · rw [if_neg ok] at p
      exact p.elim
  | _ => exact .inl (rel_ix c H σ μ v w _ e hK M rv rw_ Q p)
/-- k in s -/
def fIn2 (neg : Bool) (d e : D) (m : Mu) : Out D := match e with
  | .dct ks vs => if dOk ks d = true then .ok (.bl (if neg then !(dLook ks vs d).isSome else (dLook ks vs d).isSome)) m else .stuck
  | e => fInG neg d e m
theorem rel_in2 (neg : Bool) : RelO K W b (fun x y H Q => rInA K neg x y H Q ∨ rInD neg x y H Q) (fIn2 neg) := by
  intro c H σ μ v w d e hK M rv rw_ Q p
  cases e with
  | dct ks vs =>
    right
    obtain ⟨a, rfl, dc⟩ := rep_dct rw_
    have p : Post false c σ H W (if dOk ks d = true then .ok (.bl (if neg then !(dLook ks vs d).isSome else (dLook ks vs d).isSome)) μ else .stuck) Q := p
    by_cases ok : dOk ks d = true
    · rw [if_pos ok] at p
      obtain ⟨r, g, rel, get⟩ := find_rel dc rv ok
      have e : r.isSome = (dLook ks vs d).isSome := by
        cases r <;> cases hl : dLook ks vs d <;> rw [hl] at rel <;> first | rfl | exact rel.elim
      rw [← e] at p
      exact ⟨a, r, rfl, g, post_bl M p⟩
    · rw [if_neg ok] at p
      exact p.elim
  | _ => exact .inl (rel_in neg c H σ μ v w d _ hK M rv rw_ Q p)
/-- len(s) -/
def fLen2 : List D → Mu → Out D
  | [.dct ks vs], m => if line ks.length = true then .ok (.int ks.length) m else .stuck
  | ds, m => fLen ds m
def rLenD : List V → Hp → VK → Prop := fun xs H Q => ∃ (p : Addr) (kvs : List (Key × V)), xs = [.ref p] ∧ H p = some (.dK kvs) ∧ Q (.int ((kvs.length : Nat) : Int)) H
theorem call_len_dK {X : Cx} : CallR X (.builtin "len") rLenD := by
  intro pins s σ H xs us Q I r h
  obtain ⟨p, kvs, rfl, hp, q⟩ := h
  obtain ⟨u, rfl, rx⟩ := vals1 r
  obtain rfl : u = .ref p := rx
  exact d_len I (.inl hp) fun t s' I' => ⟨.int ((kvs.length : Nat) : Int), H, I', ⟨_, rfl⟩, q⟩
theorem rel_len2 : RelL K W b (fun xs H Q => (rLenD xs H Q ∨ rLenT xs H Q) ∨ rLenA K xs H Q) fLen2 := by
  intro c H σ μ vs ds hK M r Q p
  have old : Post false c σ H W (fLen ds μ) Q → (rLenD vs H Q ∨ rLenT vs H Q) ∨ rLenA K vs H Q := fun q => .inr (rel_len c H σ μ vs ds hK M r Q q)
  cases ds with
  | nil => exact old p
  | cons d t =>
    cases t with
    | cons _ _ => cases d <;> exact old p
    | nil =>
      cases d with
      | dct ks ws =>
        have p : Post false c σ H W (if line ks.length = true then .ok (.int ks.length) μ else .stuck) Q := p
        by_cases hl : line ks.length = true
        · rw [if_pos hl] at p
          obtain ⟨v, rfl, rv⟩ := repsF_one r
          obtain ⟨a, rfl, dc⟩ := rep_dct rv
          rcases dc with ⟨kvs, e, q, _⟩ | ⟨kvs, e, q, _⟩
          · have hq := congrArg List.length q
            rw [List.length_map, List.length_map] at hq
            rw [hq] at p
            exact .inl (.inl ⟨a, kvs, rfl, e, post_int M p⟩)
          · have hq := congrArg List.length q
            rw [List.length_map, List.length_map] at hq
            rw [hq] at p
            exact .inl (.inr ⟨a, kvs, rfl, e, post_int M p⟩)
        · rw [if_neg hl] at p
          exact p.elim
      | _ => exact old p
end
theorem u1 {k : Nat} {A : Around} (h : Rm k A) : A.units + 1 < cLine := by
  have := u65 h
  omega
section
variable {X : Cx} {W : WX} {b b' : Bool} {e f : Expr} {es : List Expr} {ma mb : SE} {mr : SA} {p pos : Pos} {k : Nat}
theorem pd_ix2 (hr : Rm k X.A) (ha : PD X W true e ma) (hb : PD X W true f mb) (hs : PlainIx f := by exact fun _ _ => rfl) : PD X W b (.Subscript e f pos) (mOp fIx2 ma mb) := by
  obtain ⟨t, h1, h2⟩ := ha
  obtain ⟨u, h3, h4⟩ := hb
  exact ⟨_, pe_ix (ix_A.or (ix_dict (u1 hr))) h1 h3 hs, sim_op rel_ix2 h2 h4⟩
theorem pd_in2 (hr : Rm k X.A) (ha : PD X W true e ma) (hb : PD X W true f mb) (hm : behindInMarks .In f = false := by rfl) : PD X W b (.Compare e [.In] [f] pos) (mOp (fIn2 false) ma mb) := pd_cmp ((op_inA (u65 hr)).or (op_inD (u1 hr))) (rel_in2 false) ha hb hm
theorem pd_notIn2 (hr : Rm k X.A) (ha : PD X W true e ma) (hb : PD X W true f mb) (hm : behindInMarks .NotIn f = false := by rfl) : PD X W b (.Compare e [.NotIn] [f] pos) (mOp (fIn2 true) ma mb) := pd_cmp ((op_notInA (u65 hr)).or (op_notInD (u1 hr))) (rel_in2 true) ha hb hm
theorem pdt_in2 (hr : Rm k X.A) (ha : PD X W true e ma) (hb : PD X W true f mb) (hm : behindInMarks .In f = false := by rfl) : PDT X W (.Compare e [.In] [f] pos) (mTest (mOp (fIn2 false) ma mb)) := pdt_cmp ((op_inA (u65 hr)).or (op_inD (u1 hr))) (rel_in2 false) ha hb hm
theorem pdt_notIn2 (hr : Rm k X.A) (ha : PD X W true e ma) (hb : PD X W true f mb) (hm : behindInMarks .NotIn f = false := by rfl) : PDT X W (.Compare e [.NotIn] [f] pos) (mTest (mOp (fIn2 true) ma mb)) := pdt_cmp ((op_notInA (u65 hr)).or (op_notInD (u1 hr))) (rel_in2 true) ha hb hm
theorem pd_len2 (hm : X.mg "len" = none) (ha : PDA X W true (e :: es) mr) (hg : Gl X "len" := by rfl) (he : starEach (e :: es) X.env = (false, eval e X.env) :: starEach es X.env := by rfl) (hpl : (backTo pos (starEach es X.env)).any (·.1) = false := by rfl) :
    PD X W b (.Call (.Name "len" p) (e :: es) [] pos) (mApp fLen2 mr) := pd_callB ((call_len_dK.or call_len_dT).or call_lenA) rel_len2 hm rfl ha hg (by decide) (by decide) he hpl
/-! ### the frame's own dict -/
/-- x = {} -/
def sDicN (i : Nat) : SS := fun ρ μ => .nx (ρ.set i (some (.own (.dic [] [])))) μ
theorem psd_dicN {i : Nat} {x : Str} {pos' : Pos} (hN : X.N.Nodup) (hi : X.N[i]? = some x := by rfl) (hx : Loc X.env.scope x := by first | exact Or.inl rfl | exact Or.inr rfl) (hs : swapsWith (.Dict [] [] p) (some (.Name x pos')) pos.line X.env = pure false := by rfl)
    (hf : X.fn x = true ∨ X.env.scope.names.lookup x = some .local := by first | exact .inl rfl | exact .inr rfl | assumption) : PSD X W (.Assign [.Name x pos'] (.Dict [] [] p) pos) (sDicN i) := by
  refine ⟨_, ps_set hN hi hx pe_dnewK hs hf, fun B c H σ ρ μ hK fr D q => ?_⟩
  intro a ha
  have st : Stp c c H (upd H a (.dK [])) := Stp.same (same_upd ha)
  have M' : MRel ⟨c.K, c.cs, a :: c.br⟩ (upd H a (.dK [])) μ := by
    refine ⟨fr.ok.m.len, fr.ok.m.nd, fun n y es e1 e2 => ?_, fun y hy => ?_, (show LamX.Tabs HasX.x.tb (upd H a (.dK [])) from tabs_step st fr.ok.m.tabs), fun q hq => (fr.ok.m.held q hq).more st ha⟩
    · obtain ⟨h1, ws, h2, h3⟩ := fr.ok.m.at_ n y es e1 e2
      refine ⟨fun z => ?_, ws, same_upd ha y _ h2, h3.more st ha⟩
      rcases List.mem_cons.mp z with z | z
      · rw [z, ha] at h2
        cases h2
      · exact h1 z
    · rcases List.mem_cons.mp hy with z | z
      · exact ⟨_, by rw [z]; exact upd_same⟩
      · obtain ⟨o, ho⟩ := fr.ok.m.br y z
        exact ⟨o, same_upd ha y _ ho⟩
  exact q _ _ _ (fr.setOwn (o := .dic [] []) st ha M' (fresh_cs fr.ok.m ha) (.inl ⟨[], upd_same, rfl, .nil⟩))
def dicAt (ρ : Env) (i : Nat) : Option (List D × List D) := match ρ[i]? with
  | some (some (.own (.dic ks vs))) => some (ks, vs)
  | _ => none
theorem dicAt_ok {ρ : Env} {i : Nat} {ks vs : List D} (h : dicAt ρ i = some (ks, vs)) : ρ[i]? = some (some (.own (.dic ks vs))) := by
  unfold dicAt at h
  split at h
  · rename_i e
    cases h
    exact e
  · cases h
/-- x[k] = e -/
def sDicPut (i : Nat) (mk mv : SE) : SS := fun ρ μ => match dicAt ρ i with
  | some (ks, vs) => (mv ρ μ).go ρ fun v μ1 => (mk ρ μ1).go ρ fun k μ2 => if dOk ks k = true ∧ ks.length < 16777216 then .nx (ρ.set i (some (.own (.dic (dPutK ks vs k) (dPutV ks vs k v))))) μ2 else .stuck
  | none => .stuck
theorem psd_dicPut {i : Nat} {x : Str} {p1 p2 : Pos} {g : Expr} {mk mv : SE} (hr : Rm k X.A) (hv : PD X W false e mv) (hk : PD X W true g mk) (hi : X.N[i]? = some x := by rfl) (hvis : Vis X.env.scope x := by first | exact Or.inl rfl | exact Or.inr (Or.inl rfl) | exact Or.inr (Or.inr rfl))
    (hd : (x == ("__debug__" : Str)) = false := by decide) (hcd : (x == ("__classdict__" : Str)) = false := by decide) (hs : swapsWith e (some (.Subscript (.Name x p1) g p2)) pos.line X.env = pure false := by rfl) :
    PSD X W (.Assign [.Subscript (.Name x p1) g p2] e pos) (sDicPut i mk mv) := by
  obtain ⟨tv, v1, v2⟩ := hv
  obtain ⟨tk, k1, k2⟩ := hk
  refine ⟨fun D σ H => ∃ B c ρ μ, c.K = X.K ∧ FrR B c H σ ρ μ ∧ PostS B W (sDicPut i mk mv ρ μ) D, ⟨fun pins s σ H D I w => ?_⟩, fun B c H σ ρ μ hK fr D q => ⟨B, c, ρ, μ, hK, fr, q⟩⟩
  obtain ⟨B, c, ρ, μ, hK, fr, q⟩ := w
  unfold sDicPut at q
  cases eo : dicAt ρ i with
  | none => rw [eo] at q; exact q.elim
  | some kv =>
    obtain ⟨ks, vs⟩ := kv
    rw [eo] at q
    have hi' := dicAt_ok eo
    obtain ⟨a, ha, hb, hc, dc⟩ := fr.ok.e.own i _ hi'
    refine wpAny_Assign_Subscript (thn (v1.run pins s σ H (fun w H1 => ∃ c1 d m, Stp c c1 H H1 ∧ FrR B c1 H1 σ ρ m ∧ Rep c1 H1 w d ∧ PostS B W ((mk ρ m).go ρ fun k μ2 => if dOk ks k = true ∧ ks.length < 16777216 then .nx (ρ.set i (some (.own (.dic (dPutK ks vs k) (dPutV ks vs k d))))) μ2 else .stuck) D) I (v2 c H σ ρ μ hK fr.ok _ (fr.go q fun d m v c1 H1 s1 f1 r1 q1 => ⟨c1, d, m, s1, f1, r1.rep, q1⟩))) ?_) hs
    rintro r s1 ⟨w, H1, I1, rv, c1, d, m, st1, f1, rw_, q1⟩
    have hK1 : c1.K = X.K := st1.K.trans hK
    refine thn ((pe_var (pos := p1) (i := i) hi hvis hd hcd).run pins s1 σ H1 (fun u H2 => u = .ref a ∧ H2 = H1) I1 ⟨_, ha, rfl, rfl⟩) ?_
    rintro u s2 ⟨x', H2, I2, rx, rfl, rfl⟩
    obtain rfl : u = Value.ref a := rx
    refine thn (k1.run pins s2 σ H2 (fun y H3 => ∃ c2 kd m2, Stp c1 c2 H2 H3 ∧ FrR B c2 H3 σ ρ m2 ∧ RepF true c2 H3 y kd ∧ PostS B W (if dOk ks kd = true ∧ ks.length < 16777216 then .nx (ρ.set i (some (.own (.dic (dPutK ks vs kd) (dPutV ks vs kd d))))) m2 else .stuck) D) I2 (k2 c1 H2 σ ρ m hK1 f1.ok _ (f1.go q1 fun kd m2 y c2 H3 s2 f2 r2 q2 => ⟨c2, kd, m2, s2, f2, r2, q2⟩))) ?_
    rintro iv s3 ⟨y, H3, I3, ry, c2, kd, m2, st2, f2, rk, q2⟩
    by_cases ok : dOk ks kd = true ∧ ks.length < 16777216
    · rw [if_pos ok] at q2
      obtain ⟨a', ha', hb', hc', dc'⟩ := f2.ok.e.own i _ hi'
      rw [ha] at ha'
      cases ha'
      obtain ⟨u', sto, dc2⟩ := store_rel (v := d) (w := w) hb' dc' rk (rw_.step st2) ok.1 ok.2
      refine store_item (u1 hr) I3 sto ry rv fun s4 I4 => ?_
      exact ⟨σ, _, I4, q2 c2 _ σ (f2.putOwn (u := u') (ds := .dic _ _) hi' ha hb' hc' (OAt.there (o := .dic ks vs) dc') dc2)⟩
    · rw [if_neg ok] at q2
      exact q2.elim
end
end DL
/-! # Dd3: max, min of a list or a tuple of ints -/
namespace DL
open PySem PySem.Spec L2
open PyProof.Rows hiding St
/-- max(t), min(t) of a tuple of ints -/
def rMaxT (K : PySem.W.Frag) : List V → Hp → VK → Prop := fun vs H Q => ∃ (a : Addr) (ns : List Int), vs = [V.ref a] ∧ SqT K H a (ns.map V.int) ∧ 0 < ns.length ∧ ∀ m, m ∈ ns → (∀ y, y ∈ ns → y ≤ m) → Q (.int m) H
def rMinT (K : PySem.W.Frag) : List V → Hp → VK → Prop := fun vs H Q => ∃ (a : Addr) (ns : List Int), vs = [V.ref a] ∧ SqT K H a (ns.map V.int) ∧ 0 < ns.length ∧ ∀ m, m ∈ ns → (∀ y, y ∈ ns → m ≤ y) → Q (.int m) H
theorem maxOf_spec : ∀ (xs : List Int) (x : Int), (PySem.W.maxOf x xs = x ∨ PySem.W.maxOf x xs ∈ xs) ∧ x ≤ PySem.W.maxOf x xs ∧ ∀ y ∈ xs, y ≤ PySem.W.maxOf x xs
  | [], x => ⟨.inl rfl, Int.le_refl _, fun y hy => by simp at hy⟩
  | z :: xs, x => by
    have e : PySem.W.maxOf x (z :: xs) = PySem.W.maxOf (if x < z then z else x) xs := by
      have : (if PySem.W.DatumOrd.lt x z = true then z else x) = if x < z then z else x := by
        show (if decide (x < z) = true then z else x) = _
        by_cases h : x < z
        · rw [if_pos (decide_eq_true h), if_pos h]
        · rw [if_neg (by simpa using h), if_neg h]
      rw [← this]
      rfl
    obtain ⟨a, b, c⟩ := maxOf_spec xs (if x < z then z else x)
    rw [e]
    by_cases h : x < z
    · rw [if_pos h] at a b c ⊢
      refine ⟨.inr (a.elim (fun q => by rw [q]; exact List.mem_cons_self) (List.mem_cons_of_mem _)), by omega, fun y hy => ?_⟩
      rcases List.mem_cons.mp hy with rfl | q
      · exact b
      · exact c y q
    · rw [if_neg h] at a b c ⊢
      refine ⟨a.imp id (List.mem_cons_of_mem _), b, fun y hy => ?_⟩
      rcases List.mem_cons.mp hy with rfl | q
      · omega
      · exact c y q
theorem minOf_spec : ∀ (xs : List Int) (x : Int), (PySem.W.minOf x xs = x ∨ PySem.W.minOf x xs ∈ xs) ∧ PySem.W.minOf x xs ≤ x ∧ ∀ y ∈ xs, PySem.W.minOf x xs ≤ y
  | [], x => ⟨.inl rfl, Int.le_refl _, fun y hy => by simp at hy⟩
  | z :: xs, x => by
    have e : PySem.W.minOf x (z :: xs) = PySem.W.minOf (if z < x then z else x) xs := by
      have : (if PySem.W.DatumOrd.lt z x = true then z else x) = if z < x then z else x := by
        show (if decide (z < x) = true then z else x) = _
        by_cases h : z < x
        · rw [if_pos (decide_eq_true h), if_pos h]
        · rw [if_neg (by simpa using h), if_neg h]
      rw [← this]
      rfl
    obtain ⟨a, b, c⟩ := minOf_spec xs (if z < x then z else x)
    rw [e]
    by_cases h : z < x
    · rw [if_pos h] at a b c ⊢
      refine ⟨.inr (a.elim (fun q => by rw [q]; exact List.mem_cons_self) (List.mem_cons_of_mem _)), by omega, fun y hy => ?_⟩
      rcases List.mem_cons.mp hy with rfl | q
      · exact b
      · exact c y q
    · rw [if_neg h] at a b c ⊢
      refine ⟨a.imp id (List.mem_cons_of_mem _), b, fun y hy => ?_⟩
      rcases List.mem_cons.mp hy with rfl | q
      · omega
      · exact c y q
section
variable {X : Cx}
theorem cr_maxT (hc : X.calm = true) (hu : X.A.units + 200 < cLine) : CallR X (.builtin "max") (rMaxT X.K) := by
  intro pins s σ H vs us Q I r h
  obtain ⟨a, ns, rfl, hs, hne, q⟩ := h
  obtain ⟨its, rv, hl, _⟩ := I.tuple hs
  rw [Vals.ref1 r]
  cases ns with
  | nil => simp at hne
  | cons x xs =>
    obtain ⟨m1, m2, m3⟩ := maxOf_spec xs x
    refine PySem.W.max_tuple_datum (x := x) (xs := xs) (I.ok.hd hc) hl (by simpa using PySem.W.HoldAll.of_ints rv.ints) (by show X.A.units + 1 + 0 < cLine; omega) fun i v h' tk hv hh hk => ⟨.int (PySem.W.maxOf x xs), H, I.kept hk, ?_, q _ ?_ ?_⟩
    · obtain ⟨as, rd⟩ := hh
      have rd : Reads h' v (.int (PySem.W.maxOf x xs)) as := rd
      cases rd
      exact ⟨_, rfl⟩
    · rcases m1 with z | z
      · rw [z]; exact List.mem_cons_self
      · exact List.mem_cons_of_mem _ z
    · intro y hy
      rcases List.mem_cons.mp hy with z | z
      · rw [z]; exact m2
      · exact m3 y z
theorem cr_minT (hc : X.calm = true) (hu : X.A.units + 200 < cLine) : CallR X (.builtin "min") (rMinT X.K) := by
  intro pins s σ H vs us Q I r h
  obtain ⟨a, ns, rfl, hs, hne, q⟩ := h
  obtain ⟨its, rv, hl, _⟩ := I.tuple hs
  rw [Vals.ref1 r]
  cases ns with
  | nil => simp at hne
  | cons x xs =>
    obtain ⟨m1, m2, m3⟩ := minOf_spec xs x
    refine PySem.W.min_tuple_datum (x := x) (xs := xs) (I.ok.hd hc) hl (by simpa using PySem.W.HoldAll.of_ints rv.ints) (by show X.A.units + 1 + 0 < cLine; omega) fun i v h' tk hv hh hk => ⟨.int (PySem.W.minOf x xs), H, I.kept hk, ?_, q _ ?_ ?_⟩
    · obtain ⟨as, rd⟩ := hh
      have rd : Reads h' v (.int (PySem.W.minOf x xs)) as := rd
      cases rd
      exact ⟨_, rfl⟩
    · rcases m1 with z | z
      · rw [z]; exact List.mem_cons_self
      · exact List.mem_cons_of_mem _ z
    · intro y hy
      rcases List.mem_cons.mp hy with z | z
      · rw [z]; exact m2
      · exact m3 y z
end
variable [HasL] [HasX] [HasH]
def fMax2 : List D → Mu → Out D
  | [.tup l], m => (match intsOf l with
    | some (x :: l) => .ok (.int (maxL x l)) m
    | _ => .stuck)
  | ds, m => fMax ds m
def fMin2 : List D → Mu → Out D
  | [.tup l], m => (match intsOf l with
    | some (x :: l) => .ok (.int (minL x l)) m
    | _ => .stuck)
  | ds, m => fMin ds m
section
variable {K : PySem.W.Frag} {W : WX}
theorem rel_maxT : RelL K W true (fun xs H Q => ((∃ i j, xs = [.int i, .int j] ∧ Q (.int (if j > i then j else i)) H) ∨ rMax K xs H Q) ∨ rMaxT K xs H Q) fMax2 := by
  intro c H σ μ vs ds hK M r Q p
  unfold fMax2 at p
  split at p
  · rename_i m l
    obtain ⟨v, rfl, r1⟩ := repsF_one r
    obtain ⟨a, ws, rfl, _, h2, h3⟩ := rep_tup r1
    cases e2 : intsOf l with
    | none => rw [e2] at p; exact p.elim
    | some bs =>
      rw [e2] at p
      cases bs with
      | nil => exact p.elim
      | cons x t =>
        obtain ⟨m1, m2, m3⟩ := maxL_spec t x
        refine .inr ⟨a, x :: t, rfl, by rw [← reps_intsOf h3 e2]; exact SqT.of h2, Nat.succ_pos _, fun m hm hle => ?_⟩
        have em : m = maxL x t := by
          have h4 : maxL x t ∈ x :: t := by
            rcases m1 with z | z
            · rw [z]; exact List.mem_cons_self
            · exact List.mem_cons_of_mem _ z
          have h5 := hle _ h4
          have h6 : m ≤ maxL x t := by
            rcases List.mem_cons.mp hm with z | z
            · rw [z]; exact m2
            · exact m3 m z
          omega
        rw [em]
        exact post_int M p
  · exact .inl (rel_max c H σ _ vs _ hK M r Q p)
theorem rel_minT : RelL K W true (fun xs H Q => ((∃ i j, xs = [.int i, .int j] ∧ Q (.int (if j < i then j else i)) H) ∨ rMin K xs H Q) ∨ rMinT K xs H Q) fMin2 := by
  intro c H σ μ vs ds hK M r Q p
  unfold fMin2 at p
  split at p
  · rename_i m l
    obtain ⟨v, rfl, r1⟩ := repsF_one r
    obtain ⟨a, ws, rfl, _, h2, h3⟩ := rep_tup r1
    cases e2 : intsOf l with
    | none => rw [e2] at p; exact p.elim
    | some bs =>
      rw [e2] at p
      cases bs with
      | nil => exact p.elim
      | cons x t =>
        obtain ⟨m1, m2, m3⟩ := minL_spec t x
        refine .inr ⟨a, x :: t, rfl, by rw [← reps_intsOf h3 e2]; exact SqT.of h2, Nat.succ_pos _, fun m hm hle => ?_⟩
        have em : m = minL x t := by
          have h4 : minL x t ∈ x :: t := by
            rcases m1 with z | z
            · rw [z]; exact List.mem_cons_self
            · exact List.mem_cons_of_mem _ z
          have h5 := hle _ h4
          have h6 : minL x t ≤ m := by
            rcases List.mem_cons.mp hm with z | z
            · rw [z]; exact m2
            · exact m3 m z
          omega
        rw [em]
        exact post_int M p
  · exact .inl (rel_min c H σ _ vs _ hK M r Q p)
end
variable {X : Cx} {W : WX} {b : Bool} {e : Expr} {es : List Expr} {mr : SA} {p pos : Pos}
theorem pd_max2 {j : Nat} (rm : Rm j X.A) (hc : X.calm = true) (hm : X.mg "max" = none) (ha : PDA X W true (e :: es) mr) (hg : Gl X "max" := by rfl) (he : starEach (e :: es) X.env = (false, eval e X.env) :: starEach es X.env := by rfl) (hpl : (backTo pos (starEach es X.env)).any (·.1) = false := by rfl) :
    PD X W b (.Call (.Name "max" p) (e :: es) [] pos) (mApp fMax2 mr) := pd_callB (((call_max2 hc).or (cr_max hc)).or (cr_maxT hc (by have := rm.r.un; omega))) rel_maxT hm rfl ha hg (by decide) (by decide) he hpl
theorem pd_min2 {j : Nat} (rm : Rm j X.A) (hc : X.calm = true) (hm : X.mg "min" = none) (ha : PDA X W true (e :: es) mr) (hg : Gl X "min" := by rfl) (he : starEach (e :: es) X.env = (false, eval e X.env) :: starEach es X.env := by rfl) (hpl : (backTo pos (starEach es X.env)).any (·.1) = false := by rfl) :
    PD X W b (.Call (.Name "min" p) (e :: es) [] pos) (mApp fMin2 mr) := pd_callB (((call_min2 hc).or (cr_min hc)).or (cr_minT hc (by have := rm.r.un; omega))) rel_minT hm rfl ha hg (by decide) (by decide) he hpl
/-- t * k, t a tuple with items -/
def fRepT : D → D → Mu → Out D
  | .tup l, .int k, m => if l ≠ [] ∧ 2 ≤ k ∧ k ≤ 1000 ∧ l.length ≤ 1000 then .ok (.tup (repL k.toNat l)) m else .stuck
  | _, _, _ => .stuck
theorem rel_repT {K : PySem.W.Frag} {W : WX} {b : Bool} : RelO K W b (rRepT K) fRepT := by
  intro c H σ μ v w d e hK M rv rw_ Q p
  subst hK
  cases d with
  | tup l =>
    cases e with
    | int k =>
      have p' : Post false c σ H W (if l ≠ [] ∧ 2 ≤ k ∧ k ≤ 1000 ∧ l.length ≤ 1000 then .ok (.tup (repL k.toNat l)) μ else .stuck) Q := p
      by_cases hc : l ≠ [] ∧ 2 ≤ k ∧ k ≤ 1000 ∧ l.length ≤ 1000
      · rw [if_pos hc] at p'
        obtain ⟨a, vs, rfl, ha, h1, r1⟩ := rep_tup rv
        refine ⟨a, k, vs, rfl, rep_int rw_, SqT.of h1, ?_, hc.2.1, hc.2.2.1, by rw [r1.length]; exact hc.2.2.2, fun q hq => post_tup M (reps_rep r1 k.toNat) hq p'⟩
        intro e
        subst e
        cases r1
        exact hc.1 rfl
      · rw [if_neg hc] at p'
        exact p'.elim
    | _ => exact p.elim
  | _ => exact p.elim
theorem pd_repT {f : Expr} {ma mb : SE} (ha : PD X W true e ma) (hb : PD X W true f mb) : PD X W b (.BinOp e .Mult f pos) (mOp fRepT ma mb) := pd_op op_repT rel_repT ha hb
end DL
/-! # Dd4: {k: v}; dict comprehensions -/
namespace DL
open PySem PySem.Spec L2
open PyProof.Rows hiding St
variable [HasL] [HasX] [HasH]
/-- a new object beside the frame's own -/
theorem MRel.brO {c : Ct} {H : Hp} {μ : Mu} {D : Addr} {u : HO} (M : MRel c H μ) (hn : H D = none) : MRel ⟨c.K, c.cs, D :: c.br⟩ (upd H D u) μ := by
  have st : Stp c c H (upd H D u) := Stp.same (same_upd hn)
  refine ⟨M.len, M.nd, fun n b es e1 e2 => ?_, fun b hb => ?_, (show LamX.Tabs HasX.x.tb (upd H D u) from tabs_step st M.tabs), fun p hp => (M.held p hp).more st hn⟩
  · obtain ⟨h1, ws, h2, h3⟩ := M.at_ n b es e1 e2
    refine ⟨fun z => ?_, ws, same_upd hn b _ h2, h3.more st hn⟩
    rcases List.mem_cons.mp z with z | z
    · rw [z, hn] at h2
      cases h2
    · exact h1 z
  · rcases List.mem_cons.mp hb with z | z
    · exact ⟨_, by rw [z]; exact upd_same⟩
    · obtain ⟨o, ho⟩ := M.br b z
      exact ⟨o, same_upd hn b _ ho⟩
theorem Ok.brO {c : Ct} {H : Hp} {σ : St} {ρ : Env} {μ : Mu} {D : Addr} {u : HO} (k : Ok c H σ ρ μ) (hn : H D = none) : Ok ⟨c.K, c.cs, D :: c.br⟩ (upd H D u) σ ρ μ := by
  have st : Stp c c H (upd H D u) := Stp.same (same_upd hn)
  refine ⟨⟨fun i d h => ?_, fun i l h => ?_, k.e.apart⟩, k.m.brO hn, k.len⟩
  · obtain ⟨v, h1, h2⟩ := k.e.val i d h
    exact ⟨v, h1, h2.more st hn⟩
  · obtain ⟨b, h1, h2, h3, h4⟩ := k.e.own i l h
    exact ⟨b, h1, List.mem_cons_of_mem _ h2, h3, h4.more st hn h3⟩
theorem FrR.brO {B : Bs} {c : Ct} {H : Hp} {σ : St} {ρ : Env} {μ : Mu} {D : Addr} {u : HO} (f : FrR B c H σ ρ μ) (hn : H D = none) : FrR B ⟨c.K, c.cs, D :: c.br⟩ (upd H D u) σ ρ μ := by
  have st : Stp c c H (upd H D u) := Stp.same (same_upd hn)
  refine ⟨f.ok.brO hn, f.stp.trans (st.lessB B.c.br), ?_, f.own0, f.held.more st hn, f.brH⟩
  obtain ⟨more, e⟩ := f.br
  exact ⟨D :: more, by rw [e]; rfl⟩
/-- x = {k: v}, k a number or a text -/
def sDic1 (i : Nat) (mk mv : SE) : SS := fun ρ μ => (mk ρ μ).go ρ fun k μ1 => (mv ρ μ1).go ρ fun v μ2 => if k.key.isSome = true then .nx (ρ.set i (some (.own (.dic [k] [v])))) μ2 else .stuck
section
variable {X : Cx} {W : WX} {ke ve : Expr} {p pos : Pos} {mk mv : SE}
theorem psd_dic1 {i : Nat} {x : Str} {pos' : Pos} (hN : X.N.Nodup) (hk : PD X W false ke mk) (hv : PD X W false ve mv) (hi : X.N[i]? = some x := by rfl) (hx : Loc X.env.scope x := by first | exact Or.inl rfl | exact Or.inr rfl) (hs : swapsWith (.Dict [some ke] [ve] p) (some (.Name x pos')) pos.line X.env = pure false := by rfl)
    (hf : X.fn x = true ∨ X.env.scope.names.lookup x = some .local := by first | exact .inl rfl | exact .inr rfl | assumption) : PSD X W (.Assign [.Name x pos'] (.Dict [some ke] [ve] p) pos) (sDic1 i mk mv) := by
  obtain ⟨tk, k1, k2⟩ := hk
  obtain ⟨tv, v1, v2⟩ := hv
  refine ⟨_, ps_set hN hi hx (pe_disp (pps_cons k1 v1 pps_nil) rfl rfl (by simp) (by show 1 ≤ 15; decide)) hs hf, fun B c H σ ρ μ hK fr D q => ?_⟩
  intro a ha
  have fr' := fr.brO (u := .dK []) ha
  refine k2 ⟨c.K, c.cs, a :: c.br⟩ (upd H a (.dK [])) σ ρ μ hK fr'.ok _ (fr'.go q fun k μ1 y c1 H1 s1 f1 r1 q1 => ?_)
  refine v2 c1 H1 σ ρ μ1 (s1.K.trans hK) f1.ok _ (f1.go q1 fun v μ2 w c2 H2 s2 f2 r2 q2 => ?_)
  by_cases hc : k.key.isSome = true
  · rw [if_pos hc] at q2
    obtain ⟨kk, hkk⟩ := Option.isSome_iff_exists.mp hc
    have ey := key_rep (r1.step s2) hkk
    subst ey
    have s12 := s1.trans s2
    have eb : c2.br = a :: c.br := s12.br
    have e0 : H2 a = some (.dK []) := by
      refine s12.keep a _ upd_same (fun z => ?_) (fun ps z => by cases z)
      exact fresh_cs fr.ok.m ha z
    have ncs : a ∉ c2.cs := s12.notin (fresh_cs fr.ok.m ha) upd_same
    refine ⟨e0, [(kk, w)], rfl, (by show 1 ≤ 15; decide), ?_⟩
    have st : Stp c c H (upd H a (.dK [])) := Stp.same (same_upd ha)
    have s02 : Stp c ⟨c2.K, c2.cs, c.br⟩ H H2 := st.trans (s12.lessB c.br)
    have c2e : c2 = ⟨c2.K, c2.cs, a :: c.br⟩ := by
      rw [← eb]
    have M2 : MRel ⟨c2.K, c2.cs, a :: c.br⟩ H2 μ2 := by
      rw [← c2e]; exact f2.ok.m
    have hw : ∃ u, H2 a = some u ∧ isOwnO u := ⟨_, e0, trivial⟩
    have hb : a ∈ (⟨c2.K, c2.cs, a :: c.br⟩ : Ct).br := List.mem_cons_self
    have ne0 : ∀ {x : Addr} {o : HO}, H x = some o → x ≠ a := fun {x o} ho z => by
      rw [z, ha] at ho
      cases ho
    have s3 : Stp c ⟨c2.K, c2.cs, c.br⟩ H (upd H2 a (.dK (mergeK [] [(kk, w)]))) := by
      refine ⟨s02.K, s02.br, s02.cs, fun x o h hx ht => ?_, fun x o h => ?_, fun t q hq => tabS_own hw (s02.tbs t q hq)⟩
      · rw [upd_ne (ne0 h)]
        exact s02.keep x o h hx ht
      · rw [upd_ne (ne0 h)]
        exact s02.there x o h
    have M3 : MRel ⟨c2.K, c2.cs, a :: c.br⟩ (upd H2 a (.dK (mergeK [] [(kk, w)]))) μ2 := by
      refine ⟨M2.len, M2.nd, fun n b es' e1 e2 => ?_, fun b hb' => ?_, fun p hp => tabS_own hw (M2.tabs p hp), fun p hp => (M2.held p hp).other hb hw⟩
      · obtain ⟨h1, ws', h2, h3⟩ := M2.at_ n b es' e1 e2
        exact ⟨h1, ws', by rw [upd_ne (fun e => h1 (by rw [e]; exact hb))]; exact h2, h3.other hb hw⟩
      · by_cases e : b = a
        · exact ⟨_, by rw [e]; exact upd_same⟩
        · obtain ⟨o, ho⟩ := M2.br b hb'
          exact ⟨o, by rw [upd_ne e]; exact ho⟩
    have rw2 : Rep ⟨c2.K, c2.cs, a :: c.br⟩ H2 w v := by
      rw [← c2e]; exact r2.rep
    exact q2 _ _ _ (fr.setOwn (i := i) (o := .dic [k] [v]) (c' := ⟨c2.K, c2.cs, c.br⟩) s3 ha M3 ncs (.inl ⟨_, upd_same, by
      show [k].map DL.D.key = [some kk]
      rw [List.map_cons, hkk]
      rfl, .cons (rw2.other hb hw) .nil⟩))
  · rw [if_neg hc] at q2
    exact q2.elim
end
/-! ### dict comprehensions -/
/-- the dict that is being made grows -/
theorem Ok.growO {c : Ct} {H : Hp} {σ : St} {ρ : Env} {μ : Mu} {D : Addr} {u : HO} (k : Ok c H σ ρ μ) (hb : D ∈ c.br) (hD : ∃ u, H D = some u ∧ isOwnO u) (no : ∀ (i : Nat) (es : OwnC), ρ[i]? = some (some (Slot.own es)) → σ[i]? ≠ some (some (V.ref D))) : Ok c (upd H D u) σ ρ μ := by
  refine ⟨⟨fun i d h => ?_, fun i l h => ?_, k.e.apart⟩, ⟨k.m.len, k.m.nd, fun n b es e1 e2 => ?_, fun b hb' => ?_, fun p hp => tabS_own hD (k.m.tabs p hp), fun p hp => (k.m.held p hp).other hb hD⟩, k.len⟩
  · obtain ⟨v, h1, h2⟩ := k.e.val i d h
    exact ⟨v, h1, h2.other hb hD⟩
  · obtain ⟨b, h1, h2, h3, h4⟩ := k.e.own i l h
    have nb : b ≠ D := by
      intro e
      rw [e] at h1
      exact no i l h h1
    exact ⟨b, h1, h2, h3, h4.other hb hD nb⟩
  · obtain ⟨h1, ws, h2, h3⟩ := k.m.at_ n b es e1 e2
    exact ⟨h1, ws, by rw [upd_ne (fun e => h1 (by rw [e]; exact hb))]; exact h2, h3.other hb hD⟩
  · by_cases e : b = D
    · exact ⟨_, by rw [e]; exact upd_same⟩
    · obtain ⟨o, ho⟩ := k.m.br b hb'
      exact ⟨o, by rw [upd_ne e]; exact ho⟩
def compD (tg : TgD) (mt : ST') (mk mv : SE) (ρ0 : Env) : List D → List D → List D → Mu → Out (List D × List D)
  | [], ks, vs, μ => .ok (ks, vs) μ
  | d :: r, ks, vs, μ => match tg d ρ0 with
    | none => .stuck
    | some ρ1 => (match mt ρ1 μ with
      | .ok true μ1 => (match mk ρ1 μ1 with
        | .ok k μ2 => (match mv ρ1 μ2 with
          | .ok v μ3 => if k.key.isSome = true ∧ ks.length < 16777216 then compD tg mt mk mv ρ0 r (dPutK ks vs k) (dPutV ks vs k v) μ3 else .stuck
          | _ => .stuck)
        | _ => .stuck)
      | .ok false μ1 => compD tg mt mk mv ρ0 r ks vs μ1
      | _ => .stuck)
abbrev SDc := Env → Mu → Out (List D × List D)
def nDc (mi : SI) (tg : TgD) (mt : ST') (mk mv : SE) (vs : List Nat) : SDc := fun ρ μ => (mi ρ μ).bnd fun ds μ1 => compD tg mt mk mv (wipeE ρ vs) ds [] [] μ1
def PostDc (c : Ct) (σ : St) (H : Hp) (W : WX) (o : Out (List D × List D)) (Q : VK) : Prop := match o with
  | .ok kv m => ∀ a c' H', Stp c c' H H' → H a = none → MRel ⟨c'.K, c'.cs, a :: c'.br⟩ H' m → a ∉ c'.cs → DcAt ⟨c'.K, c'.cs, a :: c'.br⟩ H' a kv.1 kv.2 → Q (.ref a) H'
  | .exn x fs m => ∀ cls dd c' H', Stp c c' H H' → MRel c' H' m → ExR c' H' cls dd x fs → W cls dd σ H'
  | .stuck => False
theorem PostDc.bnd {α β : Type} {G : Ct → Hp → β → α → Prop} {c : Ct} {σ : St} {H : Hp} {W : WX} {o : Out α} {f : α → Mu → Out (List D × List D)} {Q : VK} {R : β → Hp → Prop} (p : PostDc c σ H W (o.bnd f) Q)
    (h : ∀ d m v c' H', Stp c c' H H' → MRel c' H' m → G c' H' v d → PostDc c' σ H' W (f d m) Q → R v H') : PostG G c σ H W o R := by
  cases o with
  | ok d m =>
    intro v c' H' s M r
    refine h d m v c' H' s M r ?_
    cases e : f d m with
    | ok ds m' =>
      have p' : PostDc c σ H W (f d m) Q := p
      rw [e] at p'
      intro a c2 H2 s2 hn
      exact p' a c2 H2 (s.trans s2) (by
        cases q : H a with
        | none => rfl
        | some u =>
          obtain ⟨u', hu⟩ := s.there a u q
          rw [hn] at hu
          cases hu)
    | exn x fs m' =>
      have p' : PostDc c σ H W (f d m) Q := p
      rw [e] at p'
      exact fun cls dd c2 H2 s2 => p' cls dd c2 H2 (s.trans s2)
    | stuck =>
      have p' : PostDc c σ H W (f d m) Q := p
      rw [e] at p'
      exact p'
  | exn x fs m => exact p
  | stuck => exact p
section
variable {X : Cx} {W : WX} {kx vx tg iter : Expr} {ifs : List Expr} {scope : Scope} {own : List (Str × Nat)} {p0 pos : Pos} {mi : SI} {tgd : TgD} {is : List Nat} {mt : ST'} {mk mv : SE}
theorem sim_dcomp {K : PySem.W.Frag} {wi : TI} {vs : List Nat} (h1 : SimI K W wi mi) (his : ∀ i ∈ is, i ∈ vs) : ∀ c H σ ρ μ, c.K = K → Ok c H σ ρ μ → ∀ Q, PostDc c σ H W (nDc mi tgd mt mk mv vs ρ μ) Q → tDc wi (gOf K tgd is) (tOfD K W0 mt) (eOf K W0 false mk) (eOf K W0 false mv) vs σ H Q := by
  intro c H σ ρ μ hK k Q p
  refine h1 c H σ ρ μ hK k _ (PostDc.bnd p fun ds μ1 J c1 H1 s1 M1 r p1 => ?_)
  obtain ⟨hv, hd, hl, rh⟩ := r
  have wk := hl.wlk
  intro D hD
  have k1 : Ok c1 H1 (L2.wipe σ vs) (wipeE ρ vs) μ1 := (k.step s1 M1).wipe vs
  have st0 : Stp c1 c1 H1 (upd H1 D (.dK [])) := Stp.same (same_upd hD)
  have noD : ∀ (i : Nat) (es : OwnC), (wipeE ρ vs)[i]? = some (some (Slot.own es)) → (L2.wipe σ vs)[i]? ≠ some (some (V.ref D)) := by
    intro i es h q
    obtain ⟨b, h1, _, _, h4⟩ := k1.e.own i es h
    rw [h1] at q
    cases q
    obtain ⟨u, h4, _⟩ := h4.there
    rw [hD] at h4
    cases h4
  refine ⟨fun i m H' => m + i = ds.length ∧ ∃ c' μ' kvs ks vv, Stp c1 c' H1 H' ∧ Ok ⟨c'.K, c'.cs, D :: c'.br⟩ H' (L2.wipe σ vs) (wipeE ρ vs) μ' ∧ H' D = some (.dK kvs) ∧ D ∉ c'.cs ∧ (ks.map DL.D.key = kvs.map (fun p => some p.1) ∧ Reps ⟨c'.K, c'.cs, D :: c'.br⟩ H' (kvs.map fun p => p.2) vv) ∧ Reps ⟨c'.K, c'.cs, D :: c'.br⟩ H' hv hd ∧ PostDc c1 σ H1 W (compD tgd mt mk mv (wipeE ρ vs) (ds.drop i) ks vv μ') Q,
    ⟨ds.length, by omega, c1, μ1, [], [], [], st0, k1.brO hD, upd_same, fresh_cs M1 hD, ⟨rfl, .nil⟩, rh.more st0 hD, p1⟩, ?_⟩
  rintro i m H' ⟨em, c', μ', kvs, ks, vv, s', k', hD', hc', ⟨rk, ra⟩, rh', p'⟩
  by_cases hi : i < ds.length
  · have hKc : (⟨c'.K, c'.cs, D :: c'.br⟩ : Ct).K = K := s'.K.trans (s1.K.trans hK)
    refine .inr ⟨wk.go i _ H' hKc hi rh', fun H2 => ∃ c2 μ2 kvs2 ks2 vv2, Stp c1 c2 H1 H2 ∧ Ok ⟨c2.K, c2.cs, D :: c2.br⟩ H2 (L2.wipe σ vs) (wipeE ρ vs) μ2 ∧ H2 D = some (.dK kvs2) ∧ D ∉ c2.cs ∧ (ks2.map DL.D.key = kvs2.map (fun p => some p.1) ∧ Reps ⟨c2.K, c2.cs, D :: c2.br⟩ H2 (kvs2.map fun p => p.2) vv2) ∧ Reps ⟨c2.K, c2.cs, D :: c2.br⟩ H2 hv hd ∧ PostDc c1 σ H1 W (compD tgd mt mk mv (wipeE ρ vs) (ds.drop (i + 1)) ks2 vv2 μ2) Q,
      fun H2 h2 => ⟨m - 1, by omega, by omega, h2⟩, fun x H2 y => ?_⟩
    obtain ⟨sm, d, hd', rd⟩ := wk.yld i _ H' x H2 μ' hKc k'.m rh' hi y
    have e1 : ds.drop i = d :: ds.drop (i + 1) := by
      obtain ⟨hl2, q⟩ := List.getElem?_eq_some_iff.mp hd'
      rw [← q]
      exact (List.drop_eq_getElem_cons hl2)
    rw [e1] at p'
    have sm' : Stp c' c' H' H2 := Stp.same sm
    have smD : Stp ⟨c'.K, c'.cs, D :: c'.br⟩ ⟨c'.K, c'.cs, D :: c'.br⟩ H' H2 := Stp.same sm
    have k2 : Ok ⟨c'.K, c'.cs, D :: c'.br⟩ H2 (L2.wipe σ vs) (wipeE ρ vs) μ' := k'.step smD (k'.m.same sm)
    have hK2 : (⟨c'.K, c'.cs, D :: c'.br⟩ : Ct).K = K := s'.K.trans (s1.K.trans hK)
    have p2 : PostDc c1 σ H1 W (match tgd d (wipeE ρ vs) with
      | none => .stuck
      | some ρ1 => (match mt ρ1 μ' with
        | .ok true μ1 => (match mk ρ1 μ1 with
          | .ok k μ2 => (match mv ρ1 μ2 with
            | .ok v μ3 => if k.key.isSome = true ∧ ks.length < 16777216 then compD tgd mt mk mv (wipeE ρ vs) (ds.drop (i + 1)) (dPutK ks vv k) (dPutV ks vv k v) μ3 else .stuck
            | _ => .stuck)
          | _ => .stuck)
        | .ok false μ1 => compD tgd mt mk mv (wipeE ρ vs) (ds.drop (i + 1)) ks vv μ1
        | _ => .stuck)) Q := p'
    cases et : tgd d (wipeE ρ vs) with
    | none => rw [et] at p2; exact p2.elim
    | some ρ1 =>
      rw [et] at p2
      refine ⟨⟨c'.K, c'.cs, D :: c'.br⟩, d, fun σ' ρ' => Ok ⟨c'.K, c'.cs, D :: c'.br⟩ H2 σ' ρ' μ' ∧ L2.wipe σ' vs = L2.wipe σ vs, wipeE ρ vs, ρ1, hK2, rd, ?_, ⟨k2, wipe_sub vs fun _ h => h⟩, et, ?_⟩
      · rintro σ' ρ' j v dd hj ⟨f1, f2⟩ rv
        exact ⟨f1.setv rv, by rw [wipe_at (his j hj)]; exact f2⟩
      · rintro σ2 ⟨f1, f2⟩
        refine ⟨f2, ⟨c'.K, c'.cs, D :: c'.br⟩, ρ1, μ', hK2, f1, ?_⟩
        cases em1 : mt ρ1 μ' with
        | stuck =>
          simp only [em1] at p2
          exact p2.elim
        | exn y fs m2 =>
          simp only [em1] at p2
          exact p2.elim
        | ok bb μ2 =>
          simp only [em1] at p2
          rintro b c3 H3 s3 M3 rfl
          have st3 : Stp c' ⟨c3.K, c3.cs, c'.br⟩ H2 H3 := ⟨s3.K, rfl, s3.cs, s3.keep, s3.there, s3.tbs⟩
          have ec3 : c3 = ⟨c3.K, c3.cs, D :: c'.br⟩ := by
            obtain ⟨k3, cs3, br3⟩ := c3
            have : br3 = D :: c'.br := s3.br
            rw [this]
          have sT : Stp c1 ⟨c3.K, c3.cs, c'.br⟩ H1 H3 := (s'.trans sm').trans st3
          have hD2 : H2 D = some (.dK kvs) := sm D _ hD'
          have hD3 : H3 D = some (.dK kvs) := s3.keep D _ hD2 hc' (fun _ z => by cases z)
          have hc3 : D ∉ c3.cs := s3.notin hc' hD2
          have kW : Ok c3 H3 (L2.wipe σ vs) (wipeE ρ vs) μ2 := k2.step s3 M3
          cases b with
          | false =>
            rw [if_neg Bool.false_ne_true]
            simp only at p2
            refine ⟨⟨c3.K, c3.cs, c'.br⟩, μ2, kvs, ks, vv, sT, ?_, hD3, hc3, ⟨rk, ?_⟩, ?_, p2⟩
            · rw [ec3] at kW; exact kW
            · have := (ra.step smD).step s3
              rw [ec3] at this; exact this
            · have := (rh'.step smD).step s3
              rw [ec3] at this; exact this
          | true =>
            rw [if_pos rfl]
            simp only at p2
            refine ⟨c3, ρ1, μ2, s3.K.trans hK2, f1.step s3 M3, ?_⟩
            cases em2 : mk ρ1 μ2 with
            | stuck => simp only [em2] at p2; exact p2.elim
            | exn y fs m3 => simp only [em2] at p2; exact p2.elim
            | ok kd μ3 =>
              simp only [em2] at p2
              intro y c4 H4 s4 M4 r4
              refine ⟨c4, ρ1, μ3, s4.K.trans (s3.K.trans hK2), (f1.step s3 M3).step s4 M4, ?_⟩
              cases em3 : mv ρ1 μ3 with
              | stuck => simp only [em3] at p2; exact p2.elim
              | exn y fs m3 => simp only [em3] at p2; exact p2.elim
              | ok dx μ4 =>
                simp only [em3] at p2
                intro v c5 H5 s5 M5 r5
                have s35 := s4.trans s5
                have ec5 : c5 = ⟨c5.K, c5.cs, D :: c'.br⟩ := by
                  obtain ⟨k5, cs5, br5⟩ := c5
                  have : br5 = D :: c'.br := s35.br.trans s3.br
                  rw [this]
                have st5 : Stp ⟨c3.K, c3.cs, c'.br⟩ ⟨c5.K, c5.cs, c'.br⟩ H3 H5 := ⟨s35.K, rfl, s35.cs, s35.keep, s35.there, s35.tbs⟩
                have hD5 : H5 D = some (.dK kvs) := s35.keep D _ hD3 hc3 (fun _ z => by cases z)
                have hc5 : D ∉ c5.cs := s35.notin hc3 hD3
                have hb5 : D ∈ c5.br := by rw [ec5]; exact List.mem_cons_self
                have hw5 : ∃ u, H5 D = some u ∧ isOwnO u := ⟨_, hD5, trivial⟩
                have ra5 := ((ra.step smD).step s3).step s35
                have rh5 := ((rh'.step smD).step s3).step s35
                by_cases hz : kd.key.isSome = true ∧ ks.length < 16777216
                · rw [if_pos hz] at p2
                  obtain ⟨kk, hkk⟩ := Option.isSome_iff_exists.mp hz.1
                  have ey : y = kV kk := key_rep (r4.step s5) hkk
                  obtain ⟨q1, q2⟩ := put_rel kEq_key hkk r5.rep rk ra5
                  have hlen : kvs.length < sizeLine := by
                    have := congrArg List.length rk
                    rw [List.length_map, List.length_map] at this
                    rw [← this, sizeLine_eq]
                    exact hz.2
                  refine ⟨kvs, kk, ey, hD5, hlen, ⟨c5.K, c5.cs, c'.br⟩, μ4, putK kvs kk v, dPutK ks vv kd, dPutV ks vv kd dx, ?_, ?_, upd_same, hc5, ⟨q1, ?_⟩, ?_, p2⟩
                  · have s6 : Stp c1 ⟨c5.K, c5.cs, c'.br⟩ H1 H5 := sT.trans st5
                    refine ⟨s6.K, s6.br, s6.cs, fun a o h hn ht => ?_, fun a o h => ?_, fun t q hq => tabS_own hw5 (s6.tbs t q hq)⟩
                    · rw [upd_ne (ne_of_none h hD)]
                      exact s6.keep a o h hn ht
                    · rw [upd_ne (ne_of_none h hD)]
                      exact s6.there a o h
                  · have kW5 := ((kW.step s4 M4).step s5 M5).growO (u := .dK (putK kvs kk v)) hb5 hw5 noD
                    rw [ec5] at kW5; exact kW5
                  · have := q2.other (o := .dK (putK kvs kk v)) hb5 hw5
                    rw [ec5] at this; exact this
                  · have := rh5.other (o := .dK (putK kvs kk v)) hb5 hw5
                    rw [ec5] at this; exact this
                · rw [if_neg hz] at p2
                  exact p2.elim
  · have e : i = ds.length := by omega
    subst e
    rw [List.drop_length] at p'
    refine .inl ⟨wk.stop _ H' (show (⟨c'.K, c'.cs, D :: c'.br⟩ : Ct).K = K from s'.K.trans (s1.K.trans hK)) rh', ?_⟩
    exact p' D c' H' s' hD k'.m hc' (.inl ⟨kvs, hD', rk, ra⟩)
/-- x = {k: v for ..} -/
def sDicC (i : Nat) (m : SDc) : SS := fun ρ μ => (m ρ μ).go ρ fun kv μ' => .nx (ρ.set i (some (.own (.dic kv.1 kv.2)))) μ'
theorem psd_dicC {i : Nat} {x : Str} {pos' : Pos} (hN : X.N.Nodup) (hc : X.calm = true) (hi0 : PID X W tg iter mi) (ok : blkC X.N X.env.scope scope own = true)
    (hg : ∀ (s : Shared) (H : Hp) (C : Addr) (cl : List (Str × Addr)) (fp : List Addr), PGD (X.blk s H scope (compEnvC scope cl C X.env) fp) tg tgd is)
    (ht : ∀ (s : Shared) (H : Hp) (C : Addr) (cl : List (Str × Addr)) (fp : List Addr), PDTs (X.blk s H scope (compEnvC scope cl C X.env) fp) W0 ifs mt)
    (hk : ∀ (s : Shared) (H : Hp) (C : Addr) (cl : List (Str × Addr)) (fp : List Addr), PD (X.blk s H scope (compEnvC scope cl C X.env) fp) W0 false kx mk)
    (he : ∀ (s : Shared) (H : Hp) (C : Addr) (cl : List (Str × Addr)) (fp : List Addr), PD (X.blk s H scope (compEnvC scope cl C X.env) fp) W0 false vx mv)
    (his : (is.all fun i => decide (i ∈ own.map (·.2))) = true) (nf : ∀ x, foldedSetIterable iter X.env x = pure x := by intro _; rfl)
    (hi : X.N[i]? = some x := by rfl) (hx : Loc X.env.scope x := by first | exact Or.inl rfl | exact Or.inr rfl) (hs : swapsWith (.DictComp kx vx [⟨tg, iter, ifs, 0⟩] scope p0) (some (.Name x pos')) pos.line X.env = pure false := by rfl)
    (hf : X.fn x = true ∨ X.env.scope.names.lookup x = some .local := by first | exact .inl rfl | exact .inr rfl | assumption) : PSD X W (.Assign [.Name x pos'] (.DictComp kx vx [⟨tg, iter, ifs, 0⟩] scope p0) pos) (sDicC i (nDc mi tgd mt mk mv (own.map (·.2)))) := by
  obtain ⟨wi, i1, i2⟩ := hi0
  refine ⟨_, ps_set hN hi hx (pe_dc (g := gOf X.K tgd is) (tt := tOfD X.K W0 mt) (tk := eOf X.K W0 false mk) (tv := eOf X.K W0 false mv) hc hN i1 (blkOk_by ok) (fun s H C cl fp => (hg s H C cl fp).of) (fun s H C cl fp => (show PTs _ ifs (tOfD X.K W0 mt) from ht s H C cl fp)) (fun s H C cl fp => (hk s H C cl fp).of) (fun s H C cl fp => (he s H C cl fp).of) nf) hs hf, fun B c H σ ρ μ hK f D p => ?_⟩
  refine sim_dcomp i2 (fun i hi => of_decide_eq_true (List.all_eq_true.mp his i hi)) c H σ ρ μ hK f.ok _ ?_
  unfold sDicC at p
  cases q : nDc mi tgd mt mk mv (own.map (·.2)) ρ μ with
  | ok kv m =>
    rw [q] at p
    exact fun a c' H' s hn M hc r => p _ H' _ (f.setOwn (o := .dic kv.1 kv.2) s hn M hc r)
  | exn y fs m =>
    rw [q] at p
    exact fun cls dd c' H' s M r => p c' H' σ cls dd (f.step s M) r
  | stuck => rw [q] at p; exact p
end
end DL
/-! # Dd5: list(range(a, b)), tuple(range(..)) -/
namespace DL
open PySem PySem.Spec L2
open PyProof.Rows hiding St
variable [HasL] [HasX] [HasH]
def fRgL : D → D → Mu → Out (List D)
  | .int i, .int j, m => if rgB i j = true then .ok (rngL i (j - i).toNat) m else .stuck
  | _, _, _ => .stuck
def fRgT : D → D → Mu → Out D
  | .int i, .int j, m => if rgB i j = true then .ok (.tup (rngL i (j - i).toNat)) m else .stuck
  | _, _, _ => .stuck
def nRg2 (ma mb : SE) : SN := fun ρ μ => (ma ρ μ).bnd fun d μ1 => (mb ρ μ1).bnd fun e μ2 => fRgL d e μ2
def mTRg1 (ma : SE) : SE := fun ρ μ => (ma ρ μ).bnd fun d μ1 => fRgT (.int 0) d μ1
def mTRg2 (ma mb : SE) : SE := fun ρ μ => (ma ρ μ).bnd fun d μ1 => (mb ρ μ1).bnd fun e μ2 => fRgT d e μ2
section
variable {X : Cx} {W : WX} {b : Bool} {e f : Expr} {ma mb : SE} {p p2 pos pos2 : Pos}
theorem pdn_rg2 (hc : X.calm = true) (hl : X.mg "list" = none) (hr : X.mg "range" = none) (ha : PD X W true e ma) (hb : PD X W true f mb) (hg : Gl X "list" := by rfl) (hg2 : Gl X "range" := by rfl) (na : starEach [e, f] X.env = (false, eval e X.env) :: starEach [f] X.env := by rfl)
    (nb : starEach [f] X.env = (false, eval f X.env) :: starEach [] X.env := by rfl) (hp : (backTo pos2 (starEach [f] X.env)).any (·.1) = false := by rfl)
    (na2 : starEach [.Call (.Name "range" p2) [e, f] [] pos2] X.env = (false, eval (.Call (.Name "range" p2) [e, f] [] pos2) X.env) :: starEach [] X.env := by rfl) : PDN X W (.Call (.Name "list" p) [.Call (.Name "range" p2) [e, f] [] pos2] [] pos) (nRg2 ma mb) := by
  obtain ⟨ta, a1, a2⟩ := ha
  obtain ⟨tb, b1, b2⟩ := hb
  refine ⟨_, pe_listRg hc hg hl (prg_2 hg2 hr a1 b1 na nb hp) na2, fun c H σ ρ μ hK k Q q => ?_⟩
  refine a2 c H σ ρ μ hK k _ (PostN.bnd q fun d μ1 v c1 H1 s1 M1 r1 p1 => ?_)
  refine b2 c1 H1 σ ρ μ1 (s1.K.trans hK) (k.step s1 M1) _ (PostN.bnd p1 fun g μ2 w c2 H2 s2 M2 r2 p2 => ?_)
  cases d with
  | int i =>
    cases g with
    | int j =>
      have p3 : PostN c2 σ H2 W (if rgB i j = true then .ok (rngL i (j - i).toNat) μ2 else .stuck) Q := p2
      by_cases hb : rgB i j = true
      · rw [if_pos hb] at p3
        exact ⟨i, j, rep_int r1, rep_int r2, rgB_ok hb, fun q2 hq => p3.lay M2 (reps_rg i _) hq⟩
      · rw [if_neg hb] at p3
        exact p3.elim
    | _ => exact p2.elim
  | _ => exact p2.elim
theorem pd_trg1 (hc : X.calm = true) (hl : X.mg "tuple" = none) (hr : X.mg "range" = none) (ha : PD X W true e ma) (hg : Gl X "tuple" := by rfl) (hg2 : Gl X "range" := by rfl) (na : starEach [e] X.env = (false, eval e X.env) :: starEach [] X.env := by rfl)
    (na2 : starEach [.Call (.Name "range" p2) [e] [] pos2] X.env = (false, eval (.Call (.Name "range" p2) [e] [] pos2) X.env) :: starEach [] X.env := by rfl) : PD X W b (.Call (.Name "tuple" p) [.Call (.Name "range" p2) [e] [] pos2] [] pos) (mTRg1 ma) := by
  obtain ⟨ta, a1, a2⟩ := ha
  refine ⟨_, pe_tupRg hc hg hl (prg_1 hg2 hr a1 na) na2, fun c H σ ρ μ hK k Q q => ?_⟩
  refine a2 c H σ ρ μ hK k _ (PostG.bnd q fun d μ1 v c1 H1 s1 M1 r1 p1 => ?_)
  cases d with
  | int j =>
    have p3 : Post b c1 σ H1 W (if rgB 0 j = true then .ok (.tup (rngL 0 (j - 0).toNat)) μ1 else .stuck) Q := p1
    by_cases hb : rgB 0 j = true
    · rw [if_pos hb] at p3
      exact ⟨j, rep_int r1, rgB_ok hb, fun q2 hq => post_tup M1 (reps_rg 0 _) hq p3⟩
    · rw [if_neg hb] at p3
      exact p3.elim
  | _ => exact p1.elim
theorem pd_trg2 (hc : X.calm = true) (hl : X.mg "tuple" = none) (hr : X.mg "range" = none) (ha : PD X W true e ma) (hb : PD X W true f mb) (hg : Gl X "tuple" := by rfl) (hg2 : Gl X "range" := by rfl) (na : starEach [e, f] X.env = (false, eval e X.env) :: starEach [f] X.env := by rfl)
    (nb : starEach [f] X.env = (false, eval f X.env) :: starEach [] X.env := by rfl) (hp : (backTo pos2 (starEach [f] X.env)).any (·.1) = false := by rfl)
    (na2 : starEach [.Call (.Name "range" p2) [e, f] [] pos2] X.env = (false, eval (.Call (.Name "range" p2) [e, f] [] pos2) X.env) :: starEach [] X.env := by rfl) : PD X W b (.Call (.Name "tuple" p) [.Call (.Name "range" p2) [e, f] [] pos2] [] pos) (mTRg2 ma mb) := by
  obtain ⟨ta, a1, a2⟩ := ha
  obtain ⟨tb, b1, b2⟩ := hb
  refine ⟨_, pe_tupRg hc hg hl (prg_2 hg2 hr a1 b1 na nb hp) na2, fun c H σ ρ μ hK k Q q => ?_⟩
  refine a2 c H σ ρ μ hK k _ (PostG.bnd q fun d μ1 v c1 H1 s1 M1 r1 p1 => ?_)
  refine b2 c1 H1 σ ρ μ1 (s1.K.trans hK) (k.step s1 M1) _ (PostG.bnd p1 fun g μ2 w c2 H2 s2 M2 r2 p2 => ?_)
  cases d with
  | int i =>
    cases g with
    | int j =>
      have p3 : Post b c2 σ H2 W (if rgB i j = true then .ok (.tup (rngL i (j - i).toNat)) μ2 else .stuck) Q := p2
      by_cases hb : rgB i j = true
      · rw [if_pos hb] at p3
        exact ⟨i, j, rep_int r1, rep_int r2, rgB_ok hb, fun q2 hq => post_tup M2 (reps_rg i _) hq p3⟩
      · rw [if_neg hb] at p3
        exact p3.elim
    | _ => exact p2.elim
  | _ => exact p2.elim
end
end DL
/-! # Dd6: zip of a list and a tuple -/
namespace DL
open PySem PySem.Spec L2
open PyProof.Rows hiding St
/-- the list at a and the tuple at b, turn for turn, in new pairs -/
def ItzM (K : PySem.W.Frag) (a b : Addr) : It where
  go := fun j H => ∃ (ws us : List V) (p q : V), SqL K H a ws ∧ SqT K H b us ∧ ws[j]? = some p ∧ us[j]? = some q
  yld := fun j H v H' => ∃ T p q, v = .ref T ∧ H T = none ∧ H' = upd H T (.tup [p, q]) ∧ (∀ ws, SqL K H a ws → ws[j]? = some p) ∧ ∀ us, SqT K H b us → us[j]? = some q
  stop := fun j H => ∃ ws us : List V, SqL K H a ws ∧ SqT K H b us ∧ j = min ws.length us.length
/-- what stands of the iterator ahead of turn j -/
def ZmAt (a b z TI TO c1 c2 : Addr) (j : Nat) (h : Heap) : Prop := (IsZip h z TI TO .none ∧ IsPair h TI (.ref c1) (.ref c2) ∧ ∃ p q, IsPair h TO p q) ∧ h.IsListIter c1 a j ∧ h.IsTupleIter c2 b j
theorem sep_of {z TI TO c1 c2 a b : Addr} (D : ZipApart z TI TO c1 c2 a b) : ZipSep2 z TI TO c1 c2 [c1, a] [c2, b] where
  TIz := D.TIz
  TOz := D.TOz
  TITO := D.TITO
  TIi1 := D.TIi1
  mem1 := by simp
  zf1 := by simp [D.i1z.symm, D.l1z.symm]
  Tf1 := by simp [D.TOi1, D.l1TO.symm]
  TIi2 := D.TIi2
  mem2 := by simp
  zf2 := by simp [D.i2z.symm, D.l2z.symm]
  Tf2 := by simp [D.TOi2, D.l2TO.symm]
  sep1_2 := by simp [D.i12, D.l2i1.symm]
  sep2_1 := by simp [D.i12.symm, D.l1i2.symm]
theorem five {z TI TO c1 c2 y : Addr} (h : y ∈ [z, TI, TO, c1, c2]) : y = z ∨ y = TI ∨ y = TO ∨ y = c1 ∨ y = c2 := by simpa using h
theorem turn_zipM {P : Program} {w : World} {K : PySem.W.Frag} {elts : List Expr} {kk : Nat} {tpos : Pos} {a b z TI TO c1 c2 : Addr} (D : ZipApart z TI TO c1 c2 a b) :
    Turn P w K (.Tuple elts kk tpos) (ItzM K a b) [z, TI, TO, c1, c2] z (ZmAt a b z TI TO c1 c2) where
  mem := List.mem_cons_self
  obj := by
    rintro j h ⟨⟨g1, g2, _, _, g3⟩, ⟨o4, g4, _, d4⟩, ⟨o5, g5, _, d5⟩⟩ y hy
    rcases five hy with rfl | rfl | rfl | rfl | rfl
    · exact ⟨_, g1, nofun⟩
    · exact ⟨_, g2, nofun⟩
    · exact ⟨_, g3, nofun⟩
    · exact ⟨_, g4, fun v => by rw [d4]; nofun⟩
    · exact ⟨_, g5, fun v => by rw [d5]; nofun⟩
  keep := by
    rintro j h h' ⟨⟨g1, g2, p, q, g3⟩, g4, g5⟩ kp
    have at_ : ∀ y ∈ [z, TI, TO, c1, c2], ∀ o, h.get? y = some o → h'.get? y = some o := kp
    exact ⟨⟨at_ z (by simp) _ g1, at_ TI (by simp) _ g2, p, q, at_ TO (by simp) _ g3⟩, g4.at (at_ c1 (by simp)), g5.at (at_ c2 (by simp))⟩
  item := by
    rintro X rfl rfl rfl hc j pins s σ H E I hf ⟨⟨g1, g2, p0, q0, g3⟩, g4, g5⟩ ⟨ws, us, p, q, qa, qb, ep, eq⟩
    obtain ⟨m1, r1, l1, _⟩ := I.list qa
    obtain ⟨m2, r2, l2, _⟩ := I.tuple qb
    have lt1 : j < m1.toArray.size := by
      have := (List.getElem?_eq_some_iff.mp ep).1
      rw [r1.length] at this
      simpa using this
    have lt2 : j < m2.toArray.size := by
      have := (List.getElem?_eq_some_iff.mp eq).1
      rw [r2.length] at this
      simpa using this
    have zl : z < s.heap.objs.size := Heap.lt_size g1
    refine wpAny_pyNext_zipD2_item (sep_of D) (Draws.list (prog := X.prog) (w := X.w) (A := X.A.in1) (I.ok.hd hc) c1 a D.l1i1 m1.toArray) (Draws.tuple (prog := X.prog) (w := X.w) (A := X.A.in1) (I.ok.hd hc) c2 b D.l2i2 m2.toArray) g1 g2 g3 ⟨g4, l1.isList⟩ ⟨g5, l2⟩ lt1 lt2 fun x1 x2 h' tk e1 e2 z' TO' t1 t2 hT hs hk => ?_
    obtain ⟨u1, hu1, ru1⟩ := r1.get ep
    obtain ⟨u2, hu2, ru2⟩ := r2.get eq
    have v1 : x1 = u1 := by
      have e1 : m1.toArray[j]? = some x1 := e1
      rw [List.getElem?_toArray, hu1] at e1
      exact (Option.some.inj e1).symm
    have v2 : x2 = u2 := by
      have e2 : m2.toArray[j]? = some x2 := e2
      rw [List.getElem?_toArray, hu2] at e2
      exact (Option.some.inj e2).symm
    subst v1
    subst v2
    refine ⟨_, rfl, wpAny_letOwnedTupleGo_zip (s := { s with heap := h', toks := tk }) z' fun h2 zz sb => ?_⟩
    have nz : ∀ y, y ≠ z → h2.get? y = h'.get? y := fun y hy => sb.2 y hy
    have pair2 : h2.get? s.heap.objs.size = some { cls := .type "tuple", data := .seq #[x1, x2] } := (nz _ (Nat.ne_of_gt zl)).trans hT
    have fresh := I.hok.fresh (Nat.le_refl s.heap.objs.size)
    have J : Inv X pins σ (upd H s.heap.objs.size (.tup [p, q])) { s with heap := h2, toks := tk } := by
      refine I.turnedNew (ch := [z, TI, TO, c1, c2]) (fun y o no e => ?_) hf (Nat.le_refl _) ⟨(by show 2 ≤ sizeLine; decide), [x1, x2], .cons ru1 (.cons ru2 .nil), ⟨_, pair2, rfl, _, rfl⟩⟩
      have n5 : y ≠ z ∧ y ≠ TI ∧ y ≠ TO ∧ y ≠ c1 ∧ y ≠ c2 := by simpa using no
      exact (nz y n5.1).trans (hk y o n5.1 n5.2.2.1 n5.2.2.2.1 n5.2.2.2.2 e)
    refine ⟨.ref s.heap.objs.size, _, J, rfl, ⟨_, p, q, rfl, fresh, rfl, fun l hl => by rw [I.list_inj hl qa]; exact ep, fun l hl => by rw [I.tuple_inj hl qb]; exact eq⟩, ⟨⟨zz, ?_, x1, x2, ?_⟩, t1.1.at fun o e => (nz _ D.i1z).trans e, t2.1.at fun o e => (nz _ D.i2z).trans e⟩, fun y hy => ?_⟩
    · exact (nz _ D.TIz).trans (hk _ _ D.TIz D.TITO D.TIi1 D.TIi2 g2)
    · exact (nz _ D.TOz).trans TO'
    · have lt : y < s.heap.objs.size := by
        rcases five hy with rfl | rfl | rfl | rfl | rfl
        · exact zl
        · exact Heap.lt_size g2
        · exact Heap.lt_size g3
        · obtain ⟨_, e, _⟩ := g4; exact Heap.lt_size e
        · obtain ⟨_, e, _⟩ := g5; exact Heap.lt_size e
      rw [upd_ne (Nat.ne_of_lt lt)]
      exact (hf y hy).1
  done := by
    rintro X rfl rfl rfl hc j pins s σ H E I hf ⟨⟨g1, g2, p0, q0, g3⟩, g4, g5⟩ ⟨ws, us, qa, qb, hend⟩
    obtain ⟨m1, r1, l1, _⟩ := I.list qa
    obtain ⟨m2, r2, l2, _⟩ := I.tuple qb
    have n1 : m1.toArray.size = ws.length := by rw [r1.length]; simp
    have n2 : m2.toArray.size = us.length := by rw [r2.length]; simp
    refine wpAny_pyNext_zipD2_end (sep_of D) (Draws.list (prog := X.prog) (w := X.w) (A := X.A.in1) (I.ok.hd hc) c1 a D.l1i1 m1.toArray) (Draws.tuple (prog := X.prog) (w := X.w) (A := X.A.in1) (I.ok.hd hc) c2 b D.l2i2 m2.toArray) g1 g2 g3 ⟨g4, l1.isList⟩ ⟨g5, l2⟩ (by omega) (by omega) (by omega) fun h' tk hk => ⟨rfl, ?_⟩
    refine I.turnedL (ch := [z, TI, TO, c1, c2]) (fun y o no e => ?_) hf
    have n5 : y ≠ z ∧ y ≠ TI ∧ y ≠ TO ∧ y ≠ c1 ∧ y ≠ c2 := by simpa using no
    exact hk y o n5.1 n5.2.2.1 n5.2.2.2.1 n5.2.2.2.2 e
  self := fun A j s Q E st h => wpAny_pyIter_zip st.1.1 h
def iZipM (K : PySem.W.Frag) (ta : TA) : TI := fun σ H R => ta σ H fun vs H1 => ∃ a b ws us, vs = [.ref a, .ref b] ∧ SqL K H1 a ws ∧ SqT K H1 b us ∧ R (ItzM K a b) H1
theorem pi_zipM {X : Cx} {e f : Expr} {ta : TA} {p pos tpos : Pos} {elts : List Expr} {kk : Nat} (hg : Gl X "zip") (hm : X.mg "zip" = none) (ha : PA X [e, f] ta)
    (hs : starEach [e, f] X.env = (false, eval e X.env) :: starEach [f] X.env := by rfl) (hpl : (backTo pos (starEach [f] X.env)).any (·.1) = false := by rfl) :
    PI X (.Tuple elts kk tpos) (.Call (.Name "zip" p) [e, f] [] pos) (iZipM X.K ta) := by
  refine ⟨fun pins s σ H R I h => ?_⟩
  refine Call_ (ld_blt I hg hm PyProof.Rows.boot_zip (PyProof.Rows.callWith_type1 (thn (ha.run pos pins s σ H _ I h) ?_) hs hpl))
  rintro vals s1 ⟨vs, H1, I1, rv, a, b, ws, us, rfl, qa, qb, hR⟩
  cases rv with
  | cons q1 t1 =>
    cases t1 with
    | cons q2 t2 =>
      cases t2
      cases q1
      cases q2
      obtain ⟨m1, r1, l1, _⟩ := I1.list qa
      obtain ⟨m2, r2, l2, _⟩ := I1.tuple qb
      have big : ∀ y ∈ [s1.heap.objs.size + 4, s1.heap.objs.size + 2, s1.heap.objs.size + 3, s1.heap.objs.size, s1.heap.objs.size + 1], s1.heap.objs.size ≤ y := fun y hy => by
        rcases five hy with rfl | rfl | rfl | rfl | rfl <;> omega
      obtain ⟨o2, g2, _⟩ := id l2
      refine zip_begins2 (begins_list a m1.toArray) (begins_tuple b m2.toArray) l1.isList l2 fun h' z1 z2 z3 z4 z5 hsz hk => wpAny_pyIter_zip z1 ?_
      exact ⟨s1.heap.objs.size + 4, _, _, ItzM X.K a b, H1, rfl, I1.kept (t' := s1.toks) hk, turn_zipM (PySem.W.ktu_apart s1.heap.objs.size a b l1.lt (Heap.lt_size g2)), ⟨⟨z1, z2, _, _, z3⟩, ⟨_, z4, rfl, rfl⟩, ⟨_, z5, rfl, rfl⟩⟩, fun y hy => I1.fpOk (big y hy) (I1.hok.fresh (big y hy)), hR⟩
end DL
namespace DL
open PySem PySem.Spec L2
open PyProof.Rows hiding St
variable [HasL] [HasX] [HasH]
theorem wlk_ZM {K : PySem.W.Frag} {a a' : Addr} {d : D} {ds ds' : List D} (e : itemsL d = some ds) : Wlk K (ItzM K a a') (fun c H => Rep c H (.ref a) d ∧ Rep c H (.ref a') (.tup ds')) (zipL ds ds') := by
  have hl := zipL_length ds ds'
  refine ⟨fun i c H hK hi r => ?_, fun c H hK r => ?_, fun i c H x H' m hK M r hi y => ?_⟩
  · obtain ⟨b, vs, eb, h1, h2⟩ := rep_itemsL r.1 e
    obtain ⟨b', vs', eb', _, h1', h2'⟩ := rep_tup (b := false) r.2.f
    cases eb
    cases eb'
    rw [hK] at h1
    exact ⟨vs, vs', vs[i]'(by rw [h2.length]; omega), vs'[i]'(by rw [h2'.length]; omega), h1, SqT.of h1', List.getElem?_eq_getElem _, List.getElem?_eq_getElem _⟩
  · obtain ⟨b, vs, eb, h1, h2⟩ := rep_itemsL r.1 e
    obtain ⟨b', vs', eb', _, h1', h2'⟩ := rep_tup (b := false) r.2.f
    cases eb
    cases eb'
    rw [hK] at h1
    refine ⟨vs, vs', h1, SqT.of h1', ?_⟩
    rw [h2.length, h2'.length, hl]
  · obtain ⟨b, vs, eb, h1, h2⟩ := rep_itemsL r.1 e
    obtain ⟨b', vs', eb', _, h1', h2'⟩ := rep_tup (b := false) r.2.f
    cases eb
    cases eb'
    rw [hK] at h1
    obtain ⟨T, z, z', rfl, hT, rfl, e2, e3⟩ := y
    obtain ⟨dd, h3, h4⟩ := h2.get (e2 vs h1)
    obtain ⟨dd', h3', h4'⟩ := h2'.get (e3 vs' (SqT.of h1'))
    have st : Stp c c H (upd H T (.tup [z, z'])) := Stp.same (same_upd hT)
    exact ⟨same_upd hT, _, zipL_get h3 h3', .tup (fresh_cs M hT) upd_same (.cons (h4.step st) (.cons (h4'.step st) .nil))⟩
def fZipM : List D → Mu → Out (List D)
  | [d, .tup l'], m => (match itemsL d with
    | some l => .ok (zipL l l') m
    | none => .stuck)
  | _, _ => .stuck
theorem pid_zipM {X : Cx} {W : WX} {e f : Expr} {mr : SA} {p pos : Pos} {elts : List Expr} {kk : Nat} {tpos : Pos} (hm : X.mg "zip" = none) (ha : PDA X W false [e, f] mr) (hg : Gl X "zip" := by rfl) (hs : starEach [e, f] X.env = (false, eval e X.env) :: starEach [f] X.env := by rfl) (hpl : (backTo pos (starEach [f] X.env)).any (·.1) = false := by rfl) :
    PID X W (.Tuple elts kk tpos) (.Call (.Name "zip" p) [e, f] [] pos) (mRng fZipM mr) := by
  obtain ⟨t, h1, h2⟩ := ha
  refine ⟨_, pi_zipM hg hm h1 hs hpl, fun c H σ ρ μ hK k R q => ?_⟩
  refine h2 c H σ ρ μ hK k _ (PostG.bnd q fun ds μ1 vs c1 H1 s1 M1 r1 p1 => ?_)
  have hK1 : c1.K = X.K := s1.K.trans hK
  unfold fZipM at p1
  split at p1
  · rename_i d l'
    cases e1 : itemsL d with
    | none => rw [e1] at p1; exact p1.elim
    | some l =>
      rw [e1] at p1
      cases r1 with
      | cons q1 t1 =>
        cases t1 with
        | cons q2 t2 =>
          cases t2
          obtain ⟨a, ws, rfl, h3, h4⟩ := rep_itemsL q1.rep e1
          obtain ⟨a', ws', rfl, _, h3', h4'⟩ := rep_tup q2
          rw [hK1] at h3
          exact ⟨a, a', ws, ws', rfl, h3, SqT.of h3', p1 _ c1 H1 (Stp.refl _ _) M1 ⟨[.ref a, .ref a'], [d, .tup l'], .two (wlk_ZM e1), .cons q1.rep (.cons q2.rep .nil)⟩⟩
  · exact p1.elim
end DL
/-! # Dd7: is, is not of truth values -/
namespace DL
open PySem PySem.Spec L2
open PyProof.Rows hiding St
variable [HasL] [HasX] [HasH]
def fIsB : D → D → Mu → Out D
  | .bl i, .bl j, m => .ok (.bl (decide (i = j))) m
  | _, _, _ => .stuck
def fNotB : D → D → Mu → Out D
  | .bl i, .bl j, m => .ok (.bl (!decide (i = j))) m
  | _, _, _ => .stuck
section
variable {K : PySem.W.Frag} {W : WX} {b : Bool}
theorem rel_isB : RelO K W b (fun x y H Q => ∃ i j, x = .bl i ∧ y = .bl j ∧ Q (.bl (decide (i = j))) H) fIsB := by
  intro c H σ μ v w d e hK M rv rw_ Q p
  cases d with
  | bl i =>
    cases e with
    | bl j => exact ⟨i, j, rep_bl rv, rep_bl rw_, post_bl M p⟩
    | _ => exact p.elim
  | _ => exact p.elim
theorem rel_notB : RelO K W b (fun x y H Q => ∃ i j, x = .bl i ∧ y = .bl j ∧ Q (.bl (!decide (i = j))) H) fNotB := by
  intro c H σ μ v w d e hK M rv rw_ Q p
  cases d with
  | bl i =>
    cases e with
    | bl j => exact ⟨i, j, rep_bl rv, rep_bl rw_, post_bl M p⟩
    | _ => exact p.elim
  | _ => exact p.elim
end
section
variable {X : Cx} {W : WX} {b : Bool} {e f : Expr} {ma mb : SE} {pos : Pos}
theorem pd_isB (ha : PD X W true e ma) (hb : PD X W true f mb) : PD X W b (.Compare e [.Is] [f] pos) (mOp fIsB ma mb) := pd_cmp op_is_bl rel_isB ha hb
theorem pd_notB (ha : PD X W true e ma) (hb : PD X W true f mb) : PD X W b (.Compare e [.IsNot] [f] pos) (mOp fNotB ma mb) := pd_cmp op_isnot_bl rel_notB ha hb
theorem pdt_isB (ha : PD X W true e ma) (hb : PD X W true f mb) : PDT X W (.Compare e [.Is] [f] pos) (mTest (mOp fIsB ma mb)) := pdt_cmp op_is_bl rel_isB ha hb
theorem pdt_notB (ha : PD X W true e ma) (hb : PD X W true f mb) : PDT X W (.Compare e [.IsNot] [f] pos) (mTest (mOp fNotB ma mb)) := pdt_cmp op_isnot_bl rel_notB ha hb
end
end DL
/-! # Dd8: several names at once, of which some get new lists or dicts that the frame changes -/
namespace DL
open PySem PySem.Spec L2
open PyProof.Rows hiding St
variable [HasL] [HasX] [HasH]
/-! ### one step on, with new things of the frame's own -/
structure StpB (c c' : Ct) (H H' : Hp) : Prop where
  s : Stp c ⟨c'.K, c'.cs, c.br⟩ H H'
  br : ∃ more, c'.br = more ++ c.br ∧ ∀ x ∈ more, H x = none
theorem StpB.refl (c : Ct) (H : Hp) : StpB c c H H := ⟨Stp.refl _ _, [], rfl, fun x h => by simp at h⟩
theorem StpB.of {c c' : Ct} {H H' : Hp} (s : Stp c c' H H') : StpB c c' H H' := ⟨by have := s.lessB c.br; exact this, [], by rw [s.br]; rfl, fun x h => by simp at h⟩
theorem none_back {c c' : Ct} {H H' : Hp} (s : Stp c c' H H') {a : Addr} (h : H' a = none) : H a = none := by
  cases e : H a with
  | none => rfl
  | some o =>
    obtain ⟨o', e'⟩ := s.there a o e
    rw [h] at e'
    cases e'
theorem StpB.trans {c c1 c2 : Ct} {H H1 H2 : Hp} (a : StpB c c1 H H1) (b : StpB c1 c2 H1 H2) : StpB c c2 H H2 := by
  obtain ⟨m1, e1, f1⟩ := a.br
  obtain ⟨m2, e2, f2⟩ := b.br
  refine ⟨a.s.trans (b.s.lessB c.br), m2 ++ m1, by rw [e2, e1, List.append_assoc], fun x hx => ?_⟩
  rcases List.mem_append.mp hx with z | z
  · exact none_back a.s (f2 x z)
  · exact f1 x z
theorem StpB.new {c c' : Ct} {H H' : Hp} {a : Addr} (s : Stp c c' H H') (hn : H a = none) : StpB c ⟨c'.K, c'.cs, a :: c'.br⟩ H H' := by
  refine ⟨s.lessB c.br, [a], by rw [s.br]; rfl, fun x h => ?_⟩
  rw [List.mem_singleton.mp h]
  exact hn
theorem rep_news {c : Ct} {H : Hp} {v : V} {d : D} : ∀ more : List Addr, (∀ x ∈ more, H x = none) → Rep c H v d → Rep ⟨c.K, c.cs, more ++ c.br⟩ H v d
  | [], _, r => r
  | a :: more, h, r => Rep.more (c := ⟨c.K, c.cs, more ++ c.br⟩) (Stp.refl _ H) (h a List.mem_cons_self) (rep_news more (fun x hx => h x (List.mem_cons_of_mem _ hx)) r)
theorem oat_news {c : Ct} {H : Hp} {b : Addr} {o : OwnC} (hc : b ∉ c.cs) : ∀ more : List Addr, (∀ x ∈ more, H x = none) → OAt c H b o → OAt ⟨c.K, c.cs, more ++ c.br⟩ H b o
  | [], _, r => r
  | a :: more, h, r => OAt.more (c := ⟨c.K, c.cs, more ++ c.br⟩) (Stp.refl _ H) (h a List.mem_cons_self) hc (oat_news hc more (fun x hx => h x (List.mem_cons_of_mem _ hx)) r)
theorem stpB_wide {c c' : Ct} {H H' : Hp} {more : List Addr} (s : Stp c ⟨c'.K, c'.cs, c.br⟩ H H') (e : c'.br = more ++ c.br) : Stp ⟨c.K, c.cs, more ++ c.br⟩ c' H H' := by
  have := s.lessB (more ++ c.br)
  have e2 : (⟨c'.K, c'.cs, more ++ c.br⟩ : Ct) = c' := by rw [← e]
  rw [← e2]
  exact this
theorem Rep.stpB {c c' : Ct} {H H' : Hp} {v : V} {d : D} (r : Rep c H v d) (s : StpB c c' H H') : Rep c' H' v d := by
  obtain ⟨more, e, f⟩ := s.br
  exact (rep_news more f r).step (stpB_wide s.s e)
theorem OAt.stpB {c c' : Ct} {H H' : Hp} {a : Addr} {o : OwnC} (r : OAt c H a o) (hc : a ∉ c.cs) (s : StpB c c' H H') : OAt c' H' a o := by
  obtain ⟨more, e, f⟩ := s.br
  exact (oat_news hc more f r).step (stpB_wide s.s e) hc
/-- the frame's state stands -/
theorem FrR.news {B : Bs} {c c' : Ct} {H H' : Hp} {σ : St} {ρ : Env} {μ μ' : Mu} {a : Addr} (f : FrR B c H σ ρ μ) (s : Stp c c' H H') (hn : H a = none) (M : MRel ⟨c'.K, c'.cs, a :: c'.br⟩ H' μ') : FrR B ⟨c'.K, c'.cs, a :: c'.br⟩ H' σ ρ μ' := by
  have k := f.ok
  refine ⟨⟨⟨fun i d h => ?_, fun i l h => ?_, k.e.apart⟩, M, k.len⟩, f.stp.trans (s.lessB B.c.br), ?_, f.own0, f.held.more s hn, f.brH⟩
  · obtain ⟨v, h1, h2⟩ := k.e.val i d h
    exact ⟨v, h1, h2.more s hn⟩
  · obtain ⟨b, h1, h2, h3, h4⟩ := k.e.own i l h
    obtain ⟨u, hu, _⟩ := h4.there
    exact ⟨b, h1, List.mem_cons_of_mem _ (by rw [s.br]; exact h2), s.notin h3 hu, h4.more s hn h3⟩
  · obtain ⟨more, e⟩ := f.br
    exact ⟨a :: more, by show a :: c'.br = _; rw [s.br, e]; rfl⟩
/-- a thing of the frame's own gets a name -/
theorem FrR.nameOwn {B : Bs} {c : Ct} {H : Hp} {σ : St} {ρ : Env} {μ : Mu} {i : Nat} {a : Addr} {o : OwnC} (f : FrR B c H σ ρ μ) (hb : a ∈ c.br) (hc : a ∉ c.cs) (r : OAt c H a o) (h0 : B.H a = none)
    (ap : ∀ (j : Nat) (o' : OwnC), ρ[j]? = some (some (.own o')) → σ[j]? ≠ some (some (.ref a))) : FrR B c H (σ.set i (some (.ref a))) (ρ.set i (some (.own o))) μ := by
  have k := f.ok
  refine ⟨⟨⟨fun j e h => ?_, fun j es h => ?_, fun j j' es es' x ne h h' q => ?_⟩, k.m, by simp [k.len]⟩, f.stp, f.br, fun j es x h q => ?_, f.held, f.brH⟩
  · rcases set_get h with ⟨rfl, hl, z⟩ | ⟨ne, z⟩
    · cases z
    · rw [set_other ne]
      exact k.e.val j e z
  · rcases set_get h with ⟨rfl, hl, z⟩ | ⟨ne, z⟩
    · cases z
      exact ⟨a, set_same (by rw [← k.len]; exact hl), hb, hc, r⟩
    · rw [set_other ne]
      exact k.e.own j es z
  · rcases set_get h with ⟨rfl, hl, z⟩ | ⟨ne1, z⟩
    · rcases set_get h' with ⟨rfl, hl', z'⟩ | ⟨ne2, z'⟩
      · exact absurd rfl ne
      · rw [set_same (by rw [← k.len]; exact hl)] at q
        cases q
        rw [set_other ne2]
        exact ap j' es' z'
    · rcases set_get h' with ⟨rfl, hl', z'⟩ | ⟨ne2, z'⟩
      · rw [set_other ne1] at q
        rw [set_same (by rw [← k.len]; exact hl')]
        intro q2
        cases q2
        exact ap j es z q
      · rw [set_other ne1] at q
        rw [set_other ne2]
        exact k.e.apart j j' es es' x ne z z' q
  · rcases set_get h with ⟨rfl, hl, z⟩ | ⟨ne, z⟩
    · rw [set_same (by rw [← k.len]; exact hl)] at q
      cases q
      exact h0
    · rw [set_other ne] at q
      exact f.own0 j es x z q
/-! ### a new thing -/
abbrev SOw := Env → Mu → Out OwnC
def PostOw (c : Ct) (σ : St) (H : Hp) (W : WX) (o : Out OwnC) (Q : VK) : Prop := match o with
  | .ok o m => ∀ a c' H', Stp c c' H H' → H a = none → MRel ⟨c'.K, c'.cs, a :: c'.br⟩ H' m → a ∉ c'.cs → OAt ⟨c'.K, c'.cs, a :: c'.br⟩ H' a o → Q (.ref a) H'
  | .exn x fs m => ∀ cls dd c' H', Stp c c' H H' → MRel c' H' m → ExR c' H' cls dd x fs → W cls dd σ H'
  | .stuck => False
def SimOw (K : PySem.W.Frag) (W : WX) (t : TE) (m : SOw) : Prop := ∀ c H σ ρ μ, c.K = K → Ok c H σ ρ μ → ∀ Q, PostOw c σ H W (m ρ μ) Q → t σ H Q
def PDOw (X : Cx) (W : WX) (e : Expr) (m : SOw) : Prop := ∃ t, PE X e t ∧ SimOw X.K W t m
def oLst (m : SN) : SOw := fun ρ μ => (m ρ μ).bnd fun ds μ1 => .ok (.lst ds) μ1
def oDicN : SOw := fun _ μ => .ok (.dic [] []) μ
theorem PDN.ow {X : Cx} {W : WX} {e : Expr} {mn : SN} (h : PDN X W e mn) : PDOw X W e (oLst mn) := by
  obtain ⟨t, h1, h2⟩ := h
  refine ⟨t, h1, fun c H σ ρ μ hK k Q p => h2 c H σ ρ μ hK k Q ?_⟩
  unfold oLst at p
  cases q : mn ρ μ with
  | ok ds m =>
    rw [q] at p
    exact fun a vs c' H' s hn M ha hc r => p a c' H' s hn M hc ⟨vs, ha, r⟩
  | exn x fs m => rw [q] at p; exact p
  | stuck => rw [q] at p; exact p
theorem ow_dicN {X : Cx} {W : WX} {p : Pos} : PDOw X W (.Dict [] [] p) oDicN := by
  refine ⟨_, pe_dnewK, fun c H σ ρ μ hK k Q q => ?_⟩
  intro a ha
  have q : ∀ a c' H', Stp c c' H H' → H a = none → MRel ⟨c'.K, c'.cs, a :: c'.br⟩ H' μ → a ∉ c'.cs → OAt ⟨c'.K, c'.cs, a :: c'.br⟩ H' a (.dic [] []) → Q (.ref a) H' := q
  have st : Stp c c H (upd H a (.dK [])) := Stp.same (same_upd ha)
  exact q a c _ st ha (k.brO (u := .dK []) ha).m (fresh_cs k.m ha) (.inl ⟨[], upd_same, rfl, .nil⟩)
/-! ### a row of values and new things -/
inductive OV where
  | val (d : D) | own (o : OwnC)
def OV.slot : OV → Slot
  | .val d => .val d
  | .own o => .own o
abbrev SM := Env → Mu → Out (List OV)
def mmNil : SM := fun _ μ => .ok [] μ
def mmVal (m : SE) (r : SM) : SM := fun ρ μ => (m ρ μ).bnd fun d μ1 => (r ρ μ1).bnd fun os μ2 => .ok (.val d :: os) μ2
def mmOwn (m : SOw) (r : SM) : SM := fun ρ μ => (m ρ μ).bnd fun o μ1 => (r ρ μ1).bnd fun os μ2 => .ok (.own o :: os) μ2
def RepOs (c : Ct) (H0 H : Hp) : List V → List OV → Prop
  | [], [] => True
  | v :: vs, .val d :: os => Rep c H v d ∧ RepOs c H0 H vs os
  | v :: vs, .own o :: os => (∃ a, v = .ref a ∧ a ∈ c.br ∧ a ∉ c.cs ∧ OAt c H a o ∧ H0 a = none ∧ ∀ (j : Nat) (o' : OwnC), os[j]? = some (.own o') → vs[j]? ≠ some (.ref a)) ∧ RepOs c H0 H vs os
  | _, _ => False
theorem RepOs.len {c : Ct} {H0 H : Hp} : ∀ {vs : List V} {os : List OV}, RepOs c H0 H vs os → vs.length = os.length
  | [], [], _ => rfl
  | v :: vs, .val d :: os, h => by rw [List.length_cons, List.length_cons, RepOs.len h.2]
  | v :: vs, .own o :: os, h => by rw [List.length_cons, List.length_cons, RepOs.len h.2]
  | [], _ :: _, h => h.elim
  | _ :: _, [], h => h.elim
theorem RepOs.base {c : Ct} {H0 H1 H : Hp} (hb : ∀ a, H1 a = none → H0 a = none) : ∀ {vs : List V} {os : List OV}, RepOs c H1 H vs os → RepOs c H0 H vs os
  | [], [], _ => trivial
  | v :: vs, .val d :: os, h => ⟨h.1, RepOs.base hb h.2⟩
  | v :: vs, .own o :: os, h => by
    obtain ⟨⟨a, h1, h2, h3, h4, h5, h6⟩, h7⟩ := h
    exact ⟨⟨a, h1, h2, h3, h4, hb a h5, h6⟩, RepOs.base hb h7⟩
  | [], _ :: _, h => h.elim
  | _ :: _, [], h => h.elim
theorem RepOs.new {c : Ct} {H0 H : Hp} : ∀ {vs : List V} {os : List OV}, RepOs c H0 H vs os → ∀ (j : Nat) (o : OwnC) (a : Addr), os[j]? = some (.own o) → vs[j]? = some (.ref a) → H0 a = none
  | [], [], _, j, o, a, h, _ => by simp at h
  | v :: vs, .val d :: os, h, j, o, a, e1, e2 => by
    cases j with
    | zero => simp at e1
    | succ j => exact RepOs.new h.2 j o a (by simpa using e1) (by simpa using e2)
  | v :: vs, .own o' :: os, h, j, o, a, e1, e2 => by
    cases j with
    | zero =>
      obtain ⟨⟨b, h1, h2, h3, h4, h5, h6⟩, h7⟩ := h
      simp at e2
      rw [h1] at e2
      cases e2
      exact h5
    | succ j => exact RepOs.new h.2 j o a (by simpa using e1) (by simpa using e2)
  | [], _ :: _, h, _, _, _, _, _ => h.elim
  | _ :: _, [], h, _, _, _, _, _ => h.elim
def PostM (B : Bs) (c : Ct) (H : Hp) (σ : St) (ρ : Env) (W : WX) (o : Out (List OV)) (Q : List V → Hp → Prop) : Prop := match o with
  | .ok os m => ∀ vs c' H', StpB c c' H H' → FrR B c' H' σ ρ m → RepOs c' H H' vs os → Q vs H'
  | .exn x fs m => ∀ cls dd c' H', FrR B c' H' σ ρ m → ExR c' H' cls dd x fs → W cls dd σ H'
  | .stuck => False
def SimM (K : PySem.W.Frag) (W : WX) (t : TA) (m : SM) : Prop := ∀ B c H σ ρ μ, c.K = K → FrR B c H σ ρ μ → ∀ Q, PostM B c H σ ρ W (m ρ μ) Q → t σ H Q
def PDM (X : Cx) (W : WX) (es : List Expr) (m : SM) : Prop := ∃ t, PA X es t ∧ SimM X.K W t m
section
variable {X : Cx} {W : WX} {e : Expr} {es : List Expr} {pos : Pos}
theorem pdm_nil : PDM X W [] mmNil := ⟨_, pa_nil, fun B c H σ ρ μ hK f Q p => by
  have p : ∀ vs c' H', StpB c c' H H' → FrR B c' H' σ ρ μ → RepOs c' H H' vs [] → Q vs H' := p
  exact p [] c H (StpB.refl c H) f trivial⟩
/-- the rest of the row behind a first thing -/
theorem PostM.rest {B : Bs} {c c1 : Ct} {H H1 : Hp} {σ : St} {ρ : Env} {W : WX} {o : Out (List OV)} {hd : OV} {v : V} {Q : List V → Hp → Prop} (s : StpB c c1 H H1)
    (p : PostM B c H σ ρ W (o.bnd fun os μ2 => .ok (hd :: os) μ2) Q)
    (h : ∀ vs os c2 H2, StpB c1 c2 H1 H2 → RepOs c2 H1 H2 vs os → RepOs c2 H H2 (v :: vs) (hd :: os)) : PostM B c1 H1 σ ρ W o fun vs H2 => Q (v :: vs) H2 := by
  cases o with
  | ok os m =>
    intro vs c2 H2 s2 f2 r2
    exact p (v :: vs) c2 H2 (s.trans s2) f2 (h vs os c2 H2 s2 r2)
  | exn x fs m => exact p
  | stuck => exact p
theorem pdm_val {ma : SE} {mr : SM} (ha : PD X W false e ma) (hr : PDM X W es mr) (hs : starEach (e :: es) X.env = (false, eval e X.env) :: starEach es X.env := by rfl) : PDM X W (e :: es) (mmVal ma mr) := by
  obtain ⟨t, a1, a2⟩ := ha
  obtain ⟨u, b1, b2⟩ := hr
  refine ⟨_, pa_cons a1 b1 hs, fun B c H σ ρ μ hK f Q p => ?_⟩
  refine a2 c H σ ρ μ hK f.ok _ ?_
  unfold mmVal at p
  cases q : ma ρ μ with
  | ok d m =>
    rw [q] at p
    intro v c1 H1 s M r
    have f1 := f.step s M
    refine b2 B c1 H1 σ ρ m (s.K.trans hK) f1 _ (PostM.rest (StpB.of s) p fun vs os c2 H2 s2 r2 => ⟨r.rep.stpB s2, r2.base fun a => none_back s⟩)
  | exn x fs m =>
    rw [q] at p
    exact fun cls dd c' H' s M r => p cls dd c' H' (f.step s M) r
  | stuck => rw [q] at p; exact p
theorem pdm_own {mo : SOw} {mr : SM} (ha : PDOw X W e mo) (hr : PDM X W es mr) (hs : starEach (e :: es) X.env = (false, eval e X.env) :: starEach es X.env := by rfl) : PDM X W (e :: es) (mmOwn mo mr) := by
  obtain ⟨t, a1, a2⟩ := ha
  obtain ⟨u, b1, b2⟩ := hr
  refine ⟨_, pa_cons a1 b1 hs, fun B c H σ ρ μ hK f Q p => ?_⟩
  refine a2 c H σ ρ μ hK f.ok _ ?_
  unfold mmOwn at p
  cases q : mo ρ μ with
  | ok o m =>
    rw [q] at p
    intro a c1 H1 s hn M hc r
    have f1 := f.news s hn M
    obtain ⟨u0, hu, _⟩ := r.there
    refine b2 B ⟨c1.K, c1.cs, a :: c1.br⟩ H1 σ ρ m (s.K.trans hK) f1 _ (PostM.rest (StpB.new s hn) p fun vs os c2 H2 s2 r2 => ⟨⟨a, rfl, ?_, s2.s.notin hc hu, r.stpB hc s2, hn, fun j o' e1 e2 => ?_⟩, r2.base fun a => none_back s⟩)
    · obtain ⟨more, e, _⟩ := s2.br
      rw [e]
      exact List.mem_append_right _ List.mem_cons_self
    · have := r2.new j o' a e1 e2
      rw [hu] at this
      cases this
  | exn x fs m =>
    rw [q] at p
    exact fun cls dd c' H' s M r => p cls dd c' H' (f.step s M) r
  | stuck => rw [q] at p; exact p
end
/-! ### the names get them -/
def setMany (ρ : Env) : List Nat → List OV → Env
  | i :: is, o :: os => setMany (ρ.set i (some o.slot)) is os
  | _, _ => ρ
def setManyV (σ : St) : List Nat → List V → St
  | i :: is, v :: vs => setManyV (σ.set i (some v)) is vs
  | _, _ => σ
theorem FrR.many {B : Bs} {c : Ct} {H0 H : Hp} (hB : ∀ a, H0 a = none → B.H a = none) : ∀ (is : List Nat) (vs : List V) (os : List OV) {σ : St} {ρ : Env} {μ : Mu}, FrR B c H σ ρ μ → RepOs c H0 H vs os →
    (∀ (j : Nat) (o : OwnC) (a : Addr), os[j]? = some (.own o) → vs[j]? = some (.ref a) → ∀ (i : Nat) (o' : OwnC), ρ[i]? = some (some (.own o')) → σ[i]? ≠ some (some (.ref a))) → FrR B c H (setManyV σ is vs) (setMany ρ is os) μ
  | [], vs, os, σ, ρ, μ, f, r, _ => by cases vs <;> cases os <;> exact f
  | i :: is, [], [], σ, ρ, μ, f, r, _ => f
  | i :: is, v :: vs, .val d :: os, σ, ρ, μ, f, r, ap => by
    refine FrR.many hB is vs os (f.setv (i := i) r.1) r.2 fun j o a e1 e2 k o' h q => ?_
    rcases set_get h with ⟨rfl, hl, z⟩ | ⟨ne, z⟩
    · cases z
    · rw [set_other ne] at q
      exact ap (j + 1) o a (by simpa using e1) (by simpa using e2) k o' z q
  | i :: is, v :: vs, .own o :: os, σ, ρ, μ, f, r, ap => by
    obtain ⟨⟨a, rfl, h2, h3, h4, h5, h6⟩, h7⟩ := r
    refine FrR.many hB is vs os (f.nameOwn (i := i) h2 h3 h4 (hB a h5) (ap 0 o a rfl rfl)) h7 fun j o1 b e1 e2 k o' h q => ?_
    rcases set_get h with ⟨rfl, hl, z⟩ | ⟨ne, z⟩
    · have hl' : i < σ.length := by rw [← f.ok.len]; exact hl
      rw [set_same hl'] at q
      cases q
      exact h6 j o1 e1 e2
    · rw [set_other ne] at q
      exact ap (j + 1) o1 b (by simpa using e1) (by simpa using e2) k o' z q
  | _ :: _, [], _ :: _, _, _, _, _, r, _ => r.elim
  | _ :: _, _ :: _, [], _, _, _, _, r, _ => r.elim
theorem apart0 {B : Bs} {c c' : Ct} {H H' : Hp} {σ : St} {ρ : Env} {μ : Mu} {vs : List V} {os : List OV} (f : FrR B c H σ ρ μ) (r : RepOs c' H H' vs os) (j : Nat) (o : OwnC) (a : Addr) (e1 : os[j]? = some (.own o)) (e2 : vs[j]? = some (.ref a)) (i : Nat) (o' : OwnC) (h : ρ[i]? = some (some (.own o'))) : σ[i]? ≠ some (some (.ref a)) := by
  intro q
  have hn := r.new j o a e1 e2
  obtain ⟨b, h1, h2, h3, h4⟩ := f.ok.e.own i o' h
  rw [q] at h1
  cases h1
  obtain ⟨u, hu, _⟩ := h4.there
  rw [hn] at hu
  cases hu
def sParN (is : List Nat) (mr : SM) : SS := fun ρ μ => (mr ρ μ).go ρ fun os μ1 => if os.length = is.length then .nx (setMany ρ is os) μ1 else .stuck
theorem PostM.names {B : Bs} {c : Ct} {H : Hp} {σ : St} {ρ : Env} {μ : Mu} {W : WX} {D : Ends} {is : List Nat} {mr : SM} (f : FrR B c H σ ρ μ) (p : PostS B W (sParN is mr ρ μ) D) {Q : List V → Hp → Prop}
    (h : ∀ vs c' H' ρ' μ', vs.length = is.length → FrR B c' H' σ ρ μ' → FrR B c' H' (setManyV σ is vs) ρ' μ' → PostS B W (.nx ρ' μ') D → Q vs H') : PostM B c H σ ρ W (mr ρ μ) Q := by
  unfold sParN at p
  cases q : mr ρ μ with
  | ok os m =>
    rw [q] at p
    intro vs c' H' s f' r
    have p : PostS B W (if os.length = is.length then .nx (setMany ρ is os) m else .stuck) D := p
    by_cases hl : os.length = is.length
    · rw [if_pos hl] at p
      exact h vs c' H' _ m (by rw [r.len, hl]) f' (f'.many (H0 := H) (fun a => none_back f.stp) is vs os r (apart0 f r)) p
    · rw [if_neg hl] at p
      exact p.elim
  | exn x fs m =>
    rw [q] at p
    exact fun cls dd c' H' f' r => p c' H' σ cls dd f' r
  | stuck => rw [q] at p; exact p
section
variable {X : Cx} {W : WX} {e f : Expr} {es : List Expr} {pos : Pos}
/-- both names are the frame's own alone -/
theorem psd_parN {i j : Nat} {x y : Str} {px py pt : Pos} {kt k2 : Nat} {pt2 : Pos} {mr : SM} (hc : X.calm = true) (hN : X.N.Nodup) (ha : PDM X W [e, f] mr) (hi : X.N[i]? = some x := by rfl) (hj : X.N[j]? = some y := by rfl) (hij : i ≠ j := by decide)
    (hx : X.env.scope.names.lookup x = some .local := by rfl) (hy : X.env.scope.names.lookup y = some .local := by rfl)
    (hw : swappedStores [.Tuple [.Name x px, .Name y py] kt pt] (.Tuple [e, f] k2 pt2) X.env = pure (some [x, y]) := by rfl)
    (hs : swapsWithSole [.Tuple [.Name x px, .Name y py] kt pt] (.Tuple [e, f] k2 pt2) pos.line X.env = pure false := by rfl) : PSD X W (.Assign [.Tuple [.Name x px, .Name y py] kt pt] (.Tuple [e, f] k2 pt2) pos) (sParN [i, j] mr) := by
  obtain ⟨t, a1, a2⟩ := ha
  refine ⟨_, ps_par hc hN hi hj hij hx hy a1 hw hs, fun B c H σ ρ μ hK f D p => ?_⟩
  refine a2 B c H σ ρ μ hK f _ (PostM.names f p fun vs c' H' ρ' μ' hl _ f2 p2 => ?_)
  match vs, hl with
  | [v, w], _ => exact ⟨v, w, rfl, p2 c' H' _ f2⟩
/-- names, each stored into -/
def gNames : List Nat → TGs
  | [] => gNil
  | i :: is => gCons (gName i) (gNames is)
def PGN (X : Cx) (es : List Expr) (is : List Nat) : Prop := PGs X es (gNames is)
theorem pgn_nil : PGN X [] [] := pgs_nil
theorem pgn_cons {i : Nat} {x : Str} {pos : Pos} {is : List Nat} (hN : X.N.Nodup) (h2 : PGN X es is) (hi : X.N[i]? = some x := by rfl) (hx : Loc X.env.scope x := by first | exact Or.inl rfl | exact Or.inr rfl) (hf : X.fn x = true ∨ X.env.scope.names.lookup x = some .local := by first | exact .inl rfl | exact .inr rfl | assumption)
    (hs : (assignEach (.Name x pos :: es) X.env).map (·.2) = assign (.Name x pos) X.env :: (assignEach es X.env).map (·.2) := by rfl) : PGN X (.Name x pos :: es) (i :: is) := pgs_cons (pg_name hN hi hx hf) h2 hs
theorem gNames_ok : ∀ (is : List Nat) (vs : List V) (σ : St) (H : Hp) (Q : St → Hp → Prop), vs.length = is.length → Q (setManyV σ is vs) H → gNames is vs σ H Q
  | [], vs, σ, H, Q, hl, q => by
    have : vs = [] := List.length_eq_zero_iff.mp hl
    subst this
    exact ⟨rfl, q⟩
  | i :: is, v :: vs, σ, H, Q, hl, q => ⟨v, vs, rfl, gNames_ok is vs (σ.set i (some v)) H Q (by simpa using hl) q⟩
/-- by a tuple that is taken apart -/
theorem psd_asgN {ts : List Expr} {kt k2 : Nat} {pt pt2 : Pos} {mr : SM} {is : List Nat} (hc : X.calm = true) (ha : PDM X W es mr) (hg : PGN X ts is) (hz : is.length ≤ 100 := by decide) (hn : (assignEach ts X.env).length = is.length := by rfl) (hst : (assignEach ts X.env).findIdx? (·.1) = none := by rfl)
    (hs : swapsWithSole [.Tuple ts kt pt] (.Tuple es k2 pt2) pos.line X.env = pure false := by rfl) (hw : swappedStores [.Tuple ts kt pt] (.Tuple es k2 pt2) X.env = pure none := by rfl)
    (h1 : (assignEach [.Tuple ts kt pt] X.env).map (·.2) = [assign (.Tuple ts kt pt) X.env] := by rfl) : PSD X W (.Assign [.Tuple ts kt pt] (.Tuple es k2 pt2) pos) (sParN is mr) := by
  obtain ⟨t, a1, a2⟩ := ha
  refine ⟨_, ps_asg (pe_tup a1) (pg_tup hc hg hn hst) hs hw h1, fun B c H σ ρ μ hK f D p => ?_⟩
  refine a2 B c H σ ρ μ hK f _ (PostM.names f p fun vs c' H' ρ' μ' hl f1 f2 p2 => ⟨?_, fun T hT => ?_⟩)
  · rw [hl]
    have : (100 : Nat) ≤ sizeLine := by rw [sizeLine_eq]; decide
    omega
  · refine ⟨T, vs, rfl, SqT.of upd_same, hl, gNames_ok is vs σ _ _ hl ?_⟩
    have st : Stp c' c' H' (upd H' T (.tup vs)) := Stp.same (same_upd hT)
    exact p2 c' _ _ (f2.step st (f2.ok.m.same (same_upd hT)))
end
end DL
/-! # Pl1: plain reasoning about what printed programs do -/
namespace DL
open PySem PySem.Spec L2
open PyProof.Rows hiding St
/-! ### comprehensions, loops over encoded lists -/
theorem compL_map {α : Type} {tg : TgD} {mt : ST'} {me : SE} {ρ0 : Env} {μ : Mu} (enc : α → D) (keep : α → Bool) (val : α → D) : ∀ (xs : List α) (acc : List D),
    (∀ x ∈ xs, ∃ ρ1, tg (enc x) ρ0 = some ρ1 ∧ mt ρ1 μ = .ok (keep x) μ ∧ (keep x = true → me ρ1 μ = .ok (val x) μ)) → acc.length + xs.length ≤ 16777216 →
    compL tg mt me ρ0 (xs.map enc) acc μ = .ok (acc ++ (xs.filter keep).map val) μ
  | [], acc, _, _ => by simp [compL]
  | x :: xs, acc, h, hl => by
    obtain ⟨ρ1, e1, e2, e3⟩ := h x List.mem_cons_self
    have ih := fun acc' => compL_map (tg := tg) (mt := mt) (me := me) (ρ0 := ρ0) (μ := μ) enc keep val xs acc' fun y hy => h y (List.mem_cons_of_mem _ hy)
    rw [List.length_cons] at hl
    rw [List.map_cons]
    unfold compL
    rw [e1]
    simp only [e2]
    cases hk : keep x with
    | false =>
      simp only
      rw [ih acc (by omega), List.filter_cons_of_neg (by simp [hk])]
    | true =>
      simp only [e3 hk]
      rw [if_pos (by omega), ih _ (by simp; omega), List.filter_cons_of_pos hk]
      simp
/-- without tests -/
theorem compL_all {α : Type} {tg : TgD} {me : SE} {ρ0 : Env} {μ : Mu} (enc : α → D) (val : α → D) (xs : List α) (h : ∀ x ∈ xs, ∃ ρ1, tg (enc x) ρ0 = some ρ1 ∧ me ρ1 μ = .ok (val x) μ) (hl : xs.length ≤ 16777216) :
    compL tg mYes me ρ0 (xs.map enc) [] μ = .ok (xs.map val) μ := by
  have := compL_map (tg := tg) (mt := mYes) (me := me) (ρ0 := ρ0) (μ := μ) enc (fun _ => true) val xs [] (fun x hx => by
    obtain ⟨ρ1, e1, e2⟩ := h x hx
    exact ⟨ρ1, e1, rfl, fun _ => e2⟩) (by simpa using hl)
  rw [this, List.filter_eq_self.mpr (fun _ _ => rfl)]
  simp
/-- the store changes from turn to turn -/
theorem compL_run {α : Type} {tg : TgD} {me : SE} {ρ0 : Env} (enc : α → D) (I : Mu → Prop) (P : α → D → Prop) : ∀ (xs : List α) (acc : List D) (μ : Mu), I μ →
    (∀ x ∈ xs, ∀ μ, I μ → ∃ ρ1 d μ', tg (enc x) ρ0 = some ρ1 ∧ me ρ1 μ = .ok d μ' ∧ I μ' ∧ P x d) → acc.length + xs.length ≤ 16777216 →
    ∃ ds μ', compL tg mYes me ρ0 (xs.map enc) acc μ = .ok (acc ++ ds) μ' ∧ I μ' ∧ ds.length = xs.length ∧ ∀ (i : Nat) (x : α) (d : D), xs[i]? = some x → ds[i]? = some d → P x d
  | [], acc, μ, hI, _, _ => ⟨[], μ, by simp [compL], hI, rfl, fun i x d h => by simp at h⟩
  | x :: xs, acc, μ, hI, h, hl => by
    obtain ⟨ρ1, d, μ1, e1, e2, hI1, hP⟩ := h x List.mem_cons_self μ hI
    rw [List.length_cons] at hl
    obtain ⟨ds, μ2, e3, hI2, hlen, hget⟩ := compL_run (tg := tg) (me := me) (ρ0 := ρ0) enc I P xs (acc ++ [d]) μ1 hI1 (fun y hy => h y (List.mem_cons_of_mem _ hy)) (by simp; omega)
    refine ⟨d :: ds, μ2, ?_, hI2, by simp [hlen], fun i y e hy he => ?_⟩
    · rw [List.map_cons]
      unfold compL
      rw [e1]
      have e4 : mYes ρ1 μ = .ok true μ := rfl
      simp only [e4, e2]
      rw [if_pos (by omega), e3]
      simp
    · cases i with
      | zero =>
        simp at hy he
        subst hy he
        exact hP
      | succ i => exact hget i y e (by simpa using hy) (by simpa using he)
/-- a loop: I by what is gathered -/
theorem forL_st {α σ : Type} {tg : TgD} {m : SS} (enc : α → D) (f : σ → α → σ) (I : σ → Env → Mu → Prop) : ∀ (xs : List α) (s : σ) (ρ : Env) (μ : Mu), I s ρ μ →
    (∀ x ∈ xs, ∀ s ρ μ, I s ρ μ → ∃ ρ1 ρ2 μ2, tg (enc x) ρ = some ρ1 ∧ (m ρ1 μ = .nx ρ2 μ2 ∨ m ρ1 μ = .ct ρ2 μ2) ∧ I (f s x) ρ2 μ2) →
    ∃ ρ' μ', forL tg m (xs.map enc) ρ μ = .nx ρ' μ' ∧ I (xs.foldl f s) ρ' μ'
  | [], s, ρ, μ, h, _ => ⟨ρ, μ, rfl, h⟩
  | x :: xs, s, ρ, μ, h, hs => by
    obtain ⟨ρ1, ρ2, μ2, e1, e2, h2⟩ := hs x List.mem_cons_self s ρ μ h
    obtain ⟨ρ', μ', e3, h3⟩ := forL_st (tg := tg) (m := m) enc f I xs (f s x) ρ2 μ2 h2 fun y hy => hs y (List.mem_cons_of_mem _ hy)
    refine ⟨ρ', μ', ?_, h3⟩
    rw [List.map_cons]
    unfold forL
    rw [e1]
    rcases e2 with e2 | e2 <;> simp only [e2] <;> exact e3
/-- a loop that is left with a value, or goes to its end; the store stays -/
theorem forL_find {α : Type} {tg : TgD} {m : SS} {μ : Mu} (enc : α → D) (p : α → Bool) (out : α → SOut) (I : Env → Prop) (hout : ∀ x ρ μ, out x ≠ .nx ρ μ ∧ out x ≠ .ct ρ μ ∧ out x ≠ .bk ρ μ) : ∀ (xs : List α) (ρ : Env), I ρ →
    (∀ x ∈ xs, ∀ ρ, I ρ → ∃ ρ1, tg (enc x) ρ = some ρ1 ∧ (p x = true → m ρ1 μ = out x) ∧ (p x = false → ∃ ρ2, m ρ1 μ = .nx ρ2 μ ∧ I ρ2)) →
    (∀ x, xs.find? p = some x → forL tg m (xs.map enc) ρ μ = out x) ∧ (xs.find? p = none → ∃ ρ', forL tg m (xs.map enc) ρ μ = .nx ρ' μ ∧ I ρ')
  | [], ρ, h, _ => ⟨fun x hx => by simp at hx, fun _ => ⟨ρ, rfl, h⟩⟩
  | x :: xs, ρ, h, hs => by
    obtain ⟨ρ1, e1, e2, e3⟩ := hs x List.mem_cons_self ρ h
    cases hp : p x with
    | true =>
      refine ⟨fun y hy => ?_, fun hn => by simp [hp] at hn⟩
      have ey : y = x := by simpa [hp] using hy.symm
      subst ey
      rw [List.map_cons]
      unfold forL
      rw [e1]
      have z := hout y
      simp only [e2 hp]
      cases ho : out y with
      | nx ρ μ => exact absurd ho (z ρ μ).1
      | ct ρ μ => exact absurd ho (z ρ μ).2.1
      | bk ρ μ => exact absurd ho (z ρ μ).2.2
      | _ => rfl
    | false =>
      obtain ⟨ρ2, e4, h2⟩ := e3 hp
      obtain ⟨i1, i2⟩ := forL_find (tg := tg) (m := m) enc p out I hout xs ρ2 h2 fun y hy => hs y (List.mem_cons_of_mem _ hy)
      have e5 : forL tg m ((x :: xs).map enc) ρ μ = forL tg m (xs.map enc) ρ2 μ := by
        rw [List.map_cons]
        conv => lhs; unfold forL
        rw [e1]
        simp only [e4]
      refine ⟨fun y hy => ?_, fun hn => ?_⟩
      · rw [e5]
        exact i1 y (by simpa [hp] using hy)
      · rw [e5]
        exact i2 (by simpa [hp] using hn)
/-! ### small data -/
mutual
/-- small: numbers below 1024, None, tuples of such -/
def D.sm : D → Bool
  | .non => true
  | .int i => decide (0 ≤ i ∧ i < 1024)
  | .tup l => smAll l
  | _ => false
def smAll : List D → Bool
  | [] => true
  | d :: l => d.sm && smAll l
end
mutual
def D.sz : D → Nat
  | .tup l => 3 + szAll l
  | _ => 6
def szAll : List D → Nat
  | [] => 0
  | d :: l => d.sz + 2 + szAll l
end
mutual
def D.lv : D → Nat
  | .tup l => lvAll l + 1
  | _ => 1
def lvAll : List D → Nat
  | [] => 0
  | d :: l => max d.lv (lvAll l)
end
theorem small_txt : ∀ n : Nat, n < 1024 → (PyData.int (n : Int)).shown.length ≤ 6 ∧ PyData.strOk (PyData.int (n : Int)).shown = true := by decide +kernel
theorem small_int {i : Int} (h : 0 ≤ i ∧ i < 1024) : (PyData.int i).shown.length ≤ 6 ∧ PyData.strOk (PyData.int i).shown = true := by
  have := small_txt i.toNat (by omega)
  rwa [Int.toNat_of_nonneg h.1] at this
theorem strOk_app (a b : Str) (h1 : PyData.strOk a = true) (h2 : PyData.strOk b = true) : PyData.strOk (a ++ b) = true := by
  unfold PyData.strOk at *
  have e : (a ++ b).cps = a.cps ++ b.cps := rfl
  rw [e, Array.all_append, h1, h2]
  rfl
theorem strOk_join (sep : Str) (hs : PyData.strOk sep = true) : ∀ ts : List Str, (∀ t ∈ ts, PyData.strOk t = true) → PyData.strOk (Str.join sep ts) = true
  | [], _ => by show PyData.strOk Str.empty = true; decide +kernel
  | [x], h => h x (by simp)
  | x :: y :: r, h => by
    have ih := strOk_join sep hs (y :: r) fun t ht => h t (List.mem_cons_of_mem _ ht)
    exact strOk_app _ _ (strOk_app _ _ (h x List.mem_cons_self) hs) ih
theorem tupleText_len (ts : List Str) : (tupleText ts).length ≤ 3 + piled ts := by
  unfold tupleText
  have e : (("(" : Str) ++ Str.join ", " ts ++ (if ts.length == 1 then ",)" else ")" : String)).length ≤ 1 + (Str.join ", " ts).length + 2 := by
    rw [strLen_append, strLen_append]
    have e1 : (("(" : String) : Str).length = 1 := rfl
    have e2 : (((if ts.length == 1 then ",)" else ")" : String)) : Str).length ≤ 2 := by
      split <;> decide
    omega
  refine Nat.le_trans e ?_
  cases ts with
  | nil =>
    show 1 + (Str.empty).length + 2 ≤ _
    have : (Str.empty).length = 0 := rfl
    omega
  | cons x r =>
    have := join_length_add (x :: r) (by simp)
    omega
mutual
theorem shown_le : ∀ d : D, d.sm = true → d.pd.shown.length ≤ d.sz ∧ PyData.strOk d.pd.shown = true ∧ d.plain = true ∧ d.pd.depth ≤ d.lv
  | .non, _ => ⟨by decide +kernel, by decide +kernel, rfl, by simp [D.pd, PyData.depth, D.lv]⟩
  | .int i, h => by
    simp only [D.sm, decide_eq_true_eq] at h
    have z := small_int h
    refine ⟨z.1, z.2, ?_, by simp [D.pd, PyData.depth, D.lv]⟩
    simp only [D.plain, decide_eq_true_eq]
    have h1 : i.natAbs < 1024 := by omega
    by_cases h2 : i.natAbs = 0
    · rw [h2]
      decide
    · have h3 := (Nat.log2_lt h2).mpr (show i.natAbs < 2 ^ 10 by omega)
      omega
  | .tup l, h => by
    simp only [D.sm] at h
    obtain ⟨h1, h2, h3, h4⟩ := shownAll_le l h
    refine ⟨?_, ?_, by simpa only [D.plain] using h3, ?_⟩
    · simp only [D.pd, PyData.shown, D.sz]
      exact Nat.le_trans (tupleText_len _) (by omega)
    · simp only [D.pd, PyData.shown]
      unfold tupleText
      refine strOk_app _ _ (strOk_app _ _ (by decide +kernel) (strOk_join _ (by decide +kernel) _ h2)) ?_
      split <;> decide +kernel
    · simp only [D.pd, PyData.depth, D.lv]
      omega
theorem shownAll_le : ∀ l : List D, smAll l = true → piled (PyData.shownAll (pdAll l)) ≤ szAll l ∧ (∀ t ∈ PyData.shownAll (pdAll l), PyData.strOk t = true) ∧ plainAll l = true ∧ PyData.depthAll (pdAll l) ≤ lvAll l
  | [], _ => ⟨by simp [pdAll, PyData.shownAll, piled, szAll], by simp [pdAll, PyData.shownAll], rfl, by simp [pdAll, PyData.depthAll, lvAll]⟩
  | d :: l, h => by
    simp only [smAll, Bool.and_eq_true] at h
    obtain ⟨a1, a2, a3, a4⟩ := shown_le d h.1
    obtain ⟨b1, b2, b3, b4⟩ := shownAll_le l h.2
    refine ⟨?_, ?_, ?_, ?_⟩
    · simp only [pdAll, PyData.shownAll, piled_cons, szAll]
      omega
    · intro t ht
      simp only [pdAll, PyData.shownAll, List.mem_cons] at ht
      rcases ht with rfl | ht
      · exact a2
      · exact b2 t ht
    · simp only [plainAll, a3, b3, Bool.and_self]
    · simp only [pdAll, PyData.depthAll, lvAll]
      omega
end
/-- repr of small data -/
theorem repr_ok {d : D} {μ : Mu} (h : d.sm = true) (hl : d.lv ≤ 50) (hz : d.sz ≤ 16777216) : fRepr [d] μ = .ok (.str d.pd.shown) μ ∧ PyData.strOk d.pd.shown = true := by
  obtain ⟨h1, h2, h3, h4⟩ := shown_le d h
  have fit : d.fit = true := by
    unfold D.fit
    rw [h3, Bool.true_and, Bool.and_eq_true, decide_eq_true_eq, decide_eq_true_eq]
    exact ⟨by omega, Nat.le_trans h1 (by rw [sizeLine_eq]; exact hz)⟩
  refine ⟨?_, h2⟩
  show (if d.fit = true then Out.ok (D.str d.pd.shown) μ else .stuck) = _
  rw [if_pos fit]
theorem ne_same (s : Str) (hs : PyData.strOk s = true) (μ : Mu) : fNe (.str s) (.str s) μ = .ok (.bl false) μ := by
  have e : PyData.eqv (.str s) (.str s) = true := by simp [PyData.eqv]
  show (if SeqAt.shaped (.str s) = true ∧ SeqAt.shaped (.str s) = true then Out.ok (D.bl (!PyData.eqv (.str s) (.str s))) μ else .stuck) = _
  have e2 : SeqAt.shaped (.str s) = true := by simp [SeqAt.shaped, PyData.canLay0, PyData.depth, hs]
  rw [if_pos ⟨e2, e2⟩, e]
  rfl
/-! ### equality -/
mutual
theorem py_sm : ∀ d : D, d.sm = true → d.py = some d.pd ∧ d.pd.canLay0 = true
  | .non, _ => ⟨rfl, by simp [D.pd, PyData.canLay0]⟩
  | .int i, _ => ⟨rfl, by simp [D.pd, PyData.canLay0]⟩
  | .tup l, h => by
    simp only [D.sm] at h
    obtain ⟨h1, h2⟩ := pys_sm l h
    exact ⟨by simp only [D.py, h1, D.pd]; rfl, by simp only [D.pd, PyData.canLay0]; exact h2⟩
theorem pys_sm : ∀ l : List D, smAll l = true → D.pys l = some (pdAll l) ∧ PyData.canLayAll0 (pdAll l) = true
  | [], _ => ⟨rfl, by simp [pdAll, PyData.canLayAll0]⟩
  | d :: l, h => by
    simp only [smAll, Bool.and_eq_true] at h
    obtain ⟨a1, a2⟩ := py_sm d h.1
    obtain ⟨b1, b2⟩ := pys_sm l h.2
    exact ⟨by simp only [D.pys, a1, b1, pdAll], by simp only [pdAll, PyData.canLayAll0, a2, b2, Bool.and_self]⟩
end
mutual
theorem eqv_sm : ∀ d e : D, d.sm = true → e.sm = true → (PyData.eqv d.pd e.pd = true ↔ d = e)
  | .non, e, _, he => by
    cases e <;> first | (simp [D.sm] at he; done) | simp [D.pd, PyData.eqv]
  | .int i, e, _, he => by
    cases e <;> first | (simp [D.sm] at he; done) | simp [D.pd, PyData.eqv]
  | .tup l, e, hd, he => by
    cases e with
    | tup m =>
      simp only [D.sm] at hd he
      have := eqvs_sm l m hd he
      simp only [D.pd, PyData.eqv, this, D.tup.injEq]
    | non => simp [D.pd, PyData.eqv]
    | int i => simp [D.pd, PyData.eqv]
    | _ => simp [D.sm] at he
theorem eqvs_sm : ∀ l m : List D, smAll l = true → smAll m = true → (PyData.eqvAll (pdAll l) (pdAll m) = true ↔ l = m)
  | [], [], _, _ => by simp [pdAll, PyData.eqvAll]
  | [], e :: m, _, _ => by simp [pdAll, PyData.eqvAll]
  | d :: l, [], _, _ => by simp [pdAll, PyData.eqvAll]
  | d :: l, e :: m, hd, he => by
    simp only [smAll, Bool.and_eq_true] at hd he
    have h1 := eqv_sm d e hd.1 he.1
    have h2 := eqvs_sm l m hd.2 he.2
    simp only [pdAll, PyData.eqvAll, Bool.and_eq_true, h1, h2, List.cons.injEq]
end
theorem shaped_sm {d : D} (h : d.sm = true) (hl : d.lv ≤ 64) : SeqAt.shaped d.pd = true := by
  unfold SeqAt.shaped
  rw [(py_sm d h).2, Bool.true_and, decide_eq_true_eq]
  have := (shown_le d h).2.2.2
  omega
theorem pyM_sm {d : D} (h : d.sm = true) (μ : Mu) : d.pyM μ = some d.pd := by
  cases d with
  | cell n => simp [D.sm] at h
  | _ => exact (py_sm _ h).1
theorem fEq_sm {d e : D} {μ : Mu} (hd : d.sm = true) (he : e.sm = true) (ld : d.lv ≤ 64) (le : e.lv ≤ 64) (b : Bool) (hb : b = true ↔ d = e) : fEq d e μ = .ok (.bl b) μ := by
  unfold fEq
  rw [pyM_sm hd, pyM_sm he]
  simp only
  rw [if_pos ⟨shaped_sm hd ld, shaped_sm he le⟩]
  have : PyData.eqv d.pd e.pd = b := by
    rw [Bool.eq_iff_iff, eqv_sm d e hd he, hb]
  rw [this]
theorem fNe_sm {d e : D} {μ : Mu} (hd : d.sm = true) (he : e.sm = true) (ld : d.lv ≤ 64) (le : e.lv ≤ 64) (b : Bool) (hb : b = true ↔ d = e) : fNe d e μ = .ok (.bl (!b)) μ := by
  unfold fNe
  rw [pyM_sm hd, pyM_sm he]
  simp only
  rw [if_pos ⟨shaped_sm hd ld, shaped_sm he le⟩]
  have : PyData.eqv d.pd e.pd = b := by
    rw [Bool.eq_iff_iff, eqv_sm d e hd he, hb]
  rw [this]
/-- k in s: a list or a tuple of small data -/
theorem any_sm {d : D} (hd : d.sm = true) : ∀ l : List D, smAll l = true → ((pdAll l).any (fun z => PyData.eqv z d.pd) = true ↔ d ∈ l)
  | [], _ => by simp [pdAll]
  | e :: l, h => by
    simp only [smAll, Bool.and_eq_true] at h
    have := any_sm hd l h.2
    simp only [pdAll, List.any_cons, Bool.or_eq_true, this, eqv_sm e d h.1 hd, List.mem_cons]
    exact ⟨fun h => h.imp_left fun z => z.symm, fun h => h.imp_left fun z => z.symm⟩
theorem fIn_sm (neg : Bool) {d : D} {l : List D} {μ : Mu} (e : D) (he : e = .lst l ∨ e = .tup l) (hd : d.sm = true) (ld : d.lv ≤ 64) (hl : smAll l = true) (b : Bool) (hb : b = true ↔ d ∈ l) : fIn2 neg d e μ = .ok (.bl (if neg then !b else b)) μ := by
  have key : fInG neg d e μ = .ok (.bl (if neg then !b else b)) μ := by
    unfold fInG
    have e1 : (e.pyM μ).bind PyData.items? = some (pdAll l) := by
      rcases he with rfl | rfl
      · show ((D.lst l).py).bind PyData.items? = _
        simp only [D.py, (pys_sm l hl).1]
        rfl
      · show ((D.tup l).py).bind PyData.items? = _
        simp only [D.py, (pys_sm l hl).1]
        rfl
    rw [pyM_sm hd, e1]
    simp only
    rw [if_pos ⟨shaped_sm hd ld, (pys_sm l hl).2⟩]
    have : ((pdAll l).any fun z => PyData.eqv z d.pd) = b := by
      rw [Bool.eq_iff_iff, any_sm hd l hl, hb]
    rw [this]
  rcases he with rfl | rfl <;> exact key
theorem smAll_map {α : Type} {f : α → D} : ∀ (l : List α), (∀ x ∈ l, (f x).sm = true) → smAll (l.map f) = true
  | [], _ => rfl
  | x :: l, h => by simp only [List.map_cons, smAll, h x List.mem_cons_self, smAll_map l fun y hy => h y (List.mem_cons_of_mem _ hy), Bool.and_self]
theorem lvAll_map {α : Type} {f : α → D} {n : Nat} : ∀ (l : List α), (∀ x ∈ l, (f x).lv ≤ n) → lvAll (l.map f) ≤ n
  | [], _ => Nat.zero_le _
  | x :: l, h => by
    simp only [List.map_cons, lvAll]
    have h1 := h x List.mem_cons_self
    have h2 := lvAll_map l fun y hy => h y (List.mem_cons_of_mem _ hy)
    omega
theorem szAll_map {α : Type} {f : α → D} {n : Nat} : ∀ (l : List α), (∀ x ∈ l, (f x).sz ≤ n) → szAll (l.map f) ≤ l.length * (n + 2)
  | [], _ => Nat.zero_le _
  | x :: l, h => by
    simp only [List.map_cons, szAll, List.length_cons, Nat.add_mul, Nat.one_mul]
    have h1 := h x List.mem_cons_self
    have h2 := szAll_map l fun y hy => h y (List.mem_cons_of_mem _ hy)
    omega
/-! ### rows of numbers -/
abbrev eI (n : Nat) : D := .int (n : Int)
abbrev eR (l : List Nat) : D := .tup (l.map eI)
theorem eI_inj {a b : Nat} : eI a = eI b ↔ a = b := by
  rw [D.int.injEq]
  omega
theorem eIs_inj : ∀ {a b : List Nat}, a.map eI = b.map eI ↔ a = b
  | [], [] => by simp
  | [], _ :: _ => by simp
  | _ :: _, [] => by simp
  | x :: a, y :: b => by simp only [List.map_cons, List.cons.injEq, eIs_inj (a := a) (b := b), eI_inj]
theorem eR_inj {a b : List Nat} : eR a = eR b ↔ a = b := by
  simp only [eR, D.tup.injEq]
  exact eIs_inj
theorem sm_I {n : Nat} (h : n < 1024) : (eI n).sm = true := by simp [D.sm]; omega
theorem sm_R {l : List Nat} (h : ∀ x ∈ l, x < 1024) : (eR l).sm = true := by
  simp only [D.sm]
  exact smAll_map l fun x hx => sm_I (h x hx)
theorem lv_R (l : List Nat) : (eR l).lv ≤ 2 := by
  simp only [D.lv]
  have := lvAll_map (f := eI) (n := 1) l fun x _ => Nat.le_refl _
  omega
theorem at_map {α : Type} {f : α → D} {l : List α} {i : Nat} {x : α} (h : l[i]? = some x) : L2.atI (l.map f) (i : Int) = some (f x) := by
  obtain ⟨hl, e⟩ := List.getElem?_eq_some_iff.mp h
  unfold L2.atI L2.ixN
  rw [List.length_map, if_pos (by omega), if_pos (by omega)]
  simp [h]
/-- s[i] -/
theorem ix_map {α : Type} {f : α → D} {l : List α} {i : Nat} {x : α} {μ : Mu} (d : D) (hd : seqOf μ d = some (l.map f)) (hn : ∀ ks vs, d ≠ .dct ks vs) (h : l[i]? = some x) : fIx2 d (eI i) μ = .ok (f x) μ := by
  have e : fIx d (.int (i : Int)) μ = .ok (f x) μ := by
    unfold fIx
    rw [hd]
    simp only [at_map h]
  cases d with
  | dct ks vs => exact absurd rfl (hn ks vs)
  | _ => exact e
theorem last_map {α : Type} {f : α → D} {l : List α} {x : α} {μ : Mu} (d : D) (hd : seqOf μ d = some ((l ++ [x]).map f)) (hn : ∀ ks vs, d ≠ .dct ks vs) : fIx2 d (.int (-1)) μ = .ok (f x) μ := by
  have e : fIx d (.int (-1)) μ = .ok (f x) μ := by
    unfold fIx
    rw [hd]
    have e2 : L2.atI ((l ++ [x]).map f) (-1) = some (f x) := by
      unfold L2.atI L2.ixN
      have h1 : (-1 + (((l ++ [x]).map f).length : Int)).toNat = l.length := by
        rw [List.length_map, List.length_append, List.length_singleton]
        omega
      rw [if_neg (by omega), if_pos (by rw [List.length_map, List.length_append, List.length_singleton]; omega), h1]
      simp
    simp only [e2]
  cases d with
  | dct ks vs => exact absurd rfl (hn ks vs)
  | _ => exact e
theorem len_seq {l : List D} {μ : Mu} (d : D) (hd : seqOf μ d = some l) (hn : ∀ ks vs, d ≠ .dct ks vs) : fLen2 [d] μ = .ok (eI l.length) μ := by
  have e : fLen [d] μ = .ok (eI l.length) μ := by
    unfold fLen
    cases d with
    | str x => simp [seqOf, listOf] at hd
    | _ => simp [hd]
  cases d with
  | dct ks vs => exact absurd rfl (hn ks vs)
  | _ => exact e
end DL
/-! # Pl2: things numbered as first come to -/
namespace DL
open PySem PySem.Spec L2
open PyProof.Rows hiding St
section
variable {α : Type} [DecidableEq α]
def addN (acc : List α) (x : α) : List α := if x ∈ acc then acc else acc ++ [x]
/-- the unlike ones of a list, as first come to -/
def namesOf (l : List α) : List α := l.foldl addN []
def fcOf (l : List α) : List Nat := l.map fun x => (namesOf l).idxOf x
theorem addN_mem {acc : List α} {x y : α} : y ∈ addN acc x ↔ y ∈ acc ∨ y = x := by
  unfold addN
  split
  · rename_i h
    exact ⟨.inl, fun z => z.elim id fun e => e ▸ h⟩
  · simp
theorem foldl_mem : ∀ (l acc : List α) (y : α), y ∈ l.foldl addN acc ↔ y ∈ acc ∨ y ∈ l
  | [], acc, y => by simp
  | x :: l, acc, y => by
    rw [List.foldl_cons, foldl_mem l (addN acc x) y, addN_mem, List.mem_cons]
    exact ⟨fun z => z.elim (fun q => q.elim .inl fun e => .inr (.inl e)) fun q => .inr (.inr q), fun z => z.elim (fun q => .inl (.inl q)) fun q => q.elim (fun e => .inl (.inr e)) .inr⟩
theorem names_mem {l : List α} {y : α} : y ∈ namesOf l ↔ y ∈ l := by
  unfold namesOf
  rw [foldl_mem]
  simp
theorem addN_nodup {acc : List α} {x : α} (h : acc.Nodup) : (addN acc x).Nodup := by
  unfold addN
  split
  · exact h
  · rename_i hn
    exact List.nodup_append.mpr ⟨h, by simp, fun a ha b hb e => hn (by rw [List.mem_singleton.mp hb] at e; exact e ▸ ha)⟩
theorem foldl_nodup : ∀ (l acc : List α), acc.Nodup → (l.foldl addN acc).Nodup
  | [], _, h => h
  | x :: l, acc, h => foldl_nodup l (addN acc x) (addN_nodup h)
theorem names_nodup (l : List α) : (namesOf l).Nodup := foldl_nodup l [] List.nodup_nil
theorem foldl_len : ∀ (l acc : List α), (l.foldl addN acc).length ≤ acc.length + l.length
  | [], _ => by simp
  | x :: l, acc => by
    have h := foldl_len l (addN acc x)
    have h2 : (addN acc x).length ≤ acc.length + 1 := by unfold addN; split <;> simp
    rw [List.foldl_cons, List.length_cons]
    omega
theorem names_len (l : List α) : (namesOf l).length ≤ l.length := by
  have := foldl_len l []
  simpa [namesOf] using this
theorem idx_lt {l : List α} {x : α} (h : x ∈ l) : (namesOf l).idxOf x < (namesOf l).length := List.idxOf_lt_length_iff.mpr (names_mem.mpr h)
theorem fc_lt {l : List α} : ∀ n ∈ fcOf l, n < (namesOf l).length := by
  intro n hn
  obtain ⟨x, hx, rfl⟩ := List.mem_map.mp hn
  exact idx_lt hx
theorem fc_length (l : List α) : (fcOf l).length = l.length := by simp [fcOf]
theorem idx_inj {l : List α} {x y : α} (hx : x ∈ l) (hy : y ∈ l) (e : l.idxOf x = l.idxOf y) : x = y := by
  have h1 := List.getElem_idxOf (List.idxOf_lt_length_iff.mpr hx)
  have h2 := List.getElem_idxOf (List.idxOf_lt_length_iff.mpr hy)
  rw [← h1, ← h2]
  simp only [e]
/-- two have one number exactly if they are alike -/
theorem fc_eq {l : List α} {i j : Nat} {x y : α} (hi : l[i]? = some x) (hj : l[j]? = some y) : (fcOf l)[i]? = (fcOf l)[j]? ↔ x = y := by
  unfold fcOf
  rw [List.getElem?_map, List.getElem?_map, hi, hj]
  simp only [Option.map_some, Option.some.injEq]
  exact ⟨fun e => idx_inj (names_mem.mpr (List.mem_of_getElem? hi)) (names_mem.mpr (List.mem_of_getElem? hj)) e, fun e => by rw [e]⟩
end
section
variable {α β : Type} [DecidableEq α] [DecidableEq β]
/-- numbers hang on what is alike alone -/
theorem foldl_pat (f : α → β) : ∀ (l acc : List α), (∀ x ∈ acc ++ l, ∀ y ∈ acc ++ l, f x = f y → x = y) → (l.map f).foldl addN (acc.map f) = (l.foldl addN acc).map f
  | [], acc, _ => rfl
  | x :: l, acc, h => by
    have e : addN (acc.map f) (f x) = (addN acc x).map f := by
      unfold addN
      by_cases hx : x ∈ acc
      · rw [if_pos hx, if_pos (List.mem_map_of_mem hx)]
      · rw [if_neg hx, if_neg (fun hm => by
          obtain ⟨y, hy, ey⟩ := List.mem_map.mp hm
          exact hx ((h y (List.mem_append_left _ hy) x (by simp) ey) ▸ hy))]
        simp
    rw [List.map_cons, List.foldl_cons, e, List.foldl_cons]
    refine foldl_pat f l (addN acc x) fun a ha b hb => h a ?_ b ?_
    · rcases List.mem_append.mp ha with z | z
      · rcases addN_mem.mp z with z | z
        · exact List.mem_append_left _ z
        · rw [z]; simp
      · exact List.mem_append_right _ (List.mem_cons_of_mem _ z)
    · rcases List.mem_append.mp hb with z | z
      · rcases addN_mem.mp z with z | z
        · exact List.mem_append_left _ z
        · rw [z]; simp
      · exact List.mem_append_right _ (List.mem_cons_of_mem _ z)
theorem idxOf_map_inj (f : α → β) (x : α) : ∀ (l : List α), (∀ y ∈ l, f y = f x → y = x) → (l.map f).idxOf (f x) = l.idxOf x
  | [], _ => rfl
  | y :: l, h => by
    rw [List.map_cons, List.idxOf_cons, List.idxOf_cons]
    by_cases e : y = x
    · subst e
      simp
    · have e2 : f y ≠ f x := fun z => e (h y List.mem_cons_self z)
      have b1 : (f y == f x) = false := beq_eq_false_iff_ne.mpr e2
      have b2 : (y == x) = false := beq_eq_false_iff_ne.mpr e
      rw [b1, b2]
      simp only [cond_false]
      rw [idxOf_map_inj f x l fun z hz => h z (List.mem_cons_of_mem _ hz)]
theorem fc_map (f : α → β) (l : List α) (h : ∀ x ∈ l, ∀ y ∈ l, f x = f y → x = y) : fcOf (l.map f) = fcOf l := by
  have e : namesOf (l.map f) = (namesOf l).map f := foldl_pat f l [] (by simpa using h)
  unfold fcOf
  rw [e, List.map_map]
  apply List.map_congr_left
  intro x hx
  exact idxOf_map_inj f x _ fun y hy => h y (names_mem.mp hy) x hx
/-- of two readings of the same things: alike in one exactly if alike in the other -/
theorem fc_pat {γ : Type} (l : List γ) (f : γ → α) (g : γ → β) (h : ∀ x ∈ l, ∀ y ∈ l, f x = f y ↔ g x = g y) : fcOf (l.map f) = fcOf (l.map g) := by
  have hp : fcOf (l.map fun x => (f x, g x)) = fcOf (l.map f) := by
    rw [← fc_map Prod.fst (l.map fun x => (f x, g x)) (by
      intro p hp q hq e
      obtain ⟨x, hx, rfl⟩ := List.mem_map.mp hp
      obtain ⟨y, hy, rfl⟩ := List.mem_map.mp hq
      have e : f x = f y := e
      have e2 := (h x hx y hy).mp e
      rw [Prod.mk.injEq]
      exact ⟨e, e2⟩), List.map_map]
    rfl
  have hq : fcOf (l.map fun x => (f x, g x)) = fcOf (l.map g) := by
    rw [← fc_map Prod.snd (l.map fun x => (f x, g x)) (by
      intro p hp q hq e
      obtain ⟨x, hx, rfl⟩ := List.mem_map.mp hp
      obtain ⟨y, hy, rfl⟩ := List.mem_map.mp hq
      have e : g x = g y := e
      have e2 := (h x hx y hy).mpr e
      rw [Prod.mk.injEq]
      exact ⟨e2, e⟩), List.map_map]
    rfl
  rw [← hp, hq]
end
/-! ### dicts of numbers -/
section
variable {α : Type} [DecidableEq α] {enc : α → D} (heq : ∀ a b, kEq (enc a) (enc b) = decide (a = b))
include heq
theorem look_names (x : α) : ∀ (acc : List α) (k : Nat), dLook (acc.map enc) ((List.range' k acc.length).map eI) (enc x) = if x ∈ acc then some (eI (k + acc.idxOf x)) else none
  | [], k => by simp [dLook]
  | y :: acc, k => by
    rw [List.map_cons, List.length_cons, List.range'_succ, List.map_cons]
    unfold dLook
    rw [heq y x]
    by_cases e : y = x
    · subst e
      simp
    · have e2 : ¬ x = y := fun z => e z.symm
      rw [if_neg (by simpa using e), look_names x acc (k + 1)]
      by_cases h : x ∈ acc
      · rw [if_pos h, if_pos (List.mem_cons_of_mem _ h), List.idxOf_cons]
        have e3 : (y == x) = false := by simpa using e
        rw [e3]
        simp only [cond_false]
        congr 2
        omega
      · rw [if_neg h, if_neg (by simp [e2, h])]
end
theorem dOk_key {α : Type} {enc : α → D} (h : (∀ x, (enc x).key.isSome = true) ∨ ∀ x, (enc x).keyT.isSome = true) (l : List α) (x : α) : dOk (l.map enc) (enc x) = true := by
  unfold dOk
  rcases h with h | h
  · simp [h x, h]
  · simp [h x, h]
theorem kEq_I (a b : Nat) : kEq (eI a) (eI b) = decide (a = b) := by
  show decide (Sum.inl (a : Int) = Sum.inl (b : Int)) = decide (a = b)
  have : ((Sum.inl (a : Int) : Key) = Sum.inl (b : Int)) ↔ a = b := by
    rw [Sum.inl.injEq]
    omega
  simp [this]
theorem keysOf_ints : ∀ l : List Nat, keysOf (l.map eI) = some (l.map fun (n : Nat) => (Sum.inl (n : Int) : Key))
  | [] => rfl
  | n :: l => by
    show (match (eI n).key, keysOf (l.map eI) with | some k, some ks => some (k :: ks) | _, _ => none) = _
    rw [keysOf_ints l]
    rfl
theorem keyT_R (l : List Nat) : (eR l).keyT = some (l.map fun (n : Nat) => (Sum.inl (n : Int) : Key)) := keysOf_ints l
theorem kEq_R (a b : List Nat) : kEq (eR a) (eR b) = decide (a = b) := by
  rw [kEq_keyT _ _ _ _ (keyT_R a) (keyT_R b)]
  have : ∀ a b : List Nat, (a.map fun (n : Nat) => (Sum.inl (n : Int) : Key)) = (b.map fun (n : Nat) => (Sum.inl (n : Int) : Key)) ↔ a = b := by
    intro a
    induction a with
    | nil => intro b; cases b <;> simp
    | cons x a ih =>
      intro b
      cases b with
      | nil => simp
      | cons y b =>
        simp only [List.map_cons, List.cons.injEq, Sum.inl.injEq, ih b]
        exact ⟨fun h => ⟨by omega, h.2⟩, fun h => ⟨by omega, h.2⟩⟩
  simp [this a b]
/-! ### index -/
theorem find_names {α : Type} [DecidableEq α] {enc : α → D} (hi : ∀ x y, enc x = enc y → x = y) (x : α) (hx0 : (enc x).sm = true) : ∀ (l : List α) (k : Nat), (∀ y ∈ l, (enc y).sm = true) → x ∈ l → findD (enc x).pd (pdAll (l.map enc)) k = some (k + l.idxOf x)
  | [], _, _, h => by simp at h
  | y :: l, k, hs, h => by
    simp only [List.map_cons, pdAll]
    unfold findD
    have e := eqv_sm (enc y) (enc x) (hs y List.mem_cons_self) hx0
    by_cases q : y = x
    · subst q
      rw [if_pos (e.mpr rfl)]
      simp
    · rw [if_neg (fun z => q (hi _ _ (e.mp z)))]
      have hx : x ∈ l := by
        rcases List.mem_cons.mp h with z | z
        · exact absurd z.symm q
        · exact z
      rw [find_names hi x hx0 l (k + 1) (fun y hy => hs y (List.mem_cons_of_mem _ hy)) hx, List.idxOf_cons]
      have e3 : (y == x) = false := by simpa using q
      rw [e3]
      simp only [cond_false]
      congr 1
      omega
theorem index_names {α : Type} [DecidableEq α] {enc : α → D} (hi : ∀ x y, enc x = enc y → x = y) (x : α) (l : List α) (hs : ∀ y ∈ l, (enc y).sm = true) (hl : ∀ y ∈ l, (enc y).lv ≤ 60) (h : x ∈ l) (μ : Mu) : fIndex (.lst (l.map enc)) (enc x) μ = .ok (eI (l.idxOf x)) μ := by
  have z := pys_sm _ (smAll_map (f := enc) l hs)
  have e1 : (D.lst (l.map enc)).pyM μ = some (.list (pdAll (l.map enc))) := by
    show (D.lst (l.map enc)).py = _
    simp only [D.py, z.1]
    rfl
  unfold fIndex
  rw [e1, pyM_sm (hs x h)]
  simp only
  have d1 := (shownAll_le _ (smAll_map (f := enc) l hs)).2.2.2
  have d2 := lvAll_map (f := enc) (n := 60) l hl
  have sh : SeqAt.shaped (.list (pdAll (l.map enc))) = true := by
    unfold SeqAt.shaped
    rw [show PyData.canLay0 (.list (pdAll (l.map enc))) = true from z.2, Bool.true_and, decide_eq_true_eq]
    show PyData.depthAll (pdAll (l.map enc)) + 1 ≤ _
    omega
  rw [if_pos ⟨sh, shaped_sm (hs x h) (by have := hl x h; omega)⟩, find_names hi x (hs x h) l 0 hs h]
  simp
end DL
/-! # Pl3: machines: states alike along so many letters, their classes -/
namespace DL
open PySem PySem.Spec L2
open PyProof.Rows hiding St
/-! ### counting -/
theorem nodup_le {α : Type} [DecidableEq α] : ∀ (l l' : List α), l.Nodup → (∀ x ∈ l, x ∈ l') → l.length ≤ l'.length
  | [], l', _, _ => Nat.zero_le _
  | x :: l, l', nd, h => by
    rw [List.nodup_cons] at nd
    have h1 := h x List.mem_cons_self
    have h2 := nodup_le l (l'.erase x) nd.2 fun y hy => (List.mem_erase_of_ne (fun e : y = x => nd.1 (by rw [← e]; exact hy))).mpr (h y (List.mem_cons_of_mem _ hy))
    rw [List.length_erase_of_mem h1] at h2
    have h3 := List.length_pos_of_mem h1
    rw [List.length_cons]
    omega
theorem nodup_full {α : Type} [DecidableEq α] (l l' : List α) (nd : l.Nodup) (h : ∀ x ∈ l, x ∈ l') (e : l'.length ≤ l.length) : ∀ x ∈ l', x ∈ l := by
  intro x hx
  by_cases q : x ∈ l
  · exact q
  · have := nodup_le (x :: l) l' (List.nodup_cons.mpr ⟨q, nd⟩) fun y hy => by
      rcases List.mem_cons.mp hy with rfl | z
      · exact hx
      · exact h y z
    rw [List.length_cons] at this
    omega
theorem nodup_map_on {α β : Type} (f : α → β) : ∀ (l : List α), l.Nodup → (∀ x ∈ l, ∀ y ∈ l, f x = f y → x = y) → (l.map f).Nodup
  | [], _, _ => List.nodup_nil
  | x :: l, nd, h => by
    rw [List.nodup_cons] at nd
    rw [List.map_cons, List.nodup_cons]
    refine ⟨fun hm => ?_, nodup_map_on f l nd.2 fun a ha b hb => h a (List.mem_cons_of_mem _ ha) b (List.mem_cons_of_mem _ hb)⟩
    obtain ⟨y, hy, e⟩ := List.mem_map.mp hm
    exact nd.1 (h y (List.mem_cons_of_mem _ hy) x List.mem_cons_self e ▸ hy)
section
variable {α β γ : Type} [DecidableEq α] [DecidableEq β]
/-- a finer reading has no fewer names, and as many only if it is the same -/
theorem names_grow (l : List γ) (f : γ → α) (g : γ → β) (h : ∀ x ∈ l, ∀ y ∈ l, f x = f y → g x = g y) :
    (namesOf (l.map g)).length ≤ (namesOf (l.map f)).length ∧ ((namesOf (l.map f)).length ≤ (namesOf (l.map g)).length → ∀ x ∈ l, ∀ y ∈ l, g x = g y → f x = f y) := by
  have ex : ∀ b ∈ namesOf (l.map g), ∃ x ∈ l, g x = b := fun b hb => List.mem_map.mp (names_mem.mp hb)
  let ψ : β → Option α := fun b => (l.find? fun x => decide (g x = b)).map f
  have hψ : ∀ b ∈ namesOf (l.map g), ∃ x ∈ l, g x = b ∧ ψ b = some (f x) := fun b hb => by
    obtain ⟨x, hx, e⟩ := ex b hb
    cases q : l.find? fun x => decide (g x = b) with
    | none =>
      have := List.find?_eq_none.mp q x hx
      simp [e] at this
    | some y =>
      exact ⟨y, List.mem_of_find?_eq_some q, by have := List.find?_some q; simpa using this, by show (l.find? _).map f = _; rw [q]; rfl⟩
  have nd : ((namesOf (l.map g)).map ψ).Nodup := nodup_map_on ψ _ (names_nodup _) fun a ha b hb e => by
    obtain ⟨x, hx, ex, e1⟩ := hψ a ha
    obtain ⟨y, hy, ey, e2⟩ := hψ b hb
    rw [e1, e2] at e
    rw [← ex, ← ey]
    exact h x hx y hy (Option.some.inj e)
  have sub : ∀ z ∈ (namesOf (l.map g)).map ψ, z ∈ (namesOf (l.map f)).map some := fun z hz => by
    obtain ⟨b, hb, rfl⟩ := List.mem_map.mp hz
    obtain ⟨x, hx, _, e1⟩ := hψ b hb
    rw [e1]
    exact List.mem_map_of_mem (names_mem.mpr (List.mem_map_of_mem hx))
  refine ⟨by simpa using nodup_le _ _ nd sub, fun le => ?_⟩
  have full := nodup_full _ _ nd sub (by simpa using le)
  have key : ∀ x ∈ l, ψ (g x) = some (f x) := fun x hx => by
    have := full (some (f x)) (List.mem_map_of_mem (names_mem.mpr (List.mem_map_of_mem hx)))
    obtain ⟨b, hb, e⟩ := List.mem_map.mp this
    obtain ⟨y, hy, ey, e1⟩ := hψ b hb
    rw [e1] at e
    have e2 := h y hy x hx (Option.some.inj e)
    rw [← e2, ey, e1, Option.some.inj e]
  intro x hx y hy e
  have e1 := key x hx
  rw [e, key y hy] at e1
  exact (Option.some.inj e1).symm
end
/-! ### machines -/
noncomputable instance decD : DecidableEq D := fun _ _ => Classical.propDecidable _
def at0 (l : List Nat) (a : Nat) : Nat := l.getD a 0
/-- states show alike along all words so long -/
def Al (maps : List (List Nat)) (reads : List Nat) : Nat → Nat → Nat → Prop
  | 0, a, b => at0 reads a = at0 reads b
  | t + 1, a, b => at0 reads a = at0 reads b ∧ ∀ r ∈ maps, Al maps reads t (at0 r a) (at0 r b)
/-- what a state shows along all words so long -/
def tr (maps : List (List Nat)) (reads : List Nat) : Nat → Nat → D
  | 0, a => .tup [eI (at0 reads a)]
  | t + 1, a => .tup (eI (at0 reads a) :: maps.map fun r => tr maps reads t (at0 r a))
section
variable {maps : List (List Nat)} {reads : List Nat}
theorem Al.rd {t a b : Nat} (h : Al maps reads t a b) : at0 reads a = at0 reads b := by
  cases t with
  | zero => exact h
  | succ t => exact h.1
theorem Al.refl : ∀ (t a : Nat), Al maps reads t a a
  | 0, _ => rfl
  | t + 1, a => ⟨rfl, fun r _ => Al.refl t _⟩
theorem Al.symm : ∀ {t a b : Nat}, Al maps reads t a b → Al maps reads t b a
  | 0, _, _, h => Eq.symm h
  | t + 1, _, _, h => ⟨h.1.symm, fun r hr => Al.symm (h.2 r hr)⟩
theorem Al.trans : ∀ {t a b c : Nat}, Al maps reads t a b → Al maps reads t b c → Al maps reads t a c
  | 0, _, _, _, h, g => Eq.trans h g
  | t + 1, _, _, _, h, g => ⟨h.1.trans g.1, fun r hr => Al.trans (h.2 r hr) (g.2 r hr)⟩
theorem Al.down : ∀ {t a b : Nat}, Al maps reads (t + 1) a b → Al maps reads t a b
  | 0, _, _, h => h.1
  | t + 1, _, _, h => ⟨h.1, fun r hr => Al.down (h.2 r hr)⟩
theorem Al.le {t u a b : Nat} (h : Al maps reads t a b) (le : u ≤ t) : Al maps reads u a b := by
  induction t with
  | zero => rw [Nat.le_zero.mp le]; exact h
  | succ t ih =>
    rcases Nat.lt_or_ge t u with z | z
    · rw [show u = t + 1 by omega]; exact h
    · exact ih h.down z
theorem tr_eq : ∀ (t a b : Nat), tr maps reads t a = tr maps reads t b ↔ Al maps reads t a b
  | 0, a, b => by
    show D.tup [_] = D.tup [_] ↔ _
    rw [D.tup.injEq, List.cons.injEq, eI_inj]
    exact ⟨fun h => h.1, fun h => ⟨h, rfl⟩⟩
  | t + 1, a, b => by
    show D.tup (_ :: _) = D.tup (_ :: _) ↔ _
    rw [D.tup.injEq, List.cons.injEq, eI_inj]
    refine and_congr Iff.rfl ⟨fun h r hr => (tr_eq t _ _).mp ?_, fun h => List.map_congr_left fun r hr => (tr_eq t _ _).mpr (h r hr)⟩
    exact (List.map_inj_left.mp h) r hr
theorem tr_sm (hr : ∀ a, at0 reads a < 1024) : ∀ (t a : Nat), (tr maps reads t a).sm = true
  | 0, a => by
    show (D.tup [_]).sm = true
    simp only [D.sm, smAll, Bool.and_true]
    exact sm_I (hr a)
  | t + 1, a => by
    show (D.tup (_ :: _)).sm = true
    simp only [D.sm, smAll, Bool.and_eq_true]
    exact ⟨sm_I (hr a), smAll_map maps fun r _ => tr_sm hr t _⟩
theorem tr_lv : ∀ (t a : Nat), (tr maps reads t a).lv ≤ t + 2
  | 0, a => by
    show (D.tup [_]).lv ≤ _
    simp [D.lv, lvAll]
  | t + 1, a => by
    show (D.tup (_ :: _)).lv ≤ _
    have := lvAll_map (f := fun r => tr maps reads t (at0 r a)) (n := t + 2) maps fun r _ => tr_lv t _
    simp only [D.lv, lvAll]
    omega
variable (maps reads) in
/-- the numbers of the classes -/
noncomputable def cls (t : Nat) : List Nat := fcOf ((List.range reads.length).map (tr maps reads t))
variable (maps reads) in
noncomputable def many (t : Nat) : Nat := (namesOf ((List.range reads.length).map (tr maps reads t))).length
theorem cls_len (t : Nat) : (cls maps reads t).length = reads.length := by rw [cls, fc_length, List.length_map, List.length_range]
theorem rng_at {n a : Nat} (h : a < n) {α : Type} (f : Nat → α) : ((List.range n).map f)[a]? = some (f a) := by
  rw [List.getElem?_map, List.getElem?_range h]; rfl
theorem cls_at {t a b : Nat} (ha : a < reads.length) (hb : b < reads.length) : at0 (cls maps reads t) a = at0 (cls maps reads t) b ↔ Al maps reads t a b := by
  have h1 : a < (cls maps reads t).length := by rw [cls_len]; exact ha
  have h2 : b < (cls maps reads t).length := by rw [cls_len]; exact hb
  rw [← tr_eq, ← fc_eq (rng_at ha (tr maps reads t)) (rng_at hb (tr maps reads t))]
  show at0 (cls maps reads t) a = at0 (cls maps reads t) b ↔ (cls maps reads t)[a]? = (cls maps reads t)[b]?
  simp only [at0, List.getD_eq_getElem?_getD, List.getElem?_eq_getElem h1, List.getElem?_eq_getElem h2, Option.getD_some, Option.some.injEq]
theorem cls_pat {α : Type} [DecidableEq α] {t : Nat} (f : Nat → α) (h : ∀ a b, a < reads.length → b < reads.length → (f a = f b ↔ Al maps reads t a b)) : fcOf ((List.range reads.length).map f) = cls maps reads t :=
  fc_pat _ _ _ fun x hx y hy => by rw [h x y (List.mem_range.mp hx) (List.mem_range.mp hy), tr_eq]
theorem cls_same {t u : Nat} : cls maps reads t = cls maps reads u ↔ ∀ a b, a < reads.length → b < reads.length → (Al maps reads t a b ↔ Al maps reads u a b) := by
  constructor
  · intro e a b ha hb
    rw [← cls_at ha hb, ← cls_at ha hb, e]
  · intro h
    refine cls_pat (t := u) _ fun a b ha hb => ?_
    rw [tr_eq]
    exact h a b ha hb
theorem cls_next {t : Nat} : cls maps reads (t + 1) = cls maps reads t ↔ ∀ a b, a < reads.length → b < reads.length → Al maps reads t a b → Al maps reads (t + 1) a b := by
  rw [cls_same]
  exact ⟨fun h a b ha hb => (h a b ha hb).mpr, fun h a b ha hb => ⟨Al.down, h a b ha hb⟩⟩
theorem many_grow (t : Nat) : many maps reads t ≤ many maps reads (t + 1) ∧ (cls maps reads (t + 1) ≠ cls maps reads t → many maps reads t < many maps reads (t + 1)) := by
  have z := names_grow (List.range reads.length) (tr maps reads (t + 1)) (tr maps reads t) fun x _ y _ e => (tr_eq t x y).mpr ((tr_eq _ x y).mp e).down
  refine ⟨z.1, fun ne => ?_⟩
  rcases Nat.lt_or_ge (many maps reads t) (many maps reads (t + 1)) with h | h
  · exact h
  · refine absurd (cls_next.mpr fun a b ha hb al => ?_) ne
    exact (tr_eq _ _ _).mp (z.2 h a (List.mem_range.mpr ha) b (List.mem_range.mpr hb) ((tr_eq _ _ _).mpr al))
theorem many_le (t : Nat) : many maps reads t ≤ reads.length := by
  have := names_len ((List.range reads.length).map (tr maps reads t))
  simpa [many] using this
theorem many_same {t u : Nat} (h : cls maps reads t = cls maps reads u) : many maps reads t = many maps reads u := by
  have h := cls_same.mp h
  have a := names_grow (List.range reads.length) (tr maps reads t) (tr maps reads u) fun x hx y hy e => (tr_eq _ x y).mpr ((h x y (List.mem_range.mp hx) (List.mem_range.mp hy)).mp ((tr_eq _ x y).mp e))
  have b := names_grow (List.range reads.length) (tr maps reads u) (tr maps reads t) fun x hx y hy e => (tr_eq _ x y).mpr ((h x y (List.mem_range.mp hx) (List.mem_range.mp hy)).mpr ((tr_eq _ x y).mp e))
  exact Nat.le_antisymm b.1 a.1
theorem many_pos (h : 1 ≤ reads.length) (t : Nat) : 1 ≤ many maps reads t := by
  have : tr maps reads t 0 ∈ namesOf ((List.range reads.length).map (tr maps reads t)) := names_mem.mpr (List.mem_map_of_mem (List.mem_range.mpr h))
  exact List.length_pos_of_mem this
/-- rows that stay in bounds -/
abbrev Rows (maps : List (List Nat)) (reads : List Nat) : Prop := ∀ r ∈ maps, ∀ a, a < reads.length → at0 r a < reads.length
theorem cls_stays (R : Rows maps reads) {t : Nat} (h : cls maps reads (t + 1) = cls maps reads t) : ∀ k, cls maps reads (t + k) = cls maps reads t
  | 0 => rfl
  | k + 1 => by
    have step : ∀ k a b, a < reads.length → b < reads.length → Al maps reads (t + k) a b → Al maps reads (t + k + 1) a b := by
      intro k
      induction k with
      | zero => exact cls_next.mp h
      | succ k ih => exact fun a b ha hb al => ⟨al.1, fun r hr => ih _ _ (R r hr a ha) (R r hr b hb) (al.2 r hr)⟩
    rw [← cls_stays R h k]
    exact cls_next.mpr (step k)
/-- the first length from which nothing more is told apart -/
theorem stop_ex (n1 : 1 ≤ reads.length) : ∃ s, s < reads.length ∧ cls maps reads (s + 1) = cls maps reads s ∧ ∀ t, t < s → cls maps reads (t + 1) ≠ cls maps reads t := by
  have go : ∀ k, (∃ s, s < k ∧ cls maps reads (s + 1) = cls maps reads s ∧ ∀ t, t < s → cls maps reads (t + 1) ≠ cls maps reads t) ∨ ∀ t, t < k → cls maps reads (t + 1) ≠ cls maps reads t := by
    intro k
    induction k with
    | zero => exact .inr fun t h => by omega
    | succ k ih =>
      rcases ih with ⟨s, h1, h2, h3⟩ | h
      · exact .inl ⟨s, by omega, h2, h3⟩
      · by_cases e : cls maps reads (k + 1) = cls maps reads k
        · exact .inl ⟨k, by omega, e, h⟩
        · refine .inr fun t ht => ?_
          rcases Nat.lt_or_ge t k with z | z
          · exact h t z
          · rw [show t = k by omega]; exact e
  rcases go reads.length with h | h
  · exact h
  · have m : ∀ t, t ≤ reads.length → t + 1 ≤ many maps reads t := by
      intro t
      induction t with
      | zero => exact fun _ => many_pos n1 0
      | succ t ih =>
        intro le
        have := (many_grow t).2 (h t le)
        have := ih (by omega)
        omega
    have := m _ (Nat.le_refl _)
    have := many_le (maps := maps) (reads := reads) reads.length
    omega
/-- two that are told apart at last are told apart early -/
theorem part_early (R : Rows maps reads) {t a b : Nat} (ha : a < reads.length) (hb : b < reads.length) (h1 : ¬ Al maps reads (t + 1) a b) (h2 : Al maps reads t a b) : t + 3 ≤ reads.length := by
  have ne : ∀ u, u ≤ t → cls maps reads (u + 1) ≠ cls maps reads u := fun u hu e => by
    have z := cls_stays R e (t + 1 - u)
    have z2 := cls_stays R e (t - u)
    rw [show u + (t + 1 - u) = t + 1 by omega] at z
    rw [show u + (t - u) = t by omega] at z2
    exact h1 ((cls_same.mp (z.trans z2.symm) a b ha hb).mpr h2)
  have m0 : 2 ≤ many maps reads 0 := by
    rcases Nat.lt_or_ge 1 (many maps reads 0) with z | z
    · exact z
    · exfalso
      have allE : ∀ a b, a < reads.length → b < reads.length → at0 reads a = at0 reads b := fun a b ha hb => by
        have ma : tr maps reads 0 a ∈ namesOf ((List.range reads.length).map (tr maps reads 0)) := names_mem.mpr (List.mem_map_of_mem (List.mem_range.mpr ha))
        have mb : tr maps reads 0 b ∈ namesOf ((List.range reads.length).map (tr maps reads 0)) := names_mem.mpr (List.mem_map_of_mem (List.mem_range.mpr hb))
        have z : (namesOf ((List.range reads.length).map (tr maps reads 0))).length ≤ 1 := z
        have e : tr maps reads 0 a = tr maps reads 0 b := by
          generalize namesOf ((List.range reads.length).map (tr maps reads 0)) = l at ma mb z
          match l, z with
          | [], _ => simp at ma
          | [x], _ => rw [List.mem_singleton.mp ma, List.mem_singleton.mp mb]
        exact (tr_eq 0 a b).mp e
      have allA : ∀ u a b, a < reads.length → b < reads.length → Al maps reads u a b := by
        intro u
        induction u with
        | zero => exact allE
        | succ u ih => exact fun a b ha hb => ⟨allE a b ha hb, fun r hr => ih _ _ (R r hr a ha) (R r hr b hb)⟩
      exact h1 (allA _ a b ha hb)
  have m : ∀ u, u ≤ t + 1 → u + 2 ≤ many maps reads u := by
    intro u
    induction u with
    | zero => exact fun _ => m0
    | succ u ih =>
      intro le
      have := (many_grow u).2 (ne u (by omega))
      have := ih (by omega)
      omega
  have := m (t + 1) (Nat.le_refl _)
  have := many_le (maps := maps) (reads := reads) (t + 1)
  omega
end
end DL
/-! # Pl4: parting words: the first word by length and letters, and how it is led to -/
namespace DL
open PySem PySem.Spec L2
open PyProof.Rows hiding St
theorem find_flatMap {α β : Type} (f : α → List β) (p : β → Bool) : ∀ l : List α, (l.flatMap f).find? p = l.findSome? fun x => (f x).find? p
  | [] => rfl
  | x :: l => by
    rw [List.flatMap_cons, List.find?_append, List.findSome?_cons, find_flatMap f p l]
    cases (f x).find? p <;> rfl
theorem findSome_first {α β : Type} {g : α → Option β} {P : α → Bool} {x : α} {v : β} (hv : g x = some v) : ∀ l : List α, (∀ y ∈ l, P y = false → g y = none) → l.find? P = some x → l.findSome? g = some v
  | [], _, h => by cases h
  | y :: l, h0, h => by
    rw [List.find?_cons] at h
    rw [List.findSome?_cons]
    cases q : P y with
    | true =>
      rw [q] at h
      cases h
      rw [hv]
    | false =>
      rw [q] at h
      rw [h0 y List.mem_cons_self q]
      exact findSome_first hv l (fun z hz => h0 z (List.mem_cons_of_mem _ hz)) h
abbrev Tri := List Nat × Nat × Nat
section
variable (maps : List (List Nat)) (reads : List Nat)
def dl (j a : Nat) : Nat := at0 (maps.getD j []) a
def kid (p : Tri) (j : Nat) : Tri := (p.1 ++ [j], dl maps j p.2.1, dl maps j p.2.2)
def kids (p : Tri) : List Tri := (List.range maps.length).map (kid maps p)
def gen : Nat → Tri → List Tri
  | 0, p => [p]
  | t + 1, p => (gen t p).flatMap (kids maps)
def unl (p : Tri) : Bool := decide (at0 reads p.2.1 ≠ at0 reads p.2.2)
noncomputable def fstK (t a b : Nat) : Option Nat := (List.range maps.length).find? fun j => decide (at0 (cls maps reads t) (dl maps j a) ≠ at0 (cls maps reads t) (dl maps j b))
noncomputable def gw : Nat → Nat → Nat → List Nat
  | 0, _, _ => []
  | t + 1, a, b => ((fstK maps reads t a b).getD 0) :: gw t (dl maps ((fstK maps reads t a b).getD 0) a) (dl maps ((fstK maps reads t a b).getD 0) b)
end
section
variable {maps : List (List Nat)} {reads : List Nat}
theorem gen_front : ∀ (t : Nat) (p : Tri), gen maps (t + 1) p = (kids maps p).flatMap (gen maps t)
  | 0, p => by
    show ([p] : List Tri).flatMap (kids maps) = (kids maps p).flatMap fun q => [q]
    simp
  | t + 1, p => by
    show (gen maps (t + 1) p).flatMap (kids maps) = (kids maps p).flatMap fun q => (gen maps t q).flatMap (kids maps)
    rw [gen_front t p, List.flatMap_assoc]
theorem gen_len : ∀ (t : Nat) (p : Tri), (gen maps t p).length = maps.length ^ t
  | 0, p => rfl
  | t + 1, p => by
    show ((gen maps t p).flatMap (kids maps)).length = _
    rw [List.length_flatMap, Nat.pow_succ, ← gen_len t p]
    generalize gen maps t p = l
    induction l with
    | nil => simp
    | cons q l ih =>
      rw [List.map_cons, List.sum_cons, ih, List.length_cons]
      simp only [kids, List.length_map, List.length_range, Nat.add_mul, Nat.one_mul]
      omega
theorem dl_mem {j : Nat} (h : j < maps.length) : maps.getD j [] ∈ maps := by
  simp only [List.getD_eq_getElem?_getD, List.getElem?_eq_getElem h, Option.getD_some]
  exact List.getElem_mem h
theorem dl_lt (R : Rows maps reads) {j a : Nat} (hj : j < maps.length) (ha : a < reads.length) : dl maps j a < reads.length := R _ (dl_mem hj) a ha
theorem al_iff {t a b : Nat} : Al maps reads (t + 1) a b ↔ at0 reads a = at0 reads b ∧ ∀ j, j < maps.length → Al maps reads t (dl maps j a) (dl maps j b) := by
  refine and_congr Iff.rfl ⟨fun h j hj => h _ (dl_mem hj), fun h r hr => ?_⟩
  obtain ⟨j, hj, e⟩ := List.mem_iff_getElem.mp hr
  have := h j hj
  unfold dl at this
  rwa [show maps.getD j [] = r by simp [List.getD_eq_getElem?_getD, List.getElem?_eq_getElem hj, e]] at this
/-- alike along all words so long: none of that length parts them -/
theorem gen_none : ∀ (t : Nat) (w : List Nat) (a b : Nat), Al maps reads t a b → (gen maps t (w, a, b)).find? (unl reads) = none
  | 0, w, a, b, h => by
    have h : at0 reads a = at0 reads b := h
    show List.find? _ [(w, a, b)] = none
    simp [unl, h]
  | t + 1, w, a, b, h => by
    rw [gen_front, find_flatMap, List.findSome?_eq_none_iff]
    intro q hq
    obtain ⟨j, hj, rfl⟩ := List.mem_map.mp hq
    exact gen_none t _ _ _ ((al_iff.mp h).2 j (List.mem_range.mp hj))
theorem fstK_some (R : Rows maps reads) {t a b : Nat} (ha : a < reads.length) (hb : b < reads.length) (h1 : Al maps reads t a b) (h2 : ¬ Al maps reads (t + 1) a b) : ∃ j, j < maps.length ∧ fstK maps reads t a b = some j ∧ ¬ Al maps reads t (dl maps j a) (dl maps j b) := by
  cases q : fstK maps reads t a b with
  | none =>
    refine absurd (al_iff.mpr ⟨h1.rd, fun j hj => ?_⟩) h2
    have := List.find?_eq_none.mp q j (List.mem_range.mpr hj)
    refine (cls_at (dl_lt R hj ha) (dl_lt R hj hb)).mp ?_
    simpa using this
  | some j =>
    have hj := List.mem_range.mp (List.mem_of_find?_eq_some q)
    refine ⟨j, hj, rfl, fun al => ?_⟩
    have := List.find?_some q
    have e := (cls_at (dl_lt R hj ha) (dl_lt R hj hb)).mpr al
    simp [e] at this
theorem gen_some (R : Rows maps reads) : ∀ (t : Nat) (w : List Nat) (a b : Nat), a < reads.length → b < reads.length → (∀ u, u < t → Al maps reads u a b) → ¬ Al maps reads t a b → ∃ x y, (gen maps t (w, a, b)).find? (unl reads) = some (w ++ gw maps reads t a b, x, y)
  | 0, w, a, b, ha, hb, _, h => by
    have h : ¬ at0 reads a = at0 reads b := h
    refine ⟨a, b, ?_⟩
    show List.find? _ [(w, a, b)] = some (w ++ [], a, b)
    simp [unl, h]
  | t + 1, w, a, b, ha, hb, h0, h => by
    obtain ⟨j, hj, e, na⟩ := fstK_some R ha hb (h0 t (Nat.lt_succ_self t)) h
    obtain ⟨x, y, ih⟩ := gen_some R t (w ++ [j]) (dl maps j a) (dl maps j b) (dl_lt R hj ha) (dl_lt R hj hb) (fun u hu => (al_iff.mp (h0 (u + 1) (by omega))).2 j hj) na
    refine ⟨x, y, ?_⟩
    rw [gen_front, find_flatMap]
    unfold kids
    rw [List.findSome?_map]
    refine findSome_first (g := (fun q => (gen maps t q).find? (unl reads)) ∘ kid maps (w, a, b)) (P := fun j => decide (at0 (cls maps reads t) (dl maps j a) ≠ at0 (cls maps reads t) (dl maps j b))) (x := j) ?_ _ (fun i hi q => ?_) e
    · show (gen maps t (w ++ [j], dl maps j a, dl maps j b)).find? (unl reads) = _
      rw [ih]
      rw [show gw maps reads (t + 1) a b = ((fstK maps reads t a b).getD 0) :: gw maps reads t (dl maps ((fstK maps reads t a b).getD 0) a) (dl maps ((fstK maps reads t a b).getD 0) b) from rfl, e]
      simp
    · have hi := List.mem_range.mp hi
      refine gen_none t _ _ _ ((cls_at (dl_lt R hi ha) (dl_lt R hi hb)).mp ?_)
      simpa using q
theorem gw_len : ∀ (t a b : Nat), (gw maps reads t a b).length = t
  | 0, _, _ => rfl
  | t + 1, a, b => by
    rw [gw, List.length_cons, gw_len t]
theorem gw_lt (k : 1 ≤ maps.length) : ∀ (t a b : Nat), ∀ x ∈ gw maps reads t a b, x < maps.length
  | 0, _, _, x, h => by simp [gw] at h
  | t + 1, a, b, x, h => by
    rw [gw] at h
    rcases List.mem_cons.mp h with rfl | z
    · cases q : fstK maps reads t a b with
      | none => exact k
      | some j => exact List.mem_range.mp (List.mem_of_find?_eq_some q)
    · exact gw_lt k t _ _ x z
/-- never told apart, or first along words so long -/
theorem part_cases (R : Rows maps reads) {s a b : Nat} (ha : a < reads.length) (hb : b < reads.length) (e : cls maps reads (s + 1) = cls maps reads s) :
    (∀ t, Al maps reads t a b) ∨ ∃ t, t ≤ s ∧ (∀ u, u < t → Al maps reads u a b) ∧ ¬ Al maps reads t a b := by
  by_cases h : Al maps reads s a b
  · refine .inl fun t => ?_
    rcases Nat.lt_or_ge s t with z | z
    · have := cls_stays R e (t - s)
      rw [show s + (t - s) = t by omega] at this
      exact (cls_same.mp this a b ha hb).mpr h
    · exact h.le z
  · right
    have go : ∀ k, (∃ t, t ≤ k ∧ (∀ u, u < t → Al maps reads u a b) ∧ ¬ Al maps reads t a b) ∨ ∀ u, u ≤ k → Al maps reads u a b := by
      intro k
      induction k with
      | zero =>
        by_cases q : Al maps reads 0 a b
        · exact .inr fun u hu => by rw [Nat.le_zero.mp hu]; exact q
        · exact .inl ⟨0, Nat.le_refl _, fun u hu => by omega, q⟩
      | succ k ih =>
        rcases ih with ⟨t, h1, h2, h3⟩ | h
        · exact .inl ⟨t, by omega, h2, h3⟩
        · by_cases q : Al maps reads (k + 1) a b
          · exact .inr fun u hu => q.le hu
          · exact .inl ⟨k + 1, Nat.le_refl _, fun u hu => h u (by omega), q⟩
    rcases go s with z | z
    · exact z
    · exact absurd (z s (Nat.le_refl _)) h
/-- so early that a word of that length is short -/
theorem part_short (R : Rows maps reads) {t a b : Nat} (ha : a < reads.length) (hb : b < reads.length) (h1 : ∀ u, u < t → Al maps reads u a b) (h2 : ¬ Al maps reads t a b) : t = 0 ∨ t + 2 ≤ reads.length := by
  cases t with
  | zero => exact .inl rfl
  | succ t => exact .inr (part_early R ha hb h2 (h1 t (Nat.lt_succ_self t)))
end
end DL
/-! # Pl5: ranges, loops by their count, readings of rows -/
namespace DL
open PySem PySem.Spec L2
open PyProof.Rows hiding St
theorem rng0 (n : Nat) : rngL 0 n = (List.range n).map eI := by
  unfold rngL
  apply List.map_congr_left
  intro i _
  show D.int (0 + (i : Int)) = D.int (i : Int)
  rw [Int.zero_add]
theorem rngAt (i n : Nat) : rngL (i : Int) n = (List.range n).map fun k => eI (i + k) := by
  unfold rngL
  apply List.map_congr_left
  intro k _
  show D.int ((i : Int) + (k : Int)) = D.int ((i + k : Nat) : Int)
  rw [D.int.injEq]
  omega
theorem dwnAt (i : Nat) : dwnL (i : Int) i = (List.range i).map fun k => eI (i - k) := by
  unfold dwnL
  apply List.map_congr_left
  intro k hk
  have := List.mem_range.mp hk
  rw [D.int.injEq]
  omega
theorem in62_nat {n : Nat} (h : n ≤ 100000) : in62 (n : Int) = true := by
  unfold in62
  rw [Bool.and_eq_true]
  exact ⟨decide_eq_true (by omega), decide_eq_true (by omega)⟩
theorem fRng1_ok {n : Nat} (h : n ≤ 100000) (μ : Mu) : fRng1 [eI n] μ = .ok ((List.range n).map eI) μ := by
  show (if in62 (n : Int) = true then Out.ok (rngL 0 (n : Int).toNat) μ else .stuck) = _
  rw [if_pos (in62_nat h), Int.toNat_natCast, rng0]
theorem fRng2_ok {i n : Nat} (h1 : i ≤ 100000) (h : n ≤ 100000) (μ : Mu) : fRng2 [eI i, eI n] μ = .ok ((List.range (n - i)).map fun k => eI (i + k)) μ := by
  show (if in62 (i : Int) = true ∧ in62 (n : Int) = true then Out.ok (rngL (i : Int) ((n : Int) - (i : Int)).toNat) μ else .stuck) = _
  rw [if_pos ⟨in62_nat h1, in62_nat h⟩, show ((n : Int) - (i : Int)).toNat = n - i by omega, rngAt]
theorem fRng3_ok {n : Nat} (h : n ≤ 100000) (μ : Mu) : fRng3 [eI n, .int 0, .int (-1)] μ = .ok ((List.range n).map fun k => eI (n - k)) μ := by
  show (if in62 (n : Int) = true ∧ in62 0 = true ∧ (-1 : Int) = -1 then Out.ok (dwnL (n : Int) ((n : Int) - 0).toNat) μ else .stuck) = _
  rw [if_pos ⟨in62_nat h, by decide, rfl⟩, show ((n : Int) - 0).toNat = n by omega, dwnAt]
theorem line_le {n : Nat} (h : n ≤ 100000) : line n = true := decide_eq_true (by omega)
theorem at0_get {l : List Nat} {a : Nat} (h : a < l.length) : l[a]? = some (at0 l a) := by
  unfold at0
  rw [List.getD_eq_getElem?_getD, List.getElem?_eq_getElem h]
  rfl
theorem at0_mem {l : List Nat} {a : Nat} (h : a < l.length) : at0 l a ∈ l := List.mem_of_getElem? (at0_get h)
theorem ixR {l : List Nat} {a : Nat} (h : a < l.length) (μ : Mu) : fIx2 (eR l) (eI a) μ = .ok (eI (at0 l a)) μ := ix_map _ rfl (fun _ _ z => by cases z) (at0_get h)
theorem ixM {maps : List (List Nat)} {j : Nat} (h : j < maps.length) (μ : Mu) : fIx2 (.tup (maps.map eR)) (eI j) μ = .ok (eR (maps.getD j [])) μ :=
  ix_map _ rfl (fun _ _ z => by cases z) (by rw [List.getD_eq_getElem?_getD, List.getElem?_eq_getElem h]; rfl)
theorem ixF {f : Nat → D} {n a : Nat} (h : a < n) (μ : Mu) : fIx2 (.lst ((List.range n).map f)) (eI a) μ = .ok (f a) μ :=
  ix_map (f := f) _ rfl (fun _ _ z => by cases z) (List.getElem?_range h)
theorem ixL {f : Nat → D} {n : Nat} (μ : Mu) : fIx2 (.lst ((List.range (n + 1)).map f)) (.int (-1)) μ = .ok (f n) μ :=
  last_map (f := f) (l := List.range n) _ (by rw [List.range_succ]; rfl) (fun _ _ z => by cases z)
theorem ixLT {f : Nat → D} {n : Nat} (μ : Mu) : fIx2 (.tup ((List.range (n + 1)).map f)) (.int (-1)) μ = .ok (f n) μ :=
  last_map (f := f) (l := List.range n) _ (by rw [List.range_succ]; rfl) (fun _ _ z => by cases z)
theorem lenR (l : List Nat) (μ : Mu) : fLen2 [eR l] μ = .ok (eI l.length) μ := by
  have := len_seq (l := l.map eI) (μ := μ) (eR l) rfl fun _ _ z => by cases z
  rwa [List.length_map] at this
theorem lenM {α : Type} (f : α → D) (l : List α) (μ : Mu) : fLen2 [.tup (l.map f)] μ = .ok (eI l.length) μ := by
  have := len_seq (l := l.map f) (μ := μ) (.tup (l.map f)) rfl fun _ _ z => by cases z
  rwa [List.length_map] at this
theorem lenL {α : Type} (f : α → D) (l : List α) (μ : Mu) : fLen2 [.lst (l.map f)] μ = .ok (eI l.length) μ := by
  have := len_seq (l := l.map f) (μ := μ) (.lst (l.map f)) rfl fun _ _ z => by cases z
  rwa [List.length_map] at this
theorem neI (i j : Nat) (μ : Mu) : fNe (eI i) (eI j) μ = .ok (.bl (decide (i ≠ j))) μ := by
  have e : SeqAt.shaped (.int (i : Int)) = true := rfl
  have e' : SeqAt.shaped (.int (j : Int)) = true := rfl
  show (if SeqAt.shaped (.int (i : Int)) = true ∧ SeqAt.shaped (.int (j : Int)) = true then Out.ok (D.bl (!PyData.eqv (.int (i : Int)) (.int (j : Int)))) μ else .stuck) = _
  rw [if_pos ⟨e, e'⟩]
  have : (!PyData.eqv (.int (i : Int)) (.int (j : Int))) = decide (i ≠ j) := by
    show (!decide ((i : Int) = (j : Int))) = decide (i ≠ j)
    rw [Bool.eq_iff_iff]
    simp only [Bool.not_eq_true', decide_eq_false_iff_not, decide_eq_true_eq]
    omega
  rw [this]
theorem eqI (i j : Nat) (μ : Mu) : fEq (eI i) (eI j) μ = .ok (.bl (decide (i = j))) μ := by
  have e : SeqAt.shaped (.int (i : Int)) = true := rfl
  have e' : SeqAt.shaped (.int (j : Int)) = true := rfl
  show (if SeqAt.shaped (.int (i : Int)) = true ∧ SeqAt.shaped (.int (j : Int)) = true then Out.ok (D.bl (PyData.eqv (.int (i : Int)) (.int (j : Int)))) μ else .stuck) = _
  rw [if_pos ⟨e, e'⟩]
  have : (PyData.eqv (.int (i : Int)) (.int (j : Int))) = decide (i = j) := by
    show decide ((i : Int) = (j : Int)) = decide (i = j)
    rw [Bool.eq_iff_iff]
    simp only [decide_eq_true_eq]
    omega
  rw [this]
/-! ### ranges (the kernel must never look into a range's bound: no definitional steps here) -/
theorem bnd_eq {α β : Type} {o : Out α} {a : α} {μ : Mu} (f : α → Mu → Out β) (h : o = .ok a μ) : o.bnd f = f a μ := by
  subst h
  unfold Out.bnd
  rfl
/-- as bnd_ok, but no step of the kernel: it would look into f first -/
theorem bnd_okN {α β : Type} (a : α) (m : Mu) (f : α → Mu → Out β) : (Out.ok a m).bnd f = f a m := bnd_eq f rfl
theorem go_okN {α : Type} (a : α) (m : Mu) (ρ : Env) (f : α → Mu → SOut) : (Out.ok a m).go ρ f = f a m := by
  have : ∀ o : Out α, o = .ok a m → o.go ρ f = f a m := fun o h => by subst h; rfl
  exact this _ rfl
theorem out_rtN (d : D) (m : Mu) : (SOut.rt d m).out = .ok d m := rfl
theorem out_nxN (ρ : Env) (m : Mu) : (SOut.nx ρ m).out = .ok .non m := rfl
theorem out_exnN (x : Str) (fs : List (Str × D)) (ρ : Env) (m : Mu) : (SOut.exn x fs ρ m).out = .exn x fs m := rfl
theorem cons1 {m : SE} {ρ : Env} {μ μ1 : Mu} {d : D} (h : m ρ μ = .ok d μ1) : mCons m mNil ρ μ = .ok [d] μ1 := by
  simp [mCons, mNil, h]
theorem cons2 {m m2 : SE} {ρ : Env} {μ μ1 μ2 : Mu} {d e : D} (h : m ρ μ = .ok d μ1) (h2 : m2 ρ μ1 = .ok e μ2) : mCons m (mCons m2 mNil) ρ μ = .ok [d, e] μ2 := by
  simp [mCons, mNil, h, h2]
theorem cons3 {m m2 m3 : SE} {ρ : Env} {μ μ1 μ2 μ3 : Mu} {d e f : D} (h : m ρ μ = .ok d μ1) (h2 : m2 ρ μ1 = .ok e μ2) (h3 : m3 ρ μ2 = .ok f μ3) : mCons m (mCons m2 (mCons m3 mNil)) ρ μ = .ok [d, e, f] μ3 := by
  simp [mCons, mNil, h, h2, h3]
theorem rng1 {m : SE} {ρ : Env} {μ μ1 : Mu} {n : Nat} (hn : n ≤ 100000) (h : m ρ μ = .ok (eI n) μ1) : mRng fRng1 (mCons m mNil) ρ μ = .ok ((List.range n).map eI) μ1 :=
  (bnd_eq fRng1 (cons1 h)).trans (fRng1_ok hn μ1)
theorem rng2 {m m2 : SE} {ρ : Env} {μ μ1 μ2 : Mu} {i n : Nat} (hi : i ≤ 100000) (hn : n ≤ 100000) (h : m ρ μ = .ok (eI i) μ1) (h2 : m2 ρ μ1 = .ok (eI n) μ2) : mRng fRng2 (mCons m (mCons m2 mNil)) ρ μ = .ok ((List.range (n - i)).map fun k => eI (i + k)) μ2 :=
  (bnd_eq fRng2 (cons2 h h2)).trans (fRng2_ok hi hn μ2)
theorem rng3 {m m2 m3 : SE} {ρ : Env} {μ μ1 μ2 μ3 : Mu} {n : Nat} (hn : n ≤ 100000) (h : m ρ μ = .ok (eI n) μ1) (h2 : m2 ρ μ1 = .ok (.int 0) μ2) (h3 : m3 ρ μ2 = .ok (.int (-1)) μ3) : mRng fRng3 (mCons m (mCons m2 (mCons m3 mNil))) ρ μ = .ok ((List.range n).map fun k => eI (n - k)) μ3 :=
  (bnd_eq fRng3 (cons3 h h2 h3)).trans (fRng3_ok hn μ3)
theorem rngLen {i n : Nat} {ρ : Env} {μ : Mu} {d : D} (hn : n ≤ 100000) (hd : fLen2 [d] μ = .ok (eI n) μ) (h : ρ[i]? = some (some (.val d))) : mRng fRng1 (mCons (mApp fLen2 (mCons (mVal i) mNil)) mNil) ρ μ = .ok ((List.range n).map eI) μ :=
  rng1 hn (by simp [mApp, mCons, mNil, mVal, h, hd])
/-! ### loops by their count -/
theorem forL_rng {tg : TgD} {m : SS} (f : Nat → D) (I : Nat → Env → Mu → Prop) : ∀ (n k : Nat) (ρ : Env) (μ : Mu), I k ρ μ →
    (∀ j, k ≤ j → j < k + n → ∀ ρ μ, I j ρ μ → ∃ ρ1 ρ2 μ2, tg (f j) ρ = some ρ1 ∧ (m ρ1 μ = .nx ρ2 μ2 ∨ m ρ1 μ = .ct ρ2 μ2) ∧ I (j + 1) ρ2 μ2) →
    ∃ ρ' μ', forL tg m ((List.range' k n).map f) ρ μ = .nx ρ' μ' ∧ I (k + n) ρ' μ'
  | 0, k, ρ, μ, h, _ => ⟨ρ, μ, rfl, h⟩
  | n + 1, k, ρ, μ, h, hs => by
    obtain ⟨ρ1, ρ2, μ2, e1, e2, h2⟩ := hs k (Nat.le_refl _) (by omega) ρ μ h
    obtain ⟨ρ', μ', e3, h3⟩ := forL_rng (tg := tg) (m := m) f I n (k + 1) ρ2 μ2 h2 fun j h1 h2 => hs j (by omega) (by omega)
    refine ⟨ρ', μ', ?_, by rw [show k + (n + 1) = k + 1 + n by omega]; exact h3⟩
    rw [List.range'_succ, List.map_cons]
    unfold forL
    rw [e1]
    rcases e2 with e2 | e2 <;> simp only [e2] <;> exact e3
/-- it is left at T -/
theorem forL_rngx {tg : TgD} {m : SS} (f : Nat → D) (I : Nat → Env → Mu → Prop) (T : Nat) (v : D) (μv : Mu) : ∀ (n k : Nat) (ρ : Env) (μ : Mu), I k ρ μ → k ≤ T → T < k + n →
    (∀ j, k ≤ j → j < T → ∀ ρ μ, I j ρ μ → ∃ ρ1 ρ2 μ2, tg (f j) ρ = some ρ1 ∧ (m ρ1 μ = .nx ρ2 μ2 ∨ m ρ1 μ = .ct ρ2 μ2) ∧ I (j + 1) ρ2 μ2) →
    (∀ ρ μ, I T ρ μ → ∃ ρ1, tg (f T) ρ = some ρ1 ∧ m ρ1 μ = .rt v μv) →
    forL tg m ((List.range' k n).map f) ρ μ = .rt v μv
  | 0, k, ρ, μ, h, h1, h2, _, _ => by omega
  | n + 1, k, ρ, μ, h, h1, h2, hs, ht => by
    rw [List.range'_succ, List.map_cons]
    unfold forL
    by_cases q : k = T
    · subst q
      obtain ⟨ρ1, e1, e2⟩ := ht ρ μ h
      rw [e1]
      simp only [e2]
    · obtain ⟨ρ1, ρ2, μ2, e1, e2, h3⟩ := hs k (Nat.le_refl _) (by omega) ρ μ h
      have e3 := forL_rngx (tg := tg) (m := m) f I T v μv n (k + 1) ρ2 μ2 h3 (by omega) (by omega) (fun j h1 h2 => hs j (by omega) h2) ht
      rw [e1]
      rcases e2 with e2 | e2 <;> simp only [e2] <;> exact e3
/-- I by what is still to come -/
theorem forL_pre {α σ : Type} {tg : TgD} {m : SS} (enc : α → D) (f : σ → α → σ) (I : List α → σ → Env → Mu → Prop) : ∀ (xs : List α) (s : σ) (ρ : Env) (μ : Mu), I xs s ρ μ →
    (∀ x r s ρ μ, I (x :: r) s ρ μ → ∃ ρ1 ρ2 μ2, tg (enc x) ρ = some ρ1 ∧ (m ρ1 μ = .nx ρ2 μ2 ∨ m ρ1 μ = .ct ρ2 μ2) ∧ I r (f s x) ρ2 μ2) →
    ∃ ρ' μ', forL tg m (xs.map enc) ρ μ = .nx ρ' μ' ∧ I [] (xs.foldl f s) ρ' μ'
  | [], s, ρ, μ, h, _ => ⟨ρ, μ, rfl, h⟩
  | x :: xs, s, ρ, μ, h, hs => by
    obtain ⟨ρ1, ρ2, μ2, e1, e2, h2⟩ := hs x xs s ρ μ h
    obtain ⟨ρ', μ', e3, h3⟩ := forL_pre (tg := tg) (m := m) enc f I xs (f s x) ρ2 μ2 h2 hs
    refine ⟨ρ', μ', ?_, h3⟩
    rw [List.map_cons]
    unfold forL
    rw [e1]
    rcases e2 with e2 | e2 <;> simp only [e2] <;> exact e3
theorem foldl_flat {α β : Type} (f : α → List β) : ∀ (l : List α) (acc : List β), l.foldl (fun a x => a ++ f x) acc = acc ++ l.flatMap f
  | [], acc => by simp
  | x :: l, acc => by rw [List.foldl_cons, foldl_flat f l, List.flatMap_cons, List.append_assoc]
/-! ### the greatest number -/
theorem ints_map : ∀ l : List Nat, intsOf (l.map eI) = some (l.map fun (n : Nat) => (n : Int))
  | [] => rfl
  | n :: l => by
    show (intsOf (l.map eI)).map ((n : Int) :: ·) = _
    rw [ints_map l]
    rfl
theorem maxL_sp : ∀ (l : List Int) (m : Int), (maxL m l = m ∨ maxL m l ∈ l) ∧ m ≤ maxL m l ∧ ∀ y ∈ l, y ≤ maxL m l
  | [], m => ⟨.inl rfl, Int.le_refl _, fun y hy => by simp at hy⟩
  | z :: xs, x => by
    obtain ⟨a, b, c⟩ := maxL_sp xs (if z > x then z else x)
    have e : maxL x (z :: xs) = maxL (if z > x then z else x) xs := rfl
    rw [e]
    by_cases h : z > x
    · rw [if_pos h] at a b c ⊢
      refine ⟨.inr (a.elim (fun q => by rw [q]; exact List.mem_cons_self) (List.mem_cons_of_mem _)), by omega, fun y hy => ?_⟩
      rcases List.mem_cons.mp hy with rfl | q
      · exact b
      · exact c y q
    · rw [if_neg h] at a b c ⊢
      refine ⟨a.imp id (List.mem_cons_of_mem _), b, fun y hy => ?_⟩
      rcases List.mem_cons.mp hy with rfl | q
      · omega
      · exact c y q
theorem max_fc {α : Type} [DecidableEq α] {l : List α} (h : l ≠ []) (μ : Mu) : fMax2 [eR (fcOf l)] μ = .ok (.int (((namesOf l).length : Int) - 1)) μ := by
  have hp : 0 < (namesOf l).length := by
    cases l with
    | nil => exact absurd rfl h
    | cons x l => exact List.length_pos_of_mem (names_mem.mpr List.mem_cons_self)
  have top : (namesOf l).length - 1 ∈ fcOf l := by
    have hm := List.getElem_mem (l := namesOf l) (n := (namesOf l).length - 1) (by omega)
    have := (names_nodup l).idxOf_getElem ((namesOf l).length - 1) (by omega)
    rw [← this]
    exact List.mem_map_of_mem (names_mem.mp hm)
  have low : ∀ n ∈ fcOf l, n < (namesOf l).length := fc_lt
  cases q : fcOf l with
  | nil => rw [q] at top; simp at top
  | cons x r =>
    rw [q] at top low
    show (match intsOf ((x :: r).map eI) with
      | some (x :: l) => Out.ok (D.int (maxL x l)) μ
      | _ => .stuck) = _
    rw [ints_map, List.map_cons]
    obtain ⟨m1, m2, m3⟩ := maxL_sp (r.map fun (n : Nat) => (n : Int)) (x : Int)
    have le : maxL (x : Int) (r.map fun (n : Nat) => (n : Int)) ≤ ((namesOf l).length : Int) - 1 := by
      rcases m1 with z | z
      · rw [z]
        have := low x List.mem_cons_self
        omega
      · obtain ⟨n, hn, e⟩ := List.mem_map.mp z
        rw [← e]
        have := low n (List.mem_cons_of_mem _ hn)
        omega
    have ge : ((namesOf l).length : Int) - 1 ≤ maxL (x : Int) (r.map fun (n : Nat) => (n : Int)) := by
      rcases List.mem_cons.mp top with z | z
      · omega
      · have := m3 _ (List.mem_map_of_mem (f := fun (n : Nat) => (n : Int)) z)
        omega
    show Out.ok (D.int (maxL _ _)) μ = _
    rw [Int.le_antisymm le ge]
end DL
/-! # Pl6: steps of printed programs, one lemma each (nothing is left to the kernel) -/
namespace DL
open PySem PySem.Spec L2
open PyProof.Rows hiding St
section
variable {ρ ρ1 ρ2 : Env} {μ μ1 μ2 μ3 : Mu} {d e f : D} {o : SOut}
theorem fn_rt {n N : Nat} {m : SS} {ds : List D} (hn : ds.length = n) (h : m (env0 N ds) μ = .rt d μ1) : mFn n N m ds μ = .ok d μ1 := by
  unfold mFn
  rw [if_pos hn, h]
  rfl
theorem seq_o {m m2 : SS} (h : m ρ μ = .nx ρ1 μ1) (h2 : m2 ρ1 μ1 = o) : sSeq m m2 ρ μ = o := by
  unfold sSeq
  rw [h]
  exact h2
theorem seq_x {m m2 : SS} (h : m ρ μ = .rt d μ1) : sSeq m m2 ρ μ = .rt d μ1 := by
  unfold sSeq
  rw [h]
  rfl
theorem set_o {i : Nat} {m : SE} (h : m ρ μ = .ok d μ1) : sSet i m ρ μ = .nx (ρ.set i (some (.val d))) μ1 := by
  unfold sSet
  rw [h]
  rfl
theorem setN_o {i : Nat} {m : SN} {ds : List D} (h : m ρ μ = .ok ds μ1) : sSetN i m ρ μ = .nx (ρ.set i (some (.own (.lst ds)))) μ1 := by
  unfold sSetN
  rw [h]
  rfl
theorem app_o {i : Nat} {m : SE} {es : List D} (ho : ρ[i]? = some (some (.own (.lst es)))) (h : m ρ μ = .ok d μ1) (hl : es.length < 16777216) : sApp i m ρ μ = .nx (ρ.set i (some (.own (.lst (es ++ [d]))))) μ1 := by
  unfold sApp ownAt
  rw [ho]
  simp only
  rw [h, go_okN, if_pos hl]
  rfl
theorem ext_o {i : Nat} {m : SE} {es l : List D} (ho : ρ[i]? = some (some (.own (.lst es)))) (h : m ρ μ = .ok (.lst l) μ1) (hl : es.length + l.length ≤ 16777216) : sExt i m ρ μ = .nx (ρ.set i (some (.own (.lst (es ++ l))))) μ1 := by
  unfold sExt ownAt
  rw [ho]
  simp only
  rw [h, go_okN]
  simp only [listOf]
  rw [if_pos hl]
  rfl
theorem ret_o {m : SE} (h : m ρ μ = .ok d μ1) : sRet m ρ μ = .rt d μ1 := by
  unfold sRet
  rw [h]
  rfl
theorem retO_o {i : Nat} {es : List D} (ho : ρ[i]? = some (some (.own (.lst es)))) : sRetO i ρ μ = .rt (.lst es) μ := by
  unfold sRetO ownAt
  rw [ho]
theorem frz_o {i : Nat} {m : SS} {es : OwnC} (ho : ρ[i]? = some (some (.own es))) (h : m (ρ.set i (some (.val es.val))) μ = o) : sFrz i m ρ μ = o := by
  unfold sFrz
  rw [ho]
  exact h
theorem asg_o {m : SE} {tg : TgD} (h : m ρ μ = .ok d μ1) (ht : tg d ρ = some ρ1) : sAsg m tg ρ μ = .nx ρ1 μ1 := by
  unfold sAsg
  rw [h, go_okN]
  simp only [ht]
theorem for_o {mi : Env → Mu → Out (List D)} {tg : TgD} {m : SS} {ds : List D} (h : mi ρ μ = .ok ds μ1) (hl : forL tg m ds ρ μ1 = o) : sFor mi tg m ρ μ = o := by
  unfold sFor
  rw [h, go_okN]
  exact hl
theorem if_t {t : ST'} {a b : SS} (h : t ρ μ = .ok true μ1) (ha : a ρ μ1 = o) : sIf t a b ρ μ = o := by
  unfold sIf
  rw [h, go_okN]
  exact ha
theorem if_f {t : ST'} {a b : SS} (h : t ρ μ = .ok false μ1) (hb : b ρ μ1 = o) : sIf t a b ρ μ = o := by
  unfold sIf
  rw [h, go_okN]
  exact hb
theorem nx_o : sNx ρ μ = .nx ρ μ := rfl
theorem call1 {m : SE} {F : FD} {r : Out D} (h : m ρ μ = .ok d μ1) (hF : F [d] μ1 = r) : mCall 1 F (mCons m mNil) ρ μ = r := by
  unfold mCall
  rw [bnd_eq _ (cons1 h), if_pos (show [d].length = 1 from rfl)]
  exact hF
theorem call2 {m m2 : SE} {F : FD} {r : Out D} (h : m ρ μ = .ok d μ1) (h2 : m2 ρ μ1 = .ok e μ2) (hF : F [d, e] μ2 = r) : mCall 2 F (mCons m (mCons m2 mNil)) ρ μ = r := by
  unfold mCall
  rw [bnd_eq _ (cons2 h h2), if_pos (show [d, e].length = 2 from rfl)]
  exact hF
theorem call3 {m m2 m3 : SE} {F : FD} {r : Out D} (h : m ρ μ = .ok d μ1) (h2 : m2 ρ μ1 = .ok e μ2) (h3 : m3 ρ μ2 = .ok f μ3) (hF : F [d, e, f] μ3 = r) : mCall 3 F (mCons m (mCons m2 (mCons m3 mNil))) ρ μ = r := by
  unfold mCall
  rw [bnd_eq _ (cons3 h h2 h3), if_pos (show [d, e, f].length = 3 from rfl)]
  exact hF
theorem call4 {m m2 m3 m4 : SE} {F : FD} {r : Out D} {g : D} {μ4 : Mu} (h : m ρ μ = .ok d μ1) (h2 : m2 ρ μ1 = .ok e μ2) (h3 : m3 ρ μ2 = .ok f μ3) (h4 : m4 ρ μ3 = .ok g μ4) (hF : F [d, e, f, g] μ4 = r) : mCall 4 F (mCons m (mCons m2 (mCons m3 (mCons m4 mNil)))) ρ μ = r := by
  unfold mCall
  rw [bnd_eq _ (show mCons m (mCons m2 (mCons m3 (mCons m4 mNil))) ρ μ = .ok [d, e, f, g] μ4 by simp [mCons, mNil, h, h2, h3, h4]), if_pos (show [d, e, f, g].length = 4 from rfl)]
  exact hF
theorem ap1 {m : SE} {F : List D → Mu → Out D} {r : Out D} (h : m ρ μ = .ok d μ1) (hF : F [d] μ1 = r) : mApp F (mCons m mNil) ρ μ = r := by
  unfold mApp
  rw [bnd_eq _ (cons1 h)]
  exact hF
theorem ap2 {m m2 : SE} {F : List D → Mu → Out D} {r : Out D} (h : m ρ μ = .ok d μ1) (h2 : m2 ρ μ1 = .ok e μ2) (hF : F [d, e] μ2 = r) : mApp F (mCons m (mCons m2 mNil)) ρ μ = r := by
  unfold mApp
  rw [bnd_eq _ (cons2 h h2)]
  exact hF
theorem ap3 {m m2 m3 : SE} {F : List D → Mu → Out D} {r : Out D} (h : m ρ μ = .ok d μ1) (h2 : m2 ρ μ1 = .ok e μ2) (h3 : m3 ρ μ2 = .ok f μ3) (hF : F [d, e, f] μ3 = r) : mApp F (mCons m (mCons m2 (mCons m3 mNil))) ρ μ = r := by
  unfold mApp
  rw [bnd_eq _ (cons3 h h2 h3)]
  exact hF
theorem op_o {F : D → D → Mu → Out D} {m m2 : SE} {r : Out D} (h : m ρ μ = .ok d μ1) (h2 : m2 ρ μ1 = .ok e μ2) (hF : F d e μ2 = r) : mOp F m m2 ρ μ = r := by
  unfold mOp
  rw [h, bnd_okN, h2, bnd_okN]
  exact hF
theorem test_o {m : SE} {b : Bool} (h : m ρ μ = .ok (.bl b) μ1) : mTest m ρ μ = .ok b μ1 := by
  unfold mTest
  rw [h, bnd_okN]
  rfl
theorem val_o {i : Nat} (h : ρ[i]? = some (some (.val d))) : mVal i ρ μ = .ok d μ := by
  unfold mVal
  rw [h]
theorem var_v {i : Nat} (h : ρ[i]? = some (some (.val d))) : mVar i ρ μ = .ok d μ := by
  unfold mVar
  rw [h]
theorem var_o {i : Nat} {es : OwnC} (h : ρ[i]? = some (some (.own es))) : mVar i ρ μ = .ok es.val μ := by
  unfold mVar
  rw [h]
theorem c_o : mC d ρ μ = .ok d μ := rfl
theorem seqI {m : SE} {l : List D} (h : m ρ μ = .ok d μ1) (hd : itemsOf d = some l) : mSeq m ρ μ = .ok l μ1 := by
  unfold mSeq
  rw [h, bnd_okN]
  simp only [hd]
theorem enumI {m : SE} {l : List D} (h : m ρ μ = .ok d μ1) (hd : itemsOf d = some l) : mEnum m ρ μ = .ok (enumL l) μ1 := by
  unfold mEnum
  rw [h, bnd_okN]
  simp only [hd]
theorem ncomp_o {mi : SI} {tg : TgD} {mt : ST'} {me : SE} {vs : List Nat} {ds es : List D} (h : mi ρ μ = .ok ds μ1) (hc : compL tg mt me (wipeE ρ vs) ds [] μ1 = .ok es μ2) : nComp mi tg mt me vs ρ μ = .ok es μ2 := by
  unfold nComp
  rw [h, bnd_okN]
  exact hc
theorem ls_o {m : SN} {es : List D} (h : m ρ μ = .ok es μ1) : mLs m ρ μ = .ok (.lst es) μ1 := by
  unfold mLs
  rw [h, bnd_okN]
theorem comp_o {mi : SI} {tg : TgD} {mt : ST'} {me : SE} {vs : List Nat} {ds es : List D} (h : mi ρ μ = .ok ds μ1) (hc : compL tg mt me (wipeE ρ vs) ds [] μ1 = .ok es μ2) : mLs (nComp mi tg mt me vs) ρ μ = .ok (.lst es) μ2 := ls_o (ncomp_o h hc)
theorem disp0 : nDisp mNil ρ μ = .ok [] μ := rfl
theorem disp1 {m : SE} (h : m ρ μ = .ok d μ1) : nDisp (mCons m mNil) ρ μ = .ok [d] μ1 := by
  unfold nDisp
  rw [bnd_eq _ (cons1 h), if_pos (line_le (by simp))]
end
end DL
/-! # Pl7: what is come to, one behind another; each kept once -/
namespace DL
section
variable {α β : Type} [DecidableEq β] (key : α → β)
/-- put in behind, if its key is new -/
def addK (acc : List α) (x : α) : List α := if key x ∈ acc.map key then acc else acc ++ [x]
def newK (acc l : List α) : List α := l.foldl (addK key) acc
theorem addK_keys (acc : List α) (x : α) : (addK key acc x).map key = addN (acc.map key) (key x) := by
  unfold addK addN
  split <;> simp
theorem newK_keys : ∀ (l acc : List α), (newK key acc l).map key = (l.map key).foldl addN (acc.map key)
  | [], _ => rfl
  | x :: l, acc => by
    show (newK key (addK key acc x) l).map key = _
    rw [newK_keys l, addK_keys]
    rfl
theorem addK_pre (acc : List α) (x : α) : acc <+: addK key acc x := by
  unfold addK
  split
  · exact List.prefix_refl _
  · exact List.prefix_append _ _
theorem newK_pre : ∀ (l acc : List α), acc <+: newK key acc l
  | [], acc => List.prefix_refl _
  | x :: l, acc => (addK_pre key acc x).trans (newK_pre l _)
theorem newK_app (l m acc : List α) : newK key acc (l ++ m) = newK key (newK key acc l) m := List.foldl_append
theorem newK_old : ∀ (l acc : List α), (∀ x ∈ l, key x ∈ acc.map key) → newK key acc l = acc
  | [], _, _ => rfl
  | x :: l, acc, h => by
    show newK key (addK key acc x) l = acc
    have e : addK key acc x = acc := if_pos (h x List.mem_cons_self)
    rw [e]
    exact newK_old l acc fun y hy => h y (List.mem_cons_of_mem _ hy)
theorem newK_mem : ∀ (l acc : List α) (x : α), x ∈ newK key acc l → x ∈ acc ∨ x ∈ l
  | [], acc, x, h => .inl h
  | y :: l, acc, x, h => by
    rcases newK_mem l (addK key acc y) x h with z | z
    · unfold addK at z
      split at z
      · exact .inl z
      · rcases List.mem_append.mp z with z | z
        · exact .inl z
        · exact .inr (by rw [List.mem_singleton.mp z]; exact List.mem_cons_self)
    · exact .inr (List.mem_cons_of_mem _ z)
theorem newK_key {l acc : List α} {b : β} : b ∈ (newK key acc l).map key ↔ b ∈ acc.map key ∨ b ∈ l.map key := by
  rw [newK_keys, foldl_mem]
theorem newK_nodup {l acc : List α} (h : (acc.map key).Nodup) : ((newK key acc l).map key).Nodup := by
  rw [newK_keys]
  exact foldl_nodup _ _ h
variable (kids : α → List α) (root : α)
/-- one step more -/
def stepK (l : List α) : List α := newK key [root] (l.flatMap kids)
theorem stepK_pre {l m : List α} (h : l <+: m) : stepK key kids root l <+: stepK key kids root m := by
  obtain ⟨r, rfl⟩ := h
  unfold stepK
  rw [List.flatMap_append, newK_app]
  exact newK_pre key _ _
/-- what stands already adds nothing -/
theorem newK_flat (hk : ∀ x y, key x = key y → (kids x).map key = (kids y).map key) : ∀ (l s acc : List α), (∀ x ∈ s, ∀ z ∈ kids x, key z ∈ acc.map key) →
    ∃ r, newK key s l = s ++ r ∧ newK key acc (l.flatMap kids) = newK key acc (r.flatMap kids)
  | [], s, acc, _ => ⟨[], by simp [newK], rfl⟩
  | x :: l, s, acc, h => by
    by_cases q : key x ∈ s.map key
    · have e : newK key s (x :: l) = newK key s l := by
        show newK key (addK key s x) l = _
        rw [show addK key s x = s from if_pos q]
      have e2 : newK key acc (kids x) = acc := newK_old key _ _ fun z hz => by
        obtain ⟨y, hy, ey⟩ := List.mem_map.mp q
        have : key z ∈ (kids y).map key := by rw [hk y x ey]; exact List.mem_map_of_mem hz
        obtain ⟨w, hw, ew⟩ := List.mem_map.mp this
        rw [← ew]
        exact h y hy w hw
      obtain ⟨r, e3, e4⟩ := newK_flat hk l s acc h
      exact ⟨r, by rw [e, e3], by rw [List.flatMap_cons, newK_app, e2, e4]⟩
    · have e : newK key s (x :: l) = newK key (s ++ [x]) l := by
        show newK key (addK key s x) l = _
        rw [show addK key s x = s ++ [x] from if_neg q]
      obtain ⟨r, e3, e4⟩ := newK_flat hk l (s ++ [x]) (newK key acc (kids x)) fun y hy z hz => by
        rw [newK_key]
        rcases List.mem_append.mp hy with hy | hy
        · exact .inl (h y hy z hz)
        · rw [List.mem_singleton.mp hy] at hz
          exact .inr (List.mem_map_of_mem hz)
      exact ⟨x :: r, by rw [e, e3]; simp, by rw [List.flatMap_cons, newK_app, e4, List.flatMap_cons, newK_app]⟩
/-- all that so many steps lead to, each as first come to -/
def upto : Nat → List α
  | 0 => [root]
  | t + 1 => stepK key kids root (upto t)
theorem upto_pre : ∀ t, upto key kids root t <+: upto key kids root (t + 1)
  | 0 => newK_pre key _ _
  | t + 1 => stepK_pre key kids root (upto_pre t)
theorem upto_le {t u : Nat} (h : t ≤ u) : upto key kids root t <+: upto key kids root u := by
  induction u with
  | zero => rw [Nat.le_zero.mp h]; exact List.prefix_refl _
  | succ u ih =>
    rcases Nat.lt_or_ge t (u + 1) with z | z
    · exact (ih (by omega)).trans (upto_pre key kids root u)
    · rw [show t = u + 1 by omega]; exact List.prefix_refl _
theorem upto_nodup : ∀ t, ((upto key kids root t).map key).Nodup
  | 0 => by simp [upto]
  | t + 1 => newK_nodup key (by simp)
theorem upto_root (t : Nat) : ∃ r, upto key kids root t = root :: r := by
  obtain ⟨r, e⟩ := upto_le key kids root (Nat.zero_le t)
  exact ⟨r, e.symm⟩
/-- a list that a step leads to itself holds all -/
theorem upto_fix {l : List α} (h : stepK key kids root l = l) : ∀ t, upto key kids root t <+: l
  | 0 => by
    have := newK_pre key (l.flatMap kids) [root]
    unfold stepK at h
    rwa [h] at this
  | t + 1 => by
    have := stepK_pre key kids root (upto_fix h t)
    rwa [h] at this
theorem upto_stay {t : Nat} (h : upto key kids root (t + 1) = upto key kids root t) : ∀ k, upto key kids root (t + k) = upto key kids root t
  | 0 => rfl
  | k + 1 => by
    show stepK key kids root (upto key kids root (t + k)) = _
    rw [upto_stay h k]
    exact h
theorem pre_len {l m : List α} (h : l <+: m) (e : m.length ≤ l.length) : l = m := h.eq_of_length (Nat.le_antisymm h.length_le e)
/-- of at most n things nothing more is come to behind n - 1 steps -/
theorem upto_full {n : Nat} (hn : ∀ t, (upto key kids root t).length ≤ n) {t : Nat} (ht : n ≤ t + 1) : upto key kids root (t + 1) = upto key kids root t := by
  have go : ∀ t, upto key kids root (t + 1) = upto key kids root t ∨ t + 2 ≤ (upto key kids root (t + 1)).length := by
    intro t
    induction t with
    | zero =>
      by_cases q : (upto key kids root 1).length ≤ (upto key kids root 0).length
      · exact .inl (pre_len (upto_pre key kids root 0) q).symm
      · right
        have e : (upto key kids root 0).length = 1 := rfl
        show 0 + 2 ≤ (upto key kids root 1).length
        omega
    | succ t ih =>
      rcases ih with h | h
      · left
        exact (upto_stay key kids root h 2).trans (upto_stay key kids root h 1).symm
      · by_cases q : (upto key kids root (t + 2)).length ≤ (upto key kids root (t + 1)).length
        · exact .inl (pre_len (upto_pre key kids root (t + 1)) q).symm
        · right; show t + 1 + 2 ≤ (upto key kids root (t + 2)).length; omega
  rcases go t with h | h
  · exact h
  · have := hn (t + 1)
    omega
theorem upto_same {n : Nat} (hn : ∀ t, (upto key kids root t).length ≤ n) {t u : Nat} (ht : n ≤ t + 1) (hu : n ≤ u + 1) : upto key kids root t = upto key kids root u := by
  have st := fun {t : Nat} (ht : n ≤ t + 1) => upto_stay key kids root (upto_full key kids root hn ht)
  rcases Nat.le_total t u with z | z
  · have := st ht (u - t)
    rw [show t + (u - t) = u by omega] at this
    exact this.symm
  · have := st hu (t - u)
    rwa [show u + (t - u) = t by omega] at this
/-- by layers: all words of a length are led on letter by letter -/
def layer : Nat → List α
  | 0 => [root]
  | t + 1 => (layer t).flatMap kids
def layers : Nat → List α
  | 0 => [root]
  | t + 1 => layers t ++ layer kids root (t + 1)
theorem layers_step : ∀ t, layers kids root (t + 1) = root :: (layers kids root t).flatMap kids
  | 0 => by simp [layers, layer]
  | t + 1 => by
    show layers kids root (t + 1) ++ layer kids root (t + 2) = _
    have e : layers kids root (t + 1) = layers kids root t ++ layer kids root (t + 1) := rfl
    have e2 : layer kids root (t + 2) = (layer kids root (t + 1)).flatMap kids := rfl
    have ih := layers_step t
    rw [e, List.flatMap_append, ← List.cons_append, ← ih, e2, e]
theorem layers_names (hk : ∀ x y, key x = key y → (kids x).map key = (kids y).map key) : ∀ t, newK key [] (layers kids root t) = upto key kids root t
  | 0 => rfl
  | t + 1 => by
    rw [layers_step]
    obtain ⟨r, e1, e2⟩ := newK_flat key kids hk (layers kids root t) [] [root] (fun x hx => by simp at hx)
    rw [layers_names hk t, List.nil_append] at e1
    show newK key [root] _ = newK key [root] _
    rw [e2, e1]
/-- by turns: each thing's kids put in as its turn comes -/
def turns : Nat → List α
  | 0 => [root]
  | t + 1 => match (turns t)[t]? with
    | some p => newK key (turns t) (kids p)
    | none => turns t
theorem turns_some {t : Nat} {p : α} (h : (turns key kids root t)[t]? = some p) : turns key kids root (t + 1) = newK key (turns key kids root t) (kids p) := by
  show (match (turns key kids root t)[t]? with
    | some p => newK key (turns key kids root t) (kids p)
    | none => turns key kids root t) = _
  rw [h]
theorem turns_none {t : Nat} (h : (turns key kids root t)[t]? = none) : turns key kids root (t + 1) = turns key kids root t := by
  show (match (turns key kids root t)[t]? with
    | some p => newK key (turns key kids root t) (kids p)
    | none => turns key kids root t) = _
  rw [h]
theorem turns_pre (t : Nat) : turns key kids root t <+: turns key kids root (t + 1) := by
  show _ <+: (match (turns key kids root t)[t]? with
    | some p => newK key (turns key kids root t) (kids p)
    | none => turns key kids root t)
  split
  · exact newK_pre key _ _
  · exact List.prefix_refl _
theorem turns_eq : ∀ t, turns key kids root t = stepK key kids root ((turns key kids root t).take t)
  | 0 => rfl
  | t + 1 => by
    have ih := turns_eq t
    obtain ⟨r, er⟩ := turns_pre key kids root t
    cases q : (turns key kids root t)[t]? with
    | none =>
      have e : turns key kids root (t + 1) = turns key kids root t := by
        show (match (turns key kids root t)[t]? with
          | some p => newK key (turns key kids root t) (kids p)
          | none => turns key kids root t) = _
        rw [q]
      have hl := List.getElem?_eq_none_iff.mp q
      rw [e, List.take_of_length_le (by omega)]
      rwa [List.take_of_length_le hl] at ih
    | some p =>
      have e : turns key kids root (t + 1) = newK key (turns key kids root t) (kids p) := by
        show (match (turns key kids root t)[t]? with
          | some p => newK key (turns key kids root t) (kids p)
          | none => turns key kids root t) = _
        rw [q]
      obtain ⟨hl, ep⟩ := List.getElem?_eq_some_iff.mp q
      have e2 : (turns key kids root (t + 1)).take (t + 1) = (turns key kids root t).take t ++ [p] := by
        rw [← er, List.take_append_of_le_length (by omega), List.take_succ, q]
        rfl
      rw [e2]
      unfold stepK
      rw [List.flatMap_append, newK_app]
      unfold stepK at ih
      rw [← ih, e]
      simp
theorem turns_nodup : ∀ t, ((turns key kids root t).map key).Nodup := fun t => by
  rw [turns_eq]
  exact newK_nodup key (by simp)
theorem turns_sub (T : Nat) (hT : upto key kids root (T + 1) = upto key kids root T) : ∀ t, turns key kids root t <+: upto key kids root T
  | 0 => upto_le key kids root (Nat.zero_le T)
  | t + 1 => by
    rw [turns_eq]
    have ih := turns_sub T hT t
    have h : (turns key kids root (t + 1)).take (t + 1) <+: upto key kids root T := by
      cases q : (turns key kids root t)[t]? with
      | none =>
        have e : turns key kids root (t + 1) = turns key kids root t := by
          show (match (turns key kids root t)[t]? with
            | some p => newK key (turns key kids root t) (kids p)
            | none => turns key kids root t) = _
          rw [q]
        rw [e]
        exact (List.take_prefix _ _).trans ih
      | some p =>
        obtain ⟨hl, _⟩ := List.getElem?_eq_some_iff.mp q
        obtain ⟨r, er⟩ := turns_pre key kids root t
        rw [← er, List.take_append_of_le_length (by omega)]
        exact (List.take_prefix _ _).trans ih
    have := stepK_pre key kids root h
    rw [show stepK key kids root (upto key kids root T) = upto key kids root T from hT] at this
    exact this
/-- both ways lead to the same list -/
theorem turns_upto {n : Nat} (hn : ∀ t, (upto key kids root t).length ≤ n) {t u : Nat} (ht : n ≤ t) (hu : n ≤ u + 1) : turns key kids root t = upto key kids root u := by
  have s1 := turns_sub key kids root u (upto_full key kids root hn hu) t
  have l1 : (turns key kids root t).length ≤ t := by
    have := s1.length_le
    have := hn u
    omega
  have fx : stepK key kids root (turns key kids root t) = turns key kids root t := by
    have := turns_eq key kids root t
    rw [List.take_of_length_le l1] at this
    exact this.symm
  exact pre_len s1 (upto_fix key kids root fx u).length_le
theorem upto_mem (P : α → Prop) (h0 : P root) (hs : ∀ x, P x → ∀ y ∈ kids x, P y) : ∀ t, ∀ x ∈ upto key kids root t, P x
  | 0, x, h => by rw [List.mem_singleton.mp h]; exact h0
  | t + 1, x, h => by
    rcases newK_mem key _ _ _ h with z | z
    · rw [List.mem_singleton.mp z]; exact h0
    · obtain ⟨y, hy, hx⟩ := List.mem_flatMap.mp z
      exact hs y (upto_mem P h0 hs t y hy) x hx
theorem upto_closed {t : Nat} (h : upto key kids root (t + 1) = upto key kids root t) {x y : α} (hx : x ∈ upto key kids root t) (hy : y ∈ kids x) : key y ∈ (upto key kids root t).map key := by
  rw [← h]
  show key y ∈ (newK key [root] _).map key
  rw [newK_key]
  exact .inr (List.mem_map_of_mem (List.mem_flatMap.mpr ⟨x, hx, hy⟩))
end
section
variable {α β γ : Type} [DecidableEq β] [DecidableEq γ]
theorem names_newK (key : α → β) (l : List α) : namesOf (l.map key) = (newK key [] l).map key := by
  rw [newK_keys]
  rfl
/-- names of what is read off the unlike ones alone -/
theorem addN_foldl_read (f : β → γ) : ∀ (l : List β) (s : List β) (acc : List γ), (∀ x ∈ s, f x ∈ acc) → ∃ r, l.foldl addN s = s ++ r ∧ (l.map f).foldl addN acc = (r.map f).foldl addN acc
  | [], s, acc, _ => ⟨[], by simp, rfl⟩
  | x :: l, s, acc, h => by
    by_cases q : x ∈ s
    · obtain ⟨r, e1, e2⟩ := addN_foldl_read f l s acc h
      refine ⟨r, ?_, ?_⟩
      · rw [List.foldl_cons, show addN s x = s from if_pos q, e1]
      · rw [List.map_cons, List.foldl_cons, show addN acc (f x) = acc from if_pos (h x q), e2]
    · obtain ⟨r, e1, e2⟩ := addN_foldl_read f l (s ++ [x]) (addN acc (f x)) fun y hy => by
        rw [addN_mem]
        rcases List.mem_append.mp hy with z | z
        · exact .inl (h y z)
        · exact .inr (by rw [List.mem_singleton.mp z])
      refine ⟨x :: r, ?_, ?_⟩
      · rw [List.foldl_cons, show addN s x = s ++ [x] from if_neg q, e1]
        simp
      · rw [List.map_cons, List.foldl_cons, e2, List.map_cons, List.foldl_cons]
theorem names_read (f : β → γ) (l : List β) : namesOf (l.map f) = namesOf ((namesOf l).map f) := by
  obtain ⟨r, e1, e2⟩ := addN_foldl_read f l [] [] (fun x hx => by simp at hx)
  rw [List.nil_append] at e1
  unfold namesOf
  rw [e2, e1]
end
section
variable {β : Type} [DecidableEq β]
theorem foldl_nd : ∀ (l acc : List β), (acc ++ l).Nodup → l.foldl addN acc = acc ++ l
  | [], acc, _ => by simp
  | x :: l, acc, h => by
    have hx : x ∉ acc := fun q => (List.nodup_append.mp h).2.2 x q x List.mem_cons_self rfl
    rw [List.foldl_cons, show addN acc x = acc ++ [x] from if_neg hx, foldl_nd l (acc ++ [x]) (by simpa using h)]
    simp
theorem names_nd {l : List β} (h : l.Nodup) : namesOf l = l := by
  unfold namesOf
  rw [foldl_nd l [] (by simpa using h)]
  simp
theorem idxOf_nd {l : List β} (h : l.Nodup) {i : Nat} (hi : i < l.length) : l.idxOf l[i] = i := h.idxOf_getElem i hi
/-- the numbers of the unlike ones themselves -/
theorem idx_self {l : List β} (h : l.Nodup) : l.map (fun x => l.idxOf x) = List.range l.length := by
  apply List.ext_getElem
  · simp
  · intro i h1 h2
    rw [List.getElem_map, List.getElem_range]
    exact idxOf_nd h (by simpa using h1)
end
end DL
/-! # Pl8: least machines -/
namespace DL
open PySem PySem.Spec L2
open PyProof.Rows hiding St
abbrev Pr := Nat × List Nat
section
variable (maps : List (List Nat)) (reads : List Nat)
def kidsP (p : Pr) : List Pr := (List.range maps.length).map fun j => (dl maps j p.1, p.2 ++ [j])
/-- states with the least of the shortest words that lead to them, as first come to, along words of at most t kinds -/
def come (t : Nat) : List Pr := upto Prod.fst (kidsP maps) (0, []) t
/-- all of them -/
def ordP : List Pr := come maps (reads.length - 1)
def ord : List Nat := (ordP maps reads).map Prod.fst
end
section
variable {maps : List (List Nat)} {reads : List Nat}
theorem kidsP_key (p q : Pr) (h : p.1 = q.1) : (kidsP maps p).map Prod.fst = (kidsP maps q).map Prod.fst := by
  unfold kidsP
  rw [List.map_map, List.map_map]
  apply List.map_congr_left
  intro j _
  show dl maps j p.1 = dl maps j q.1
  rw [h]
theorem come_lt (R : Rows maps reads) (n1 : 1 ≤ reads.length) (t : Nat) : ∀ p ∈ come maps t, p.1 < reads.length := upto_mem Prod.fst (kidsP maps) (0, []) (fun p => p.1 < reads.length) n1 (fun p hp q hq => by
  obtain ⟨j, hj, rfl⟩ := List.mem_map.mp hq
  exact dl_lt R (List.mem_range.mp hj) hp) t
theorem come_len (R : Rows maps reads) (n1 : 1 ≤ reads.length) (t : Nat) : (come maps t).length ≤ reads.length := by
  have h := nodup_le ((come maps t).map Prod.fst) (List.range reads.length) (upto_nodup Prod.fst (kidsP maps) (0, []) t) fun x hx => by
    obtain ⟨p, hp, rfl⟩ := List.mem_map.mp hx
    exact List.mem_range.mpr (come_lt R n1 t p hp)
  rwa [List.length_map, List.length_range] at h
theorem come_all (R : Rows maps reads) (n1 : 1 ≤ reads.length) {t : Nat} (ht : reads.length ≤ t + 1) : come maps t = ordP maps reads :=
  upto_same Prod.fst (kidsP maps) (0, []) (come_len R n1) ht (by omega)
theorem ord_nodup : (ord maps reads).Nodup := upto_nodup Prod.fst (kidsP maps) (0, []) _
theorem ord_lt (R : Rows maps reads) (n1 : 1 ≤ reads.length) {a : Nat} (h : a ∈ ord maps reads) : a < reads.length := by
  obtain ⟨p, hp, rfl⟩ := List.mem_map.mp h
  exact come_lt R n1 _ p hp
theorem ord_len (R : Rows maps reads) (n1 : 1 ≤ reads.length) : (ord maps reads).length ≤ reads.length := by
  unfold ord
  rw [List.length_map]
  exact come_len R n1 _
theorem ord_0 : ∃ r, ord maps reads = 0 :: r := by
  obtain ⟨r, e⟩ := upto_root Prod.fst (kidsP maps) (0, []) (reads.length - 1)
  exact ⟨r.map Prod.fst, by unfold ord ordP come; rw [e]; rfl⟩
theorem ord_next (R : Rows maps reads) (n1 : 1 ≤ reads.length) {a j : Nat} (h : a ∈ ord maps reads) (hj : j < maps.length) : dl maps j a ∈ ord maps reads := by
  obtain ⟨p, hp, rfl⟩ := List.mem_map.mp h
  have fx : upto Prod.fst (kidsP maps) (0, []) (reads.length - 1 + 1) = upto Prod.fst (kidsP maps) (0, []) (reads.length - 1) := upto_full Prod.fst (kidsP maps) (0, []) (come_len R n1) (by omega)
  exact upto_closed Prod.fst (kidsP maps) (0, []) fx hp (y := (dl maps j p.1, p.2 ++ [j])) (List.mem_map.mpr ⟨j, List.mem_range.mpr hj, rfl⟩)
theorem ord_row (R : Rows maps reads) (n1 : 1 ≤ reads.length) {a : Nat} {r : List Nat} (h : a ∈ ord maps reads) (hr : r ∈ maps) : at0 r a ∈ ord maps reads := by
  obtain ⟨j, hj, e⟩ := List.mem_iff_getElem.mp hr
  have := ord_next R n1 h hj
  unfold dl at this
  rwa [show maps.getD j [] = r by simp [List.getD_eq_getElem?_getD, List.getElem?_eq_getElem hj, e]] at this
/-- all words of at most t kinds, shorter ones first, ascending, each with the state that it leads to -/
theorem layers_ord {t : Nat} : namesOf ((layers (kidsP maps) (0, []) t).map Prod.fst) = (come maps t).map Prod.fst := by
  rw [names_newK, layers_names Prod.fst (kidsP maps) (0, []) kidsP_key]
  rfl
end
/-! ### alike for ever -/
section
variable (maps : List (List Nat)) (reads : List Nat)
/-- what a state shows for ever: as long as ever told apart -/
noncomputable def sg (a : Nat) : D := tr maps reads (reads.length - 1) a
noncomputable def sgs : List D := namesOf ((ord maps reads).map (sg maps reads))
/-- the name of a state in the least machine -/
noncomputable def nmS (a : Nat) : Nat := (sgs maps reads).idxOf (sg maps reads a)
noncomputable def nmD (a : Nat) : D := if a ∈ ord maps reads then eI (nmS maps reads a) else .non
noncomputable def nmL : List D := (List.range reads.length).map (nmD maps reads)
noncomputable def nMany : Nat := (sgs maps reads).length
/-- the first state of a name -/
noncomputable def stN (i : Nat) : Nat := (nmL maps reads).idxOf (eI i)
noncomputable def lMaps : List (List Nat) := maps.map fun r => (List.range (nMany maps reads)).map fun i => nmS maps reads (at0 r (stN maps reads i))
noncomputable def lReads : List Nat := (List.range (nMany maps reads)).map fun i => at0 reads (stN maps reads i)
end
section
variable {maps : List (List Nat)} {reads : List Nat}
theorem al_ever (R : Rows maps reads) {t a b : Nat} (ha : a < reads.length) (hb : b < reads.length) (ht : reads.length ≤ t + 1) : Al maps reads t a b ↔ ∀ u, Al maps reads u a b := by
  refine ⟨fun h u => ?_, fun h => h t⟩
  obtain ⟨s, hs, e, _⟩ := stop_ex (maps := maps) (reads := reads) (by omega)
  rcases part_cases R ha hb e with h2 | ⟨v, hv, _, h3⟩
  · exact h2 u
  · exact absurd (h.le (by omega)) h3
theorem sg_eq (R : Rows maps reads) {a b : Nat} (ha : a < reads.length) (hb : b < reads.length) : sg maps reads a = sg maps reads b ↔ ∀ u, Al maps reads u a b := by
  unfold sg
  rw [tr_eq, al_ever R ha hb (by omega)]
theorem nm_eq (R : Rows maps reads) (n1 : 1 ≤ reads.length) {a b : Nat} (ha : a ∈ ord maps reads) (hb : b ∈ ord maps reads) : nmS maps reads a = nmS maps reads b ↔ ∀ u, Al maps reads u a b := by
  rw [← sg_eq R (ord_lt R n1 ha) (ord_lt R n1 hb)]
  refine ⟨fun h => idx_inj (names_mem.mpr (List.mem_map_of_mem ha)) (names_mem.mpr (List.mem_map_of_mem hb)) h, fun h => ?_⟩
  unfold nmS
  rw [h]
theorem nm_lt {a : Nat} (ha : a ∈ ord maps reads) : nmS maps reads a < nMany maps reads := idx_lt (List.mem_map_of_mem ha)
theorem nMany_le (R : Rows maps reads) (n1 : 1 ≤ reads.length) : nMany maps reads ≤ reads.length := by
  have h1 := names_len ((ord maps reads).map (sg maps reads))
  have h2 := ord_len R n1
  rw [List.length_map] at h1
  unfold nMany sgs
  omega
theorem nMany_pos : 1 ≤ nMany maps reads := by
  obtain ⟨r, e⟩ := ord_0 (maps := maps) (reads := reads)
  have := nm_lt (maps := maps) (reads := reads) (a := 0) (by rw [e]; exact List.mem_cons_self)
  omega
theorem nm_0 : nmS maps reads 0 = 0 := by
  obtain ⟨r, e⟩ := ord_0 (maps := maps) (reads := reads)
  unfold nmS sgs
  rw [e, List.map_cons]
  unfold namesOf
  rw [List.foldl_cons]
  have h : [sg maps reads 0] <+: (r.map (sg maps reads)).foldl addN [sg maps reads 0] := by
    have := newK_pre id (r.map (sg maps reads)) [sg maps reads 0]
    have e2 := newK_keys id (r.map (sg maps reads)) [sg maps reads 0]
    simp only [List.map_id] at e2
    rwa [e2] at this
  obtain ⟨q, eq⟩ := h
  have e3 : addN ([] : List D) (sg maps reads 0) = [sg maps reads 0] := by simp [addN]
  rw [e3, ← eq]
  simp
theorem nm_ex {i : Nat} (h : i < nMany maps reads) : ∃ a ∈ ord maps reads, nmS maps reads a = i := by
  have hm : (sgs maps reads)[i] ∈ (ord maps reads).map (sg maps reads) := names_mem.mp (List.getElem_mem h)
  obtain ⟨a, ha, e⟩ := List.mem_map.mp hm
  refine ⟨a, ha, ?_⟩
  unfold nmS
  rw [e]
  exact idxOf_nd (names_nodup _) h
theorem nmL_at {a : Nat} (h : a < reads.length) : (nmL maps reads)[a]? = some (nmD maps reads a) := rng_at h _
theorem st_ok (R : Rows maps reads) (n1 : 1 ≤ reads.length) {i : Nat} (h : i < nMany maps reads) : stN maps reads i ∈ ord maps reads ∧ nmS maps reads (stN maps reads i) = i := by
  obtain ⟨a, ha, e⟩ := nm_ex h
  have hm : eI i ∈ nmL maps reads := List.mem_map.mpr ⟨a, List.mem_range.mpr (ord_lt R n1 ha), by unfold nmD; rw [if_pos ha, e]⟩
  have hl := List.idxOf_lt_length_iff.mpr hm
  have h1 := List.getElem_idxOf hl
  have hl2 : stN maps reads i < reads.length := by
    have : (nmL maps reads).length = reads.length := by simp [nmL]
    rw [this] at hl
    exact hl
  have h2 : nmD maps reads (stN maps reads i) = eI i := by
    have h3 := nmL_at (maps := maps) hl2
    have h4 : (nmL maps reads)[stN maps reads i]? = some (eI i) := by
      show (nmL maps reads)[(nmL maps reads).idxOf (eI i)]? = _
      rw [List.getElem?_eq_getElem hl]
      exact congrArg some h1
    rw [h3] at h4
    exact Option.some.inj h4
  unfold nmD at h2
  split at h2
  · rename_i q
    exact ⟨q, eI_inj.mp h2⟩
  · cases h2
theorem st_mem (R : Rows maps reads) (n1 : 1 ≤ reads.length) {i : Nat} (h : i < nMany maps reads) : eI i ∈ nmL maps reads := by
  obtain ⟨a, ha, e⟩ := nm_ex h
  exact List.mem_map.mpr ⟨a, List.mem_range.mpr (ord_lt R n1 ha), by unfold nmD; rw [if_pos ha, e]⟩
theorem lReads_len : (lReads maps reads).length = nMany maps reads := by simp [lReads]
theorem lMaps_len : (lMaps maps reads).length = maps.length := by simp [lMaps]
theorem at0_rng {n i : Nat} {f : Nat → Nat} (h : i < n) : at0 ((List.range n).map f) i = f i := by
  unfold at0
  rw [List.getD_eq_getElem?_getD, rng_at h f]
  rfl
theorem lReads_at {i : Nat} (h : i < nMany maps reads) : at0 (lReads maps reads) i = at0 reads (stN maps reads i) := at0_rng h
theorem dl_lMaps {i j : Nat} (h : i < nMany maps reads) (hj : j < maps.length) : dl (lMaps maps reads) j i = nmS maps reads (dl maps j (stN maps reads i)) := by
  unfold dl lMaps
  rw [List.getD_eq_getElem?_getD, List.getElem?_map, List.getElem?_eq_getElem hj]
  simp only [Option.map_some, Option.getD_some]
  rw [at0_rng h]
  simp [List.getD_eq_getElem?_getD, List.getElem?_eq_getElem hj]
theorem nm_al (R : Rows maps reads) (n1 : 1 ≤ reads.length) {a : Nat} (ha : a ∈ ord maps reads) : ∀ u, Al maps reads u (stN maps reads (nmS maps reads a)) a :=
  (nm_eq R n1 (st_ok R n1 (nm_lt ha)).1 ha).mp (st_ok R n1 (nm_lt ha)).2
/-- the least machine goes along -/
theorem nm_dl (R : Rows maps reads) (n1 : 1 ≤ reads.length) {a j : Nat} (ha : a ∈ ord maps reads) (hj : j < maps.length) : dl (lMaps maps reads) j (nmS maps reads a) = nmS maps reads (dl maps j a) := by
  rw [dl_lMaps (nm_lt ha) hj]
  exact (nm_eq R n1 (ord_next R n1 (st_ok R n1 (nm_lt ha)).1 hj) (ord_next R n1 ha hj)).mpr fun u => (al_iff.mp (nm_al R n1 ha (u + 1))).2 j hj
theorem nm_rd (R : Rows maps reads) (n1 : 1 ≤ reads.length) {a : Nat} (ha : a ∈ ord maps reads) : at0 (lReads maps reads) (nmS maps reads a) = at0 reads a := by
  rw [lReads_at (nm_lt ha)]
  exact (nm_al R n1 ha 0).rd
theorem nm_al2 (R : Rows maps reads) (n1 : 1 ≤ reads.length) : ∀ {t a b : Nat}, a ∈ ord maps reads → b ∈ ord maps reads → (Al (lMaps maps reads) (lReads maps reads) t (nmS maps reads a) (nmS maps reads b) ↔ Al maps reads t a b)
  | 0, a, b, ha, hb => by
    show at0 _ _ = at0 _ _ ↔ at0 _ _ = at0 _ _
    rw [nm_rd R n1 ha, nm_rd R n1 hb]
  | t + 1, a, b, ha, hb => by
    rw [al_iff, al_iff, nm_rd R n1 ha, nm_rd R n1 hb, lMaps_len]
    refine and_congr Iff.rfl ⟨fun h j hj => ?_, fun h j hj => ?_⟩
    · have := h j hj
      rw [nm_dl R n1 ha hj, nm_dl R n1 hb hj] at this
      exact (nm_al2 R n1 (ord_next R n1 ha hj) (ord_next R n1 hb hj)).mp this
    · rw [nm_dl R n1 ha hj, nm_dl R n1 hb hj]
      exact (nm_al2 R n1 (ord_next R n1 ha hj) (ord_next R n1 hb hj)).mpr (h j hj)
theorem lRow (R : Rows maps reads) (n1 : 1 ≤ reads.length) : ∀ r ∈ lMaps maps reads, r.length = (lReads maps reads).length ∧ ∀ x ∈ r, x < (lReads maps reads).length := fun r hr => by
  obtain ⟨r0, h0, rfl⟩ := List.mem_map.mp hr
  rw [lReads_len]
  refine ⟨by simp, fun x hx => ?_⟩
  obtain ⟨i, hi, rfl⟩ := List.mem_map.mp hx
  exact nm_lt (ord_row R n1 (st_ok R n1 (List.mem_range.mp hi)).1 h0)
theorem lRows (R : Rows maps reads) (n1 : 1 ≤ reads.length) : Rows (lMaps maps reads) (lReads maps reads) := fun r hr a ha => by
  obtain ⟨h1, h2⟩ := lRow R n1 r hr
  exact h2 _ (at0_mem (by omega))
theorem lN1 : 1 ≤ (lReads maps reads).length := by
  rw [lReads_len]
  exact nMany_pos
/-! ### the least machine of the least one -/
theorem layer_ord (R : Rows maps reads) (n1 : 1 ≤ reads.length) : ∀ t, ∀ p ∈ layer (kidsP maps) (0, []) t, p.1 ∈ ord maps reads
  | 0, p, hp => by
    rw [List.mem_singleton.mp hp]
    obtain ⟨r, e⟩ := ord_0 (maps := maps) (reads := reads)
    rw [e]
    exact List.mem_cons_self
  | t + 1, p, hp => by
    obtain ⟨q, hq, h⟩ := List.mem_flatMap.mp hp
    obtain ⟨j, hj, rfl⟩ := List.mem_map.mp h
    exact ord_next R n1 (layer_ord R n1 t q hq) (List.mem_range.mp hj)
theorem layers_ordM (R : Rows maps reads) (n1 : 1 ≤ reads.length) : ∀ t, ∀ p ∈ layers (kidsP maps) (0, []) t, p.1 ∈ ord maps reads
  | 0, p, hp => layer_ord R n1 0 p hp
  | t + 1, p, hp => (List.mem_append.mp hp).elim (layers_ordM R n1 t p) (layer_ord R n1 (t + 1) p)
theorem kids_nm (R : Rows maps reads) (n1 : 1 ≤ reads.length) (p : Pr) (hp : p.1 ∈ ord maps reads) : kidsP (lMaps maps reads) (nmS maps reads p.1, p.2) = (kidsP maps p).map fun q => (nmS maps reads q.1, q.2) := by
  unfold kidsP
  rw [lMaps_len, List.map_map]
  apply List.map_congr_left
  intro j hj
  show (dl (lMaps maps reads) j (nmS maps reads p.1), p.2 ++ [j]) = (nmS maps reads (dl maps j p.1), p.2 ++ [j])
  rw [nm_dl R n1 hp (List.mem_range.mp hj)]
theorem flat_nm {α β : Type} (f : α → β) (k : α → List α) (k' : β → List β) : ∀ l : List α, (∀ x ∈ l, k' (f x) = (k x).map f) → (l.map f).flatMap k' = (l.flatMap k).map f
  | [], _ => rfl
  | x :: l, h => by
    rw [List.map_cons, List.flatMap_cons, List.flatMap_cons, List.map_append, h x List.mem_cons_self, flat_nm f k k' l fun y hy => h y (List.mem_cons_of_mem _ hy)]
theorem layer_nm (R : Rows maps reads) (n1 : 1 ≤ reads.length) : ∀ t, layer (kidsP (lMaps maps reads)) (0, []) t = (layer (kidsP maps) (0, []) t).map fun q => (nmS maps reads q.1, q.2)
  | 0 => by
    show [((0 : Nat), ([] : List Nat))] = [(nmS maps reads 0, [])]
    rw [nm_0]
  | t + 1 => by
    show (layer (kidsP (lMaps maps reads)) (0, []) t).flatMap _ = _
    rw [layer_nm R n1 t]
    exact flat_nm (fun q : Pr => (nmS maps reads q.1, q.2)) (kidsP maps) (kidsP (lMaps maps reads)) _ fun p hp => kids_nm R n1 p (layer_ord R n1 t p hp)
theorem layers_nm (R : Rows maps reads) (n1 : 1 ≤ reads.length) : ∀ t, layers (kidsP (lMaps maps reads)) (0, []) t = (layers (kidsP maps) (0, []) t).map fun q => (nmS maps reads q.1, q.2)
  | 0 => layer_nm R n1 0
  | t + 1 => by
    show layers _ _ t ++ layer _ _ (t + 1) = (layers _ _ t ++ layer _ _ (t + 1)).map _
    rw [layers_nm R n1 t, layer_nm R n1 (t + 1), List.map_append]
theorem nm_names : namesOf ((ord maps reads).map (nmS maps reads)) = List.range (nMany maps reads) := by
  have e : (ord maps reads).map (nmS maps reads) = ((ord maps reads).map (sg maps reads)).map fun x => (sgs maps reads).idxOf x := by
    rw [List.map_map]
    rfl
  rw [e, names_read]
  have e2 : (namesOf ((ord maps reads).map (sg maps reads))).map (fun x => (sgs maps reads).idxOf x) = List.range (nMany maps reads) := idx_self (names_nodup _)
  rw [e2]
  exact names_nd List.nodup_range
theorem l_ord (R : Rows maps reads) (n1 : 1 ≤ reads.length) : ord (lMaps maps reads) (lReads maps reads) = List.range (nMany maps reads) := by
  have le := nMany_le R n1
  have h := come_all (lRows R n1) lN1 (t := reads.length - 1) (by rw [lReads_len]; omega)
  unfold ord
  rw [← h, ← layers_ord, layers_nm R n1, List.map_map]
  have e : (Prod.fst ∘ fun q : Pr => (nmS maps reads q.1, q.2)) = nmS maps reads ∘ Prod.fst := rfl
  rw [e, ← List.map_map, names_read, layers_ord]
  exact nm_names
theorem l_nm (R : Rows maps reads) (n1 : 1 ≤ reads.length) {i : Nat} (h : i < nMany maps reads) : nmS (lMaps maps reads) (lReads maps reads) i = i := by
  have inj : ∀ a b, a < nMany maps reads → b < nMany maps reads → sg (lMaps maps reads) (lReads maps reads) a = sg (lMaps maps reads) (lReads maps reads) b → a = b := fun a b ha hb e => by
    rw [sg_eq (lRows R n1) (by rw [lReads_len]; exact ha) (by rw [lReads_len]; exact hb)] at e
    obtain ⟨x, hx, rfl⟩ := nm_ex ha
    obtain ⟨y, hy, rfl⟩ := nm_ex hb
    exact (nm_eq R n1 hx hy).mpr fun u => (nm_al2 R n1 hx hy).mp (e u)
  have nd : ((List.range (nMany maps reads)).map (sg (lMaps maps reads) (lReads maps reads))).Nodup := nodup_map_on _ _ List.nodup_range fun a ha b hb => inj a b (List.mem_range.mp ha) (List.mem_range.mp hb)
  unfold nmS sgs
  rw [l_ord R n1, names_nd nd]
  have hl : i < ((List.range (nMany maps reads)).map (sg (lMaps maps reads) (lReads maps reads))).length := by rw [List.length_map, List.length_range]; exact h
  have := idxOf_nd nd hl
  rwa [List.getElem_map, List.getElem_range] at this
theorem l_many (R : Rows maps reads) (n1 : 1 ≤ reads.length) : nMany (lMaps maps reads) (lReads maps reads) = nMany maps reads := by
  have h1 := nm_names (maps := lMaps maps reads) (reads := lReads maps reads)
  rw [l_ord R n1] at h1
  have h2 : (List.range (nMany maps reads)).map (nmS (lMaps maps reads) (lReads maps reads)) = List.range (nMany maps reads) := by
    conv => rhs; rw [← List.map_id (List.range (nMany maps reads))]
    exact List.map_congr_left fun i hi => l_nm R n1 (List.mem_range.mp hi)
  rw [h2, names_nd List.nodup_range] at h1
  have := congrArg List.length h1
  simpa using this.symm
theorem l_st (R : Rows maps reads) (n1 : 1 ≤ reads.length) {i : Nat} (h : i < nMany maps reads) : stN (lMaps maps reads) (lReads maps reads) i = i := by
  have h2 := st_ok (lRows R n1) lN1 (i := i) (by rw [l_many R n1]; exact h)
  have h3 := h2.1
  rw [l_ord R n1] at h3
  have := l_nm R n1 (List.mem_range.mp h3)
  rw [← this]
  exact h2.2
theorem row_self {l : List Nat} {n : Nat} (h : l.length = n) : (List.range n).map (at0 l) = l := by
  apply List.ext_getElem?
  intro i
  rcases Nat.lt_or_ge i n with z | z
  · rw [rng_at z, at0_get (by omega)]
  · rw [List.getElem?_eq_none (by simpa using z), List.getElem?_eq_none (by omega)]
theorem l_maps (R : Rows maps reads) (n1 : 1 ≤ reads.length) : lMaps (lMaps maps reads) (lReads maps reads) = lMaps maps reads := by
  have e : ∀ M : List (List Nat), (∀ r ∈ M, r.length = (lReads maps reads).length ∧ ∀ x ∈ r, x < (lReads maps reads).length) → M.map (fun r => (List.range (nMany (lMaps maps reads) (lReads maps reads))).map fun i => nmS (lMaps maps reads) (lReads maps reads) (at0 r (stN (lMaps maps reads) (lReads maps reads) i))) = M := fun M hM => by
    conv => rhs; rw [← List.map_id M]
    apply List.map_congr_left
    intro r hr
    obtain ⟨h1, h2⟩ := hM r hr
    rw [lReads_len] at h1 h2
    rw [l_many R n1]
    show _ = r
    conv => rhs; rw [← row_self h1]
    apply List.map_congr_left
    intro i hi
    have hi := List.mem_range.mp hi
    rw [l_st R n1 hi]
    exact l_nm R n1 (h2 _ (at0_mem (by omega)))
  exact e _ (lRow R n1)
theorem l_reads (R : Rows maps reads) (n1 : 1 ≤ reads.length) : lReads (lMaps maps reads) (lReads maps reads) = lReads maps reads := by
  have e : ∀ l : List Nat, l.length = nMany maps reads → (List.range (nMany (lMaps maps reads) (lReads maps reads))).map (fun i => at0 l (stN (lMaps maps reads) (lReads maps reads) i)) = l := fun l hl => by
    rw [l_many R n1]
    conv => rhs; rw [← row_self hl]
    apply List.map_congr_left
    intro i hi
    rw [l_st R n1 (List.mem_range.mp hi)]
  exact e _ lReads_len
end
end DL
/-! # Pl9: more steps; what a dict of pairs says -/
namespace DL
open PySem PySem.Spec L2
open PyProof.Rows hiding St
section
variable {ρ ρ1 ρ2 : Env} {μ μ1 μ2 μ3 : Mu} {d e f : D} {o : SOut}
theorem if_b {b : Bool} {t : ST'} {a a' : SS} (h : t ρ μ = .ok b μ1) (h2 : (if b = true then a ρ μ1 else a' ρ μ1) = o) : sIf t a a' ρ μ = o := by
  unfold sIf
  rw [h, go_okN]
  exact h2
theorem br_t {α : Type} {a b o : α} (h : a = o) : (if true = true then a else b) = o := by rw [if_pos rfl]; exact h
theorem br_f {α : Type} {a b o : α} (h : b = o) : (if false = true then a else b) = o := by rw [if_neg (by decide)]; exact h
theorem br_dt {α : Type} {p : Prop} [Decidable p] {a b o : α} (hp : p) (h : a = o) : (if decide p = true then a else b) = o := by rw [if_pos (decide_eq_true hp)]; exact h
theorem br_df {α : Type} {p : Prop} [Decidable p] {a b o : α} (hp : ¬ p) (h : b = o) : (if decide p = true then a else b) = o := by rw [if_neg (by simpa using hp)]; exact h
theorem var_l {i : Nat} {l : List D} (h : ρ[i]? = some (some (.own (.lst l)))) : mVar i ρ μ = .ok (.lst l) μ := var_o h
theorem var_dd {i : Nat} {ks vs : List D} (h : ρ[i]? = some (some (.own (.dic ks vs)))) : mVar i ρ μ = .ok (.dct ks vs) μ := var_o h
theorem not_o {t : ST'} {b : Bool} (h : t ρ μ = .ok b μ1) : mNot t ρ μ = .ok (!b) μ1 := by
  unfold mNot
  rw [h]
  rfl
theorem or_o {t u : ST'} {b : Bool} {r : Out Bool} (h1 : t ρ μ = .ok b μ1) (h2 : (if b = true then .ok true μ1 else u ρ μ1) = r) : mOr t u ρ μ = r := by
  unfold mOr
  rw [h1, bnd_okN]
  exact h2
theorem and_o {t u : ST'} {b : Bool} {r : Out Bool} (h1 : t ρ μ = .ok b μ1) (h2 : (if b = true then u ρ μ1 else .ok false μ1) = r) : mAnd t u ρ μ = r := by
  unfold mAnd
  rw [h1, bnd_okN]
  exact h2
theorem ife_o {t : ST'} {b : Bool} {ma mb : SE} {r : Out D} (h : t ρ μ = .ok b μ1) (h2 : (if b = true then ma ρ μ1 else mb ρ μ1) = r) : mIf t ma mb ρ μ = r := by
  unfold mIf
  rw [h, bnd_okN]
  exact h2
theorem un_o {F : D → Mu → Out D} {m : SE} {r : Out D} (h : m ρ μ = .ok d μ1) (hF : F d μ1 = r) : mUn F m ρ μ = r := by
  unfold mUn
  rw [h, bnd_okN]
  exact hF
theorem negc (i : Int) : mUn fNeg (mC (.int i)) ρ μ = .ok (.int (-i)) μ := rfl
theorem index_o {m m2 : SE} {l : List D} {r : Out D} (h : m ρ μ = .ok (.lst l) μ1) (h2 : m2 ρ μ1 = .ok e μ2) (hr : fIndex (.lst l) e μ2 = r) : mIndex m m2 ρ μ = r := by
  unfold mIndex
  rw [h, bnd_okN, h2, bnd_okN]
  exact hr
theorem ap0 {F : List D → Mu → Out D} {r : Out D} (hF : F [] μ = r) : mApp F mNil ρ μ = r := hF
theorem put_o {i : Nat} {mk mv : SE} {ks vs : List D} (ho : ρ[i]? = some (some (.own (.dic ks vs)))) (hv : mv ρ μ = .ok d μ1) (hk : mk ρ μ1 = .ok e μ2) (ok : dOk ks e = true) (hl : ks.length < 16777216) : sDicPut i mk mv ρ μ = .nx (ρ.set i (some (.own (.dic (dPutK ks vs e) (dPutV ks vs e d))))) μ2 := by
  unfold sDicPut dicAt
  rw [ho]
  simp only
  rw [hv, go_okN, hk, go_okN]
  simp only [ok, hl, and_self, if_true]
theorem dic1_o {i : Nat} {mk mv : SE} (hk : mk ρ μ = .ok d μ1) (hv : mv ρ μ1 = .ok e μ2) (ok : d.key.isSome = true) : sDic1 i mk mv ρ μ = .nx (ρ.set i (some (.own (.dic [d] [e])))) μ2 := by
  unfold sDic1
  rw [hk, go_okN, hv, go_okN, if_pos ok]
theorem dicC_o {i : Nat} {m : SDc} {kv : List D × List D} (h : m ρ μ = .ok kv μ1) : sDicC i m ρ μ = .nx (ρ.set i (some (.own (.dic kv.1 kv.2)))) μ1 := by
  unfold sDicC
  rw [h, go_okN]
theorem ndc_o {mi : SI} {tg : TgD} {mt : ST'} {mk mv : SE} {vs : List Nat} {ds : List D} {kv : List D × List D} (h : mi ρ μ = .ok ds μ1) (hc : compD tg mt mk mv (wipeE ρ vs) ds [] [] μ1 = .ok kv μ2) : nDc mi tg mt mk mv vs ρ μ = .ok kv μ2 := by
  unfold nDc
  rw [h, bnd_okN]
  exact hc
theorem rngM1 {F : List D → Mu → Out (List D)} {m : SE} {r : Out (List D)} (h : m ρ μ = .ok d μ1) (hF : F [d] μ1 = r) : mRng F (mCons m mNil) ρ μ = r := by
  unfold mRng
  rw [bnd_eq _ (cons1 h)]
  exact hF
theorem rngM2 {F : List D → Mu → Out (List D)} {m m2 : SE} {r : Out (List D)} (h : m ρ μ = .ok d μ1) (h2 : m2 ρ μ1 = .ok e μ2) (hF : F [d, e] μ2 = r) : mRng F (mCons m (mCons m2 mNil)) ρ μ = r := by
  unfold mRng
  rw [bnd_eq _ (cons2 h h2)]
  exact hF
end
/-! ### dicts of pairs -/
section
variable {α : Type} {κ : Type} [DecidableEq κ] {key : α → κ} {ek : κ → D} {ev : α → D} (heq : ∀ a b, kEq (ek a) (ek b) = decide (a = b))
include heq
theorem look_no : ∀ (P : List α) (x : κ), x ∉ P.map key → dLook (P.map fun p => ek (key p)) (P.map ev) (ek x) = none
  | [], _, _ => rfl
  | p :: P, x, h => by
    rw [List.map_cons, List.mem_cons, not_or] at h
    rw [List.map_cons, List.map_cons]
    unfold dLook
    rw [heq, if_neg (by simpa using fun e => h.1 e.symm)]
    exact look_no P x h.2
theorem look_yes : ∀ (P : List α) (p : α), p ∈ P → (P.map key).Nodup → dLook (P.map fun p => ek (key p)) (P.map ev) (ek (key p)) = some (ev p)
  | [], _, h, _ => by simp at h
  | q :: P, p, h, nd => by
    rw [List.map_cons, List.nodup_cons] at nd
    rw [List.map_cons, List.map_cons]
    unfold dLook
    rw [heq]
    by_cases e : key q = key p
    · rw [if_pos (by simpa using e)]
      rcases List.mem_cons.mp h with z | z
      · rw [z]
      · exact absurd (List.mem_map_of_mem (f := key) z) (e ▸ nd.1)
    · rw [if_neg (by simpa using e)]
      rcases List.mem_cons.mp h with z | z
      · rw [z] at e; exact absurd rfl e
      · exact look_yes P p z nd.2
theorem look_some (P : List α) (x : κ) : (dLook (P.map fun p => ek (key p)) (P.map ev) (ek x)).isSome = decide (x ∈ P.map key) := by
  by_cases h : x ∈ P.map key
  · rw [decide_eq_true h]
    induction P with
    | nil => simp at h
    | cons p P ih =>
      rw [List.map_cons, List.map_cons]
      unfold dLook
      rw [heq]
      by_cases e : key p = x
      · rw [if_pos (by simpa using e)]; rfl
      · rw [if_neg (by simpa using e)]
        rw [List.map_cons, List.mem_cons] at h
        exact ih (h.resolve_left fun z => e z.symm)
  · rw [look_no heq P x h, decide_eq_false h]
    rfl
theorem putK_new (P : List α) (p : α) (h : key p ∉ P.map key) : dPutK (P.map fun p => ek (key p)) (P.map ev) (ek (key p)) = (P ++ [p]).map fun p => ek (key p) := by
  unfold dPutK
  rw [look_some heq, decide_eq_false h, if_neg (by decide)]
  simp
theorem putV_new (P : List α) (p : α) (h : key p ∉ P.map key) : dPutV (P.map fun p => ek (key p)) (P.map ev) (ek (key p)) (ev p) = (P ++ [p]).map ev := by
  unfold dPutV
  rw [look_some heq, decide_eq_false h, if_neg (by decide)]
  simp
end
theorem addK_new {α β : Type} [DecidableEq β] {key : α → β} {acc : List α} {x : α} (h : key x ∉ acc.map key) : addK key acc x = acc ++ [x] := if_neg h
theorem addK_old {α β : Type} [DecidableEq β] {key : α → β} {acc : List α} {x : α} (h : key x ∈ acc.map key) : addK key acc x = acc := if_pos h
theorem newK_map {α β γ : Type} [DecidableEq β] (key : α → β) (f : γ → α) (l : List γ) (acc : List α) : newK key acc (l.map f) = l.foldl (fun a x => addK key a (f x)) acc := List.foldl_map
theorem compD_map {α κ : Type} [DecidableEq κ] {key : α → κ} {ek : κ → D} {ev : α → D} (heq : ∀ a b, kEq (ek a) (ek b) = decide (a = b)) (hk : ∀ a, (ek a).key.isSome = true) {tg : TgD} {mk mv : SE} {ρ0 : Env} {μ : Mu} (enc : α → D) : ∀ (xs acc : List α), ((acc ++ xs).map key).Nodup → (acc ++ xs).length ≤ 16777216 →
    (∀ x ∈ xs, ∃ ρ1, tg (enc x) ρ0 = some ρ1 ∧ mk ρ1 μ = .ok (ek (key x)) μ ∧ mv ρ1 μ = .ok (ev x) μ) → compD tg mYes mk mv ρ0 (xs.map enc) (acc.map fun p => ek (key p)) (acc.map ev) μ = .ok ((acc ++ xs).map (fun p => ek (key p)), (acc ++ xs).map ev) μ
  | [], acc, _, _, _ => by simp [compD]
  | x :: xs, acc, nd, hl, h => by
    obtain ⟨ρ1, e1, e2, e3⟩ := h x List.mem_cons_self
    have hx : key x ∉ acc.map key := fun q => by
      rw [List.map_append, List.map_cons] at nd
      exact (List.nodup_append.mp nd).2.2 _ q _ List.mem_cons_self rfl
    have ih := compD_map (ev := ev) heq hk (tg := tg) (mk := mk) (mv := mv) (ρ0 := ρ0) (μ := μ) enc xs (acc ++ [x]) (by simpa using nd) (by simpa using hl) fun y hy => h y (List.mem_cons_of_mem _ hy)
    rw [List.map_cons]
    unfold compD
    have e4 : mYes ρ1 μ = .ok true μ := rfl
    simp only [e1, e4, e2, e3]
    rw [if_pos ⟨hk _, by rw [List.length_map]; rw [List.length_append, List.length_cons] at hl; omega⟩, putK_new (ev := ev) heq acc x hx, putV_new heq acc x hx, ih]
    simp
theorem max_lst {l : List Nat} {top : Nat} (h1 : top ∈ l) (h2 : ∀ y ∈ l, y ≤ top) (μ : Mu) : fMax2 [.lst (l.map eI)] μ = .ok (eI top) μ := by
  cases l with
  | nil => simp at h1
  | cons x r =>
    show (match (DL.listOf μ (.lst ((x :: r).map eI))).bind intsOf with
      | some (x :: l) => Out.ok (D.int (maxL x l)) μ
      | _ => .stuck) = _
    have e : (DL.listOf μ (.lst ((x :: r).map eI))).bind intsOf = intsOf ((x :: r).map eI) := rfl
    rw [e, ints_map, List.map_cons]
    obtain ⟨m1, m2, m3⟩ := maxL_sp (r.map fun (n : Nat) => (n : Int)) (x : Int)
    have le : maxL (x : Int) (r.map fun (n : Nat) => (n : Int)) ≤ (top : Int) := by
      rcases m1 with z | z
      · rw [z]
        have := h2 x List.mem_cons_self
        omega
      · obtain ⟨n, hn, e⟩ := List.mem_map.mp z
        rw [← e]
        have := h2 n (List.mem_cons_of_mem _ hn)
        omega
    have ge : (top : Int) ≤ maxL (x : Int) (r.map fun (n : Nat) => (n : Int)) := by
      rcases List.mem_cons.mp h1 with z | z
      · omega
      · exact m3 _ (List.mem_map_of_mem (f := fun (n : Nat) => (n : Int)) z)
    show Out.ok (D.int (maxL _ _)) μ = _
    rw [Int.le_antisymm le ge]
theorem zipL_map {α : Type} (f g : α → D) : ∀ l : List α, zipL (l.map f) (l.map g) = l.map fun x => .tup [f x, g x]
  | [] => rfl
  | x :: l => by
    rw [List.map_cons, List.map_cons, List.map_cons]
    unfold zipL
    rw [zipL_map f g l]
theorem addI (a b : Nat) (μ : Mu) : fAdd (eI a) (eI b) μ = .ok (eI (a + b)) μ := by
  have : fAdd (eI a) (eI b) μ = .ok (.int ((a : Int) + (b : Int))) μ := rfl
  rw [this, show ((a : Int) + (b : Int)) = ((a + b : Nat) : Int) by omega]
section
variable {ρ ρ1 : Env} {μ μ1 μ2 : Mu} {d : D}
theorem mm_val {m : SE} {r : SM} {os : List OV} (h : m ρ μ = .ok d μ1) (h2 : r ρ μ1 = .ok os μ2) : mmVal m r ρ μ = .ok (.val d :: os) μ2 := by
  unfold mmVal
  rw [h, bnd_okN, h2, bnd_okN]
theorem mm_lst {m : SN} {r : SM} {ds : List D} {os : List OV} (h : m ρ μ = .ok ds μ1) (h2 : r ρ μ1 = .ok os μ2) : mmOwn (oLst m) r ρ μ = .ok (.own (.lst ds) :: os) μ2 := by
  unfold mmOwn oLst
  rw [h, bnd_okN, bnd_okN, h2, bnd_okN]
theorem mm_dic {r : SM} {os : List OV} (h2 : r ρ μ = .ok os μ2) : mmOwn oDicN r ρ μ = .ok (.own (.dic [] []) :: os) μ2 := by
  unfold mmOwn oDicN
  rw [bnd_okN, h2, bnd_okN]
theorem mm_nil : mmNil ρ μ = .ok [] μ := rfl
theorem parN_o {is : List Nat} {mr : SM} {os : List OV} (h : mr ρ μ = .ok os μ1) (hl : os.length = is.length) : sParN is mr ρ μ = .nx (setMany ρ is os) μ1 := by
  unfold sParN
  rw [h, go_okN, if_pos hl]
end
end DL
/-! # Pl10: errors, tries, loops for every place of cells -/
namespace DL
open PySem PySem.Spec L2
open PyProof.Rows hiding St
section
variable {ρ ρ1 ρ2 : DL.Env} {μ μ1 μ2 : Mu} {d e : D} {x : Str} {fs : List (Str × D)}
theorem fn_ex {n N : Nat} {m : SS} {ds : List D} (hn : ds.length = n) (h : m (env0 N ds) μ = .exn x fs ρ1 μ1) : mFn n N m ds μ = .exn x fs μ1 := by
  unfold mFn
  rw [if_pos hn, h]
  rfl
theorem seq_e {m m2 : SS} (h : m ρ μ = .exn x fs ρ1 μ1) : sSeq m m2 ρ μ = .exn x fs ρ1 μ1 := by
  unfold sSeq
  rw [h]
  rfl
theorem raise_o {f : Str} {m : SE} (h : m ρ μ = .ok d μ1) : sRaise x f m ρ μ = .exn x [(f, d)] ρ μ1 := by
  unfold sRaise
  rw [h]
  rfl
theorem set_e {i : Nat} {m : SE} (h : m ρ μ = .exn x fs μ1) : sSet i m ρ μ = .exn x fs ρ μ1 := by
  unfold sSet
  rw [h]
  rfl
theorem ret_e {m : SE} (h : m ρ μ = .exn x fs μ1) : sRet m ρ μ = .exn x fs ρ μ1 := by
  unfold sRet
  rw [h]
  rfl
theorem forL_e {tg : TgD} {m : SS} {r : List D} (h1 : tg d ρ = some ρ1) (h2 : m ρ1 μ = .exn x fs ρ2 μ2) : forL tg m (d :: r) ρ μ = .exn x fs ρ2 μ2 := by
  unfold forL
  rw [h1]
  simp only [h2]
theorem ap1_e {m : SE} {F : List D → Mu → Out D} (h : m ρ μ = .exn x fs μ1) : mApp F (mCons m mNil) ρ μ = .exn x fs μ1 := by
  simp [mApp, mCons, h]
theorem call1_e {m : SE} {F : FD} (h : m ρ μ = .exn x fs μ1) : mCall 1 F (mCons m mNil) ρ μ = .exn x fs μ1 := by
  simp [mCall, mCons, h]
theorem call2_e {m m2 : SE} {F : FD} (h : m ρ μ = .exn x fs μ1) : mCall 2 F (mCons m (mCons m2 mNil)) ρ μ = .exn x fs μ1 := by
  simp [mCall, mCons, h]
theorem asg_e {m : SE} {tg : TgD} (h : m ρ μ = .exn x fs μ1) : sAsg m tg ρ μ = .exn x fs ρ μ1 := by
  unfold sAsg
  rw [h]
  rfl
theorem for_e {mi : Env → Mu → Out (List D)} {tg : TgD} {m : SS} (h : mi ρ μ = .exn x fs μ1) : sFor mi tg m ρ μ = .exn x fs ρ μ1 := by
  unfold sFor
  rw [h]
  rfl
theorem expr_e {m : SE} (h : m ρ μ = .exn x fs μ1) : sExpr m ρ μ = .exn x fs ρ μ1 := by
  unfold sExpr
  rw [h]
  rfl
theorem op_e {F : D → D → Mu → Out D} {m m2 : SE} (h : m ρ μ = .exn x fs μ1) : mOp F m m2 ρ μ = .exn x fs μ1 := by
  unfold mOp
  rw [h]
  rfl
theorem par_o {i j : Nat} {m m2 : SE} (h : m ρ μ = .ok d μ1) (h2 : m2 ρ μ1 = .ok e μ2) : sPar i j (mCons m (mCons m2 mNil)) ρ μ = .nx (setE (setE ρ i d) j e) μ2 := by
  unfold sPar
  rw [cons2 h h2, go_okN]
theorem callK_o {a n : Nat} {ord : List Nat} {k : Nat} {F : FD} {mr mk : SA} {ds es : List D} {r : Out D} (h1 : mr ρ μ = .ok ds μ1) (h2 : mk ρ μ1 = .ok es μ2) (hl : ds.length = a ∧ es.length = n ∧ (perm ord (ds ++ es)).length = k) (hF : F (perm ord (ds ++ es)) μ2 = r) : mCallK a n ord k F mr mk ρ μ = r := by
  unfold mCallK
  rw [bnd_eq _ h1, bnd_eq _ h2, if_pos hl]
  exact hF
theorem try_rt {nm : List Str} {m : SS} {cl : List Cl} (h : m ρ μ = .exn x fs ρ1 μ1) (hx : x ∈ nm) (hc : catch_ nm x fs ρ1 μ1 cl = .rt d μ1) : sTry nm m cl ρ μ = .rt d μ1 := by
  unfold sTry
  rw [h]
  simp only
  rw [if_pos hx, hc]
theorem try_nx {nm : List Str} {m : SS} {cl : List Cl} (h : m ρ μ = .nx ρ1 μ1) : sTry nm m cl ρ μ = .nx ρ1 μ1 := by
  unfold sTry
  rw [h]
end
theorem forL_1 {tg : TgD} {m : SS} {d : D} {r : List D} {ρ ρ1 ρ2 : DL.Env} {μ μ2 : Mu} {o : SOut} (h1 : tg d ρ = some ρ1) (h2 : m ρ1 μ = .nx ρ2 μ2) (h3 : forL tg m r ρ2 μ2 = o) : forL tg m (d :: r) ρ μ = o := by
  unfold forL
  rw [h1]
  simp only [h2]
  exact h3
theorem forL_app {tg : TgD} {m : SS} {ys : List D} {ρ1 : DL.Env} {μ1 : Mu} : ∀ (xs : List D) (ρ : DL.Env) (μ : Mu), forL tg m xs ρ μ = .nx ρ1 μ1 → (∀ x ∈ xs, ∀ ρ μ ρ2 μ2, m ρ μ ≠ .bk ρ2 μ2) → forL tg m (xs ++ ys) ρ μ = forL tg m ys ρ1 μ1
  | [], ρ, μ, h, _ => by
    cases h
    rfl
  | x :: xs, ρ, μ, h, nb => by
    rw [List.cons_append]
    unfold forL at h
    conv => lhs; unfold forL
    cases e : tg x ρ with
    | none => rw [e] at h; cases h
    | some ρ' =>
      rw [e] at h
      simp only at h ⊢
      cases q : m ρ' μ with
      | nx ρ2 μ2 =>
        rw [q] at h
        exact forL_app xs ρ2 μ2 h fun y hy => nb y (List.mem_cons_of_mem _ hy)
      | ct ρ2 μ2 =>
        rw [q] at h
        exact forL_app xs ρ2 μ2 h fun y hy => nb y (List.mem_cons_of_mem _ hy)
      | bk ρ2 μ2 => exact absurd q (nb x List.mem_cons_self _ _ _ _)
      | rt _ _ => rw [q] at h; cases h
      | exn _ _ _ _ => rw [q] at h; cases h
      | stuck => rw [q] at h; cases h
theorem enum_snoc (l : List D) (d : D) : enumL (l ++ [d]) = enumL l ++ [.tup [eI l.length, d]] := by
  unfold enumL
  rw [List.mapIdx_concat]
theorem or_ff {t u : ST'} {ρ : DL.Env} {μ : Mu} (h1 : t ρ μ = .ok false μ) (h2 : u ρ μ = .ok false μ) : mOr t u ρ μ = .ok false μ := by
  unfold mOr
  rw [h1, bnd_okN, if_neg (by decide)]
  exact h2
theorem and_f {t u : ST'} {ρ : DL.Env} {μ : Mu} (h1 : t ρ μ = .ok false μ) : mAnd t u ρ μ = .ok false μ := by
  unfold mAnd
  rw [h1, bnd_okN, if_neg (by decide)]
theorem and_t {t u : ST'} {ρ : DL.Env} {μ : Mu} {b : Bool} (h1 : t ρ μ = .ok true μ) (h2 : u ρ μ = .ok b μ) : mAnd t u ρ μ = .ok b μ := by
  unfold mAnd
  rw [h1, bnd_okN, if_pos rfl]
  exact h2
/-- what is the same has the same repr -/
theorem repr_same {d : D} {ma mb : SE} {ρ : DL.Env} {μ : Mu} (h1 : ma ρ μ = .ok d μ) (h2 : mb ρ μ = .ok d μ) (hs : d.sm = true) (hl : d.lv ≤ 50) (hz : d.sz ≤ 16777216) :
    mTest (mOp fNe (mApp fRepr (mCons ma mNil)) (mApp fRepr (mCons mb mNil))) ρ μ = .ok false μ := by
  obtain ⟨r1, r2⟩ := repr_ok (μ := μ) hs hl hz
  exact test_o (op_o (ap1 h1 r1) (ap1 h2 r1) (ne_same _ r2 μ))
theorem sz_R (l : List Nat) : (eR l).sz ≤ 3 + l.length * 8 := by
  simp only [D.sz]
  have := szAll_map (f := eI) (n := 6) l fun x _ => Nat.le_refl _
  omega
/-- a loop, for every place of the frame's cells at once -/
theorem forL_uni {Φ : Type} {tg : TgD} {m : Φ → SS} (f : Nat → D) (J : Mu → Prop) (P : DL.Env → Prop) : ∀ (n k : Nat), (∀ j, k ≤ j → j < k + n → ∀ μ, J μ → ∃ μ', J μ' ∧ ∀ φ ρ, P ρ → ∃ ρ1 ρ2, tg (f j) ρ = some ρ1 ∧ m φ ρ1 μ = .nx ρ2 μ' ∧ P ρ2) → ∀ μ, J μ →
    ∃ μ', J μ' ∧ ∀ φ ρ, P ρ → ∃ ρ', forL tg (m φ) ((List.range' k n).map f) ρ μ = .nx ρ' μ' ∧ P ρ'
  | 0, k, _, μ, hJ => ⟨μ, hJ, fun φ ρ h => ⟨ρ, rfl, h⟩⟩
  | n + 1, k, hs, μ, hJ => by
    obtain ⟨μ1, hJ1, h1⟩ := hs k (Nat.le_refl _) (by omega) μ hJ
    obtain ⟨μ2, hJ2, h2⟩ := forL_uni (tg := tg) (m := m) f J P n (k + 1) (fun j a b => hs j (by omega) (by omega)) μ1 hJ1
    refine ⟨μ2, hJ2, fun φ ρ hP => ?_⟩
    obtain ⟨ρ1, ρ2, e1, e2, hP2⟩ := h1 φ ρ hP
    obtain ⟨ρ', e3, hP3⟩ := h2 φ ρ2 hP2
    refine ⟨ρ', ?_, hP3⟩
    rw [List.range'_succ, List.map_cons]
    unfold forL
    rw [e1]
    simp only [e2]
    exact e3
theorem all_eq {F : List (Str × Addr) → FD} {ds : List D} {μ : Mu} {o : Out D} (h : ∀ fc, F fc ds μ = o) : mAll F ds μ = o := by
  have ex : ∃ o, ∀ fc, F fc ds μ = o := ⟨o, h⟩
  unfold mAll
  rw [dif_pos ex]
  exact (ex.choose_spec []).symm.trans (h [])
theorem or_t {t u : ST'} {ρ : DL.Env} {μ μ1 : Mu} (h1 : t ρ μ = .ok true μ1) : mOr t u ρ μ = .ok true μ1 := by
  unfold mOr
  rw [h1, bnd_okN, if_pos rfl]
theorem or_f {t u : ST'} {ρ : DL.Env} {μ μ1 μ2 : Mu} {b : Bool} (h1 : t ρ μ = .ok false μ1) (h2 : u ρ μ1 = .ok b μ2) : mOr t u ρ μ = .ok b μ2 := by
  unfold mOr
  rw [h1, bnd_okN, if_neg (by decide)]
  exact h2
theorem chain_o {g1 g2 : D → D → Mu → Out D} {ma mb mc : SE} {ρ : DL.Env} {μ μ1 μ2 μ3 μ4 : Mu} {x y w : D} {r : Out D} (h1 : ma ρ μ = .ok x μ1) (h2 : mb ρ μ1 = .ok y μ2) (h3 : g1 x y μ2 = .ok (.bl true) μ3) (h4 : mc ρ μ3 = .ok w μ4) (h5 : g2 y w μ4 = r) : mChain g1 g2 ma mb mc ρ μ = r := by
  unfold mChain
  rw [h1, bnd_okN, h2, bnd_okN, h3, bnd_okN]
  simp only
  rw [h4, bnd_okN]
  exact h5
theorem leI (a b : Int) (μ : Mu) : fLe (.int a) (.int b) μ = .ok (.bl (decide (a ≤ b))) μ := rfl
theorem ltI (a b : Int) (μ : Mu) : fLt (.int a) (.int b) μ = .ok (.bl (decide (a < b))) μ := rfl
/-- letters' words -/
def kidsW (k : Nat) (w : List Nat) : List (List Nat) := (List.range k).map fun j => w ++ [j]
def ledW (maps : List (List Nat)) (w : List Nat) : Nat := w.foldl (fun a j => dl maps j a) 0
theorem flat_same {α β : Type} (f : α → β) (k : α → List α) (k' : β → List β) (h : ∀ x, k' (f x) = (k x).map f) : ∀ l : List α, (l.map f).flatMap k' = (l.flatMap k).map f
  | [] => rfl
  | x :: l => by rw [List.map_cons, List.flatMap_cons, List.flatMap_cons, List.map_append, h x, flat_same f k k' h l]
theorem layer_led (maps : List (List Nat)) : ∀ t, layer (kidsP maps) (0, []) t = (layer (kidsW maps.length) [] t).map fun w => (ledW maps w, w)
  | 0 => rfl
  | t + 1 => by
    show (layer (kidsP maps) (0, []) t).flatMap _ = _
    rw [layer_led maps t]
    refine flat_same (fun w => (ledW maps w, w)) (kidsW maps.length) (kidsP maps) (fun w => ?_) _
    unfold kidsP kidsW
    rw [List.map_map]
    apply List.map_congr_left
    intro j _
    show (dl maps j (ledW maps w), w ++ [j]) = (ledW maps (w ++ [j]), w ++ [j])
    unfold ledW
    rw [List.foldl_append]
    rfl
theorem layers_led (maps : List (List Nat)) : ∀ t, layers (kidsP maps) (0, []) t = (layers (kidsW maps.length) [] t).map fun w => (ledW maps w, w)
  | 0 => rfl
  | t + 1 => by
    show layers _ _ t ++ layer _ _ (t + 1) = (layers _ _ t ++ layer _ _ (t + 1)).map _
    rw [layers_led maps t, layer_led maps (t + 1), List.map_append]
theorem layerW_len (k : Nat) : ∀ t, (layer (kidsW k) [] t).length = k ^ t ∧ ∀ w ∈ layer (kidsW k) [] t, w.length = t ∧ ∀ j ∈ w, j < k
  | 0 => ⟨rfl, fun w hw => by rw [List.mem_singleton.mp hw]; exact ⟨rfl, fun j h => by simp at h⟩⟩
  | t + 1 => by
    obtain ⟨h1, h2⟩ := layerW_len k t
    refine ⟨?_, fun w hw => ?_⟩
    · show ((layer (kidsW k) [] t).flatMap (kidsW k)).length = _
      rw [List.length_flatMap, Nat.pow_succ, ← h1]
      generalize layer (kidsW k) [] t = l
      induction l with
      | nil => simp
      | cons q l ih =>
        rw [List.map_cons, List.sum_cons, ih, List.length_cons]
        simp only [kidsW, List.length_map, List.length_range, Nat.add_mul, Nat.one_mul]
        omega
    · obtain ⟨v, hv, hw⟩ := List.mem_flatMap.mp hw
      obtain ⟨j, hj, rfl⟩ := List.mem_map.mp hw
      obtain ⟨h3, h4⟩ := h2 v hv
      refine ⟨by rw [List.length_append, h3]; rfl, fun i hi => ?_⟩
      rcases List.mem_append.mp hi with z | z
      · exact h4 i z
      · rw [List.mem_singleton.mp z]; exact List.mem_range.mp hj
theorem layersW_mem (k : Nat) : ∀ t, ∀ w ∈ layers (kidsW k) [] t, w.length ≤ t ∧ ∀ j ∈ w, j < k
  | 0, w, hw => by rw [List.mem_singleton.mp hw]; exact ⟨Nat.le_refl _, fun j h => by simp at h⟩
  | t + 1, w, hw => by
    rcases List.mem_append.mp hw with z | z
    · obtain ⟨h1, h2⟩ := layersW_mem k t w z
      exact ⟨by omega, h2⟩
    · obtain ⟨h1, h2⟩ := (layerW_len k (t + 1)).2 w z
      exact ⟨by omega, h2⟩
theorem pow_lim {k t : Nat} (hk : k ≤ 4) (ht : t ≤ 8) : k ^ t ≤ 65536 := by
  have h1 : k ^ t ≤ 4 ^ t := Nat.pow_le_pow_left hk t
  have h2 : 4 ^ t ≤ 4 ^ 8 := Nat.pow_le_pow_right (by omega) ht
  have h3 : (4 : Nat) ^ 8 = 65536 := by decide
  omega
theorem layersW_len {k : Nat} (hk : k ≤ 4) : ∀ t, t ≤ 8 → (layers (kidsW k) [] t).length ≤ (t + 1) * 65536
  | 0, _ => by show 1 ≤ _; omega
  | t + 1, ht => by
    show (layers (kidsW k) [] t ++ layer (kidsW k) [] (t + 1)).length ≤ _
    have h1 := layersW_len hk t (by omega)
    have h2 := (layerW_len k (t + 1)).1
    have h3 := pow_lim hk ht
    rw [List.length_append]
    omega
theorem ledW_lt {maps : List (List Nat)} {reads : List Nat} (R : Rows maps reads) (n1 : 1 ≤ reads.length) {w : List Nat} (hw : ∀ j ∈ w, j < maps.length) : ledW maps w < reads.length := by
  have go : ∀ (w : List Nat) (a : Nat), a < reads.length → (∀ j ∈ w, j < maps.length) → w.foldl (fun a j => dl maps j a) a < reads.length := by
    intro w
    induction w with
    | nil => exact fun a ha _ => ha
    | cons j w ih => exact fun a ha h => ih _ (dl_lt R (h j List.mem_cons_self) ha) fun i hi => h i (List.mem_cons_of_mem _ hi)
  exact go w 0 n1 hw
theorem repr_bl (b : Bool) (μ : Mu) : ∃ s, fRepr [.bl b] μ = .ok (.str s) μ ∧ PyData.strOk s = true := by
  cases b
  · exact ⟨(PyData.bool false).shown, by kernel_rfl, by decide +kernel⟩
  · exact ⟨(PyData.bool true).shown, by kernel_rfl, by decide +kernel⟩
theorem ne_lst {l : List D} (h : smAll l = true) (hl : lvAll l ≤ 60) (μ : Mu) : fNe (.lst l) (.lst l) μ = .ok (.bl false) μ := by
  have z := pys_sm l h
  have e1 : (D.lst l).pyM μ = some (.list (pdAll l)) := by
    show (D.lst l).py = _
    simp only [D.py, z.1]
    rfl
  have d1 := (shownAll_le _ h).2.2.2
  have sh : SeqAt.shaped (.list (pdAll l)) = true := by
    unfold SeqAt.shaped
    rw [show PyData.canLay0 (.list (pdAll l)) = true from z.2, Bool.true_and, decide_eq_true_eq]
    show PyData.depthAll (pdAll l) + 1 ≤ _
    omega
  have e2 : PyData.eqv (.list (pdAll l)) (.list (pdAll l)) = true := by
    simp only [PyData.eqv]
    exact (eqvs_sm l l h h).mpr rfl
  unfold fNe
  rw [e1]
  simp only
  rw [if_pos ⟨sh, sh⟩, e2]
  rfl
theorem callO1 {F : (D → FD) → FD} {ct : (Nat → Option D) → D → FD} {m : SE} {ρ : Env} {μ μ1 : Mu} {d : D} {r : Out D} (h : m ρ μ = .ok d μ1) (hF : F (ct (valAt ρ)) [d] μ1 = r) : mCallO 1 F ct (mCons m mNil) ρ μ = r := by
  unfold mCallO
  rw [bnd_eq _ (cons1 h), if_pos (show [d].length = 1 from rfl)]
  exact hF
theorem filter_lt {m n : Nat} (h : m ≤ n) : ((List.range n).filter fun i => decide (i < m)).length = m := by
  have h1 := nodup_le ((List.range n).filter fun i => decide (i < m)) (List.range m) (List.nodup_range.filter _) fun x hx => List.mem_range.mpr (by simpa using (List.mem_filter.mp hx).2)
  have h2 := nodup_le (List.range m) ((List.range n).filter fun i => decide (i < m)) List.nodup_range fun x hx => List.mem_filter.mpr ⟨List.mem_range.mpr (by have := List.mem_range.mp hx; omega), decide_eq_true (List.mem_range.mp hx)⟩
  rw [List.length_range] at h1 h2
  omega
theorem repr_same_b {b : Bool} {ma mb : SE} {ρ : Env} {μ : Mu} (h1 : ma ρ μ = .ok (.bl b) μ) (h2 : mb ρ μ = .ok (.bl b) μ) : mTest (mOp fNe (mApp fRepr (mCons ma mNil)) (mApp fRepr (mCons mb mNil))) ρ μ = .ok false μ := by
  obtain ⟨s, r1, r2⟩ := repr_bl b μ
  exact test_o (op_o (ap1 h1 r1) (ap1 h2 r1) (ne_same _ r2 μ))
theorem ct_lam' {fc : List (Str × Addr)} {lams : List LamE} {CT0 : D → FD} {get : Nat → Option D} {j : Nat} {l : LamE} {μ : Mu} (hl : lams.find? (fun e => e.n == j) = some l) (hp : l.ps = []) : ctN fc lams CT0 get 1 (.lam j fc) [] μ = l.m CT0 (lamEnv l.N.length [] (l.js.map get)) μ := by
  show (if fc = fc then (match lams.find? (fun e => e.n == j) with
    | some e => mLamS e.ps.length e.N.length e.js (e.m CT0) get [] μ
    | none => .stuck) else _) = _
  rw [if_pos rfl, hl]
  simp only
  unfold mLamS
  rw [hp]
  rfl
end DL
namespace W
open PySem PySem.Spec L2 DL
open PyProof.Rows hiding St
def top (i : Nat) : Stmt := PySem.Challenge.pw_forgetwhen_k03_whole_least_machines.main.body.getD i (.Pass ⟨0, 0, 0, 0⟩)
abbrev s_numbered_signs : Stmt := top 17
abbrev s_words_to : Stmt := top 15
abbrev s_finer_round : Stmt := top 18
abbrev s_rounds_of : Stmt := top 19
abbrev s_names_in_least : Stmt := top 20
abbrev s_least_of : Stmt := top 22
abbrev s_is_integer : Stmt := top 4
abbrev s_is_number : Stmt := top 5
abbrev s_is_below : Stmt := top 6
abbrev s_is_sequence : Stmt := top 7
abbrev s_is_row_below : Stmt := top 13
abbrev s_is_pair : Stmt := top 8
abbrev s_need_machine : Stmt := top 14
abbrev s_least_machine : Stmt := top 23
abbrev s_is_least : Stmt := top 24
abbrev s_law_take : Stmt := top 27
abbrev s_law_pick : Stmt := top 28
abbrev s_law_error : Stmt := top 36
abbrev s_law_is_machine : Stmt := top 35
abbrev s_least_names : Stmt := top 21
abbrev s_law_words : Stmt := top 32
abbrev s_law_led : Stmt := top 31
abbrev s_law_futures : Stmt := top 33
abbrev s_law_names : Stmt := top 34
abbrev s_law_map : Stmt := top 29
abbrev s_law_machine : Stmt := top 30
abbrev s_law_box : Stmt := top 26
abbrev s_law : Stmt := top 37
abbrev s_InvalidMachine : Stmt := initOf (top 2)
def nm : List Str := ["InvalidMachine"]
def ltab : Nat → LText
  | 0 => lamIn s_law "law.<locals>.<lambda>" [2, 9] [0, 0, 1]
  | 1 => lamIn s_law "law.<locals>.<lambda>" [2, 10] [0, 0, 1]
  | _ => lamOf "" (.Constant .none 0 ⟨0, 0, 0, 0⟩)
instance theLams : HasL := ⟨ltab⟩
variable [HasX]
structure Gr (P : Program) (K : PySem.W.Frag) (mg : Str → Option Value) : Prop where
  b_abs : mg "abs" = none
  b_all : mg "all" = none
  b_bool : mg "bool" = none
  b_enumerate : mg "enumerate" = none
  b_int : mg "int" = none
  b_isinstance : mg "isinstance" = none
  b_len : mg "len" = none
  b_list : mg "list" = none
  b_max : mg "max" = none
  b_range : mg "range" = none
  b_repr : mg "repr" = none
  b_tuple : mg "tuple" = none
  b_zip : mg "zip" = none
  i_MOST_KINDS : ∃ t, mg "MOST_KINDS" = some (.int 4 t)
  i_MOST_STATES : ∃ t, mg "MOST_STATES" = some (.int 8 t)
  i_READING_BOUND : ∃ t, mg "READING_BOUND" = some (.int 100 t)
  g_TwinError : mg "TwinError" = some (.ref (He.ga K "TwinError")) ∧ PySem.W.nsIn K mainGlobals "TwinError" = some (some (.ref (He.ga K "TwinError")))
  g_InvalidMachine : mg "InvalidMachine" = some (.ref (He.ga K "InvalidMachine")) ∧ PySem.W.nsIn K mainGlobals "InvalidMachine" = some (some (.ref (He.ga K "InvalidMachine")))
  e_InvalidMachine : Err P K mg "InvalidMachine" "at"
  errs : Errs K nm
def N_numbered_signs : List Str := ["signs", "numbers", "sign"]
theorem sc_numbered_signs : FnScope N_numbered_signs ["signs"] (defScope s_numbered_signs) := ⟨rfl, rfl, rfl, by decide +kernel, rfl, by decide +kernel, by decide +kernel⟩
def m_numbered_signs : SS :=
 (sSeq (sDicN 1)
 (sSeq (sFor (mSeq (mVal 0)) (tgName 2)
 (sIf (mTest (mOp (fIn2 true) (mVal 2) (mVar 1)))
 (sDicPut 1 (mVal 2) (mApp fLen2 (mCons (mVar 1) mNil)))
 sNx))
 (sRet (mApp fTuple (mCons (mLs (nComp (mSeq (mVal 0)) (tgName 2) mYes (mOp fIx2 (mVar 1) (mVal 2)) [2])) mNil)))))
def F_numbered_signs : FD := mFn 1 3 m_numbered_signs
theorem der_numbered_signs {P : Program} {w : World} {K : PySem.W.Frag} {mg : Str → Option Value} {base : Heap} (G : Gr P K mg)  [HasH] (f : Addr) (cdv : Value) (A : Around) (outer : List PySem.Env) (s : Shared) (H : Hp) (E : XK) (hr : Rm 0 (cxOf (L2.CX P w) P w K mg base N_numbered_signs "numbered_signs" (defScope s_numbered_signs) f cdv A outer s H E).A) : PSDs (cxOf (L2.CX P w) P w K mg base N_numbered_signs "numbered_signs" (defScope s_numbered_signs) f cdv A outer s H E) (WE' E) (defBody s_numbered_signs) m_numbered_signs := by
  have tk0 : Takes (cxOf (L2.CX P w) P w K mg base N_numbered_signs "numbered_signs" (defScope s_numbered_signs) f cdv A outer s H E) (WE' E) := takes_def
  have hp0 := own_def (P := P) (w := w) (K := K) (mg := mg) (base := base) (N := N_numbered_signs) (qual := "numbered_signs") (scope := defScope s_numbered_signs) (f := f) (cdv := cdv) (A := A) (outer := outer) (s := s) (H := H) (E := E)
  unfold m_numbered_signs
  exact (psd_cons (psd_dicN sc_numbered_signs.nd) (psd_cons (psd_for hp0 rfl (pid_seq (pd_val 0)) (pgd_name sc_numbered_signs.nd) (psd_one (psd_if (pdt_notIn2 hr (pd_val 2) (pd_var 1)) (psd_one (psd_dicPut hr (pd_len2 G.b_len (pda_cons (pd_var 1) pda_nil)) (pd_val 2))) psd_nil))) (psd_one (psd_ret (pd_tupleOf G.b_tuple (pda_cons (PDN.pd (pdn_comp (own := [("sign", 2)]) rfl sc_numbered_signs.nd (pid_seq (pd_val 0)) (by kernel_rfl) (fun _ _ _ _ _ => (pgd_name sc_numbered_signs.nd)) (fun _ _ _ _ _ => pdts_nil) (fun _ _ _ _ _ => (pd_ix2 hr (pd_var 1) (pd_val 2))) (by kernel_rfl))) pda_nil))))))
def N_words_to : List Str := ["maps", "found", "order", "turn", "state", "kind", "row"]
theorem sc_words_to : FnScope N_words_to ["maps"] (defScope s_words_to) := ⟨rfl, rfl, rfl, by decide +kernel, rfl, by decide +kernel, by decide +kernel⟩
def m_words_to : SS :=
 (sSeq (sDic1 1 (mC (.int 0)) (mApp fTup mNil))
 (sSeq (sSetN 2 (nDisp (mCons (mC (.int 0)) mNil)))
 (sSeq (sFor (mRng fRng1 (mCons (mApp fLen2 (mCons (mOp fIx2 (mVal 0) (mC (.int 0))) mNil)) mNil)) (tgName 3)
 (sIf (mTest (mOp fLt (mVal 3) (mApp fLen2 (mCons (mVar 2) mNil))))
 (sSeq (sSet 4 (mOp fIx2 (mVar 2) (mVal 3)))
 (sFor (mEnum (mVal 0)) (tgTup (tgCons (tgName 5) (tgCons (tgName 6) tgNil)))
 (sIf (mTest (mOp (fIn2 true) (mOp fIx2 (mVal 6) (mVal 4)) (mVar 1)))
 (sSeq (sDicPut 1 (mOp fIx2 (mVal 6) (mVal 4)) (mOp fAdd (mOp fIx2 (mVar 1) (mVal 4)) (mApp fTup (mCons (mVal 5) mNil))))
 (sApp 2 (mOp fIx2 (mVal 6) (mVal 4))))
 sNx)))
 sNx))
 (sFrz 2 (sRet (mLs (nComp (mSeq (mVal 2)) (tgName 4) mYes (mApp fTup (mCons (mVal 4) (mCons (mOp fIx2 (mVar 1) (mVal 4)) mNil))) [4])))))))
def F_words_to : FD := mFn 1 7 m_words_to
theorem der_words_to {P : Program} {w : World} {K : PySem.W.Frag} {mg : Str → Option Value} {base : Heap} (G : Gr P K mg)  [HasH] (f : Addr) (cdv : Value) (A : Around) (outer : List PySem.Env) (s : Shared) (H : Hp) (E : XK) (hr : Rm 0 (cxOf (L2.CX P w) P w K mg base N_words_to "words_to" (defScope s_words_to) f cdv A outer s H E).A) : PSDs (cxOf (L2.CX P w) P w K mg base N_words_to "words_to" (defScope s_words_to) f cdv A outer s H E) (WE' E) (defBody s_words_to) m_words_to := by
  have tk0 : Takes (cxOf (L2.CX P w) P w K mg base N_words_to "words_to" (defScope s_words_to) f cdv A outer s H E) (WE' E) := takes_def
  have hp0 := own_def (P := P) (w := w) (K := K) (mg := mg) (base := base) (N := N_words_to) (qual := "words_to") (scope := defScope s_words_to) (f := f) (cdv := cdv) (A := A) (outer := outer) (s := s) (H := H) (E := E)
  unfold m_words_to
  exact (psd_cons (psd_dic1 sc_words_to.nd pd_int (pd_tup pda_nil)) (psd_cons (psd_setN sc_words_to.nd (pdn_list (pda_cons pd_int pda_nil))) (psd_cons (psd_for hp0 rfl (pid_range1 G.b_range (pda_cons (pd_len2 G.b_len (pda_cons (pd_ix2 hr (pd_val 0) pd_int) pda_nil)) pda_nil)) (pgd_name sc_words_to.nd) (psd_one (psd_if (pdt_lt (pd_val 3) (pd_len2 G.b_len (pda_cons (pd_var 2) pda_nil))) (psd_cons (psd_set sc_words_to.nd (pd_ix2 hr (pd_var 2) (pd_val 3))) (psd_one (psd_for hp0 rfl (pid_enum G.b_enumerate (pd_val 0)) (pgd_tup rfl (pgds_cons (pgd_name sc_words_to.nd) (pgds_cons (pgd_name sc_words_to.nd) pgds_nil))) (psd_one (psd_if (pdt_notIn2 hr (pd_ix2 hr (pd_val 6) (pd_val 4)) (pd_var 1)) (psd_cons (psd_dicPut hr (pd_add (pd_ix2 hr (pd_var 1) (pd_val 4)) (pd_tup (pda_cons (pd_val 5) pda_nil))) (pd_ix2 hr (pd_val 6) (pd_val 4))) (psd_one (psd_app (pd_ix2 hr (pd_val 6) (pd_val 4))))) psd_nil))))) psd_nil))) (psd_one (psd_frz 2 (psd_ret (PDN.pd (pdn_comp (own := [("state", 4)]) rfl sc_words_to.nd (pid_seq (pd_val 2)) (by kernel_rfl) (fun _ _ _ _ _ => (pgd_name sc_words_to.nd)) (fun _ _ _ _ _ => pdts_nil) (fun _ _ _ _ _ => (pd_tup (pda_cons (pd_val 4) (pda_cons (pd_ix2 hr (pd_var 1) (pd_val 4)) pda_nil)))) (by kernel_rfl)))))))))
def N_finer_round : List Str := ["maps", "classes", "state", "row"]
theorem sc_finer_round : FnScope N_finer_round ["maps", "classes"] (defScope s_finer_round) := ⟨rfl, rfl, rfl, by decide +kernel, rfl, by decide +kernel, by decide +kernel⟩
def m_finer_round : SS :=
 (sRet (mCall 1 F_numbered_signs (mCons (mLs (nComp (mRng fRng1 (mCons (mApp fLen2 (mCons (mVal 1) mNil)) mNil)) (tgName 2) mYes (mOp fAdd (mApp fTup (mCons (mOp fIx2 (mVal 1) (mVal 2)) mNil)) (mApp fTuple (mCons (mLs (nComp (mSeq (mVal 0)) (tgName 3) mYes (mOp fIx2 (mVal 1) (mOp fIx2 (mVal 3) (mVal 2))) [3])) mNil))) [2])) mNil)))
def F_finer_round : FD := mFn 2 4 m_finer_round
theorem der_finer_round {P : Program} {w : World} {K : PySem.W.Frag} {mg : Str → Option Value} {base : Heap} (G : Gr P K mg) (c_numbered_signs : Cal P w K mg base 1 "numbered_signs" 1 F_numbered_signs) [HasH] (f : Addr) (cdv : Value) (A : Around) (outer : List PySem.Env) (s : Shared) (H : Hp) (E : XK) (hr : Rm 1 (cxOf (L2.CX P w) P w K mg base N_finer_round "finer_round" (defScope s_finer_round) f cdv A outer s H E).A) : PSDs (cxOf (L2.CX P w) P w K mg base N_finer_round "finer_round" (defScope s_finer_round) f cdv A outer s H E) (WE' E) (defBody s_finer_round) m_finer_round := by
  have tk0 : Takes (cxOf (L2.CX P w) P w K mg base N_finer_round "finer_round" (defScope s_finer_round) f cdv A outer s H E) (WE' E) := takes_def
  have hp0 := own_def (P := P) (w := w) (K := K) (mg := mg) (base := base) (N := N_finer_round) (qual := "finer_round") (scope := defScope s_finer_round) (f := f) (cdv := cdv) (A := A) (outer := outer) (s := s) (H := H) (E := E)
  unfold m_finer_round
  exact (psd_one (psd_ret (pd_call c_numbered_signs hr (by decide) tk0 (pda_cons (PDN.pd (pdn_comp (own := [("state", 2)]) rfl sc_finer_round.nd (pid_range1 G.b_range (pda_cons (pd_len2 G.b_len (pda_cons (pd_val 1) pda_nil)) pda_nil)) (by kernel_rfl) (fun _ _ _ _ _ => (pgd_name sc_finer_round.nd)) (fun _ _ _ _ _ => pdts_nil) (fun _ _ _ _ _ => (pd_add (pd_tup (pda_cons (pd_ix2 hr (pd_val 1) (pd_val 2)) pda_nil)) (pd_tupleOf G.b_tuple (pda_cons (PDN.pd (pdn_comp (own := [("row", 3)]) rfl sc_finer_round.nd (pid_seq (pd_val 0)) (by kernel_rfl) (fun _ _ _ _ _ => (pgd_name sc_finer_round.nd)) (fun _ _ _ _ _ => pdts_nil) (fun _ _ _ _ _ => (pd_ix2 hr (pd_val 1) (pd_ix2 hr (pd_val 3) (pd_val 2)))) (by kernel_rfl))) pda_nil)))) (by kernel_rfl))) pda_nil))))
def N_rounds_of : List Str := ["machine", "found", "following", "maps", "readings"]
theorem sc_rounds_of : FnScope N_rounds_of ["machine"] (defScope s_rounds_of) := ⟨rfl, rfl, rfl, by decide +kernel, rfl, by decide +kernel, by decide +kernel⟩
def m_rounds_of : SS :=
 (sSeq (sAsg (mVal 0) (tgTup (tgCons (tgName 3) (tgCons (tgName 4) tgNil))))
 (sSeq (sSetN 1 (nDisp (mCons (mCall 1 F_numbered_signs (mCons (mVal 4) mNil)) mNil)))
 (sSeq (sSet 2 (mCall 2 F_finer_round (mCons (mVal 3) (mCons (mOp fIx2 (mVar 1) (mUn fNeg (mC (.int 1)))) mNil))))
 (sSeq (whileL (mTest (mOp fNe (mVal 2) (mOp fIx2 (mVar 1) (mUn fNeg (mC (.int 1))))))
 (sSeq (sApp 1 (mVal 2))
 (sSet 2 (mCall 2 F_finer_round (mCons (mVal 3) (mCons (mVal 2) mNil))))) 1000000)
 (sRetO 1)))))
def F_rounds_of : FD := mFn 1 5 m_rounds_of
theorem der_rounds_of {P : Program} {w : World} {K : PySem.W.Frag} {mg : Str → Option Value} {base : Heap} (G : Gr P K mg) (c_finer_round : Cal P w K mg base 2 "finer_round" 2 F_finer_round) (c_numbered_signs : Cal P w K mg base 1 "numbered_signs" 1 F_numbered_signs) [HasH] (f : Addr) (cdv : Value) (A : Around) (outer : List PySem.Env) (s : Shared) (H : Hp) (E : XK) (hr : Rm 2 (cxOf (L2.CX P w) P w K mg base N_rounds_of "rounds_of" (defScope s_rounds_of) f cdv A outer s H E).A) : PSDs (cxOf (L2.CX P w) P w K mg base N_rounds_of "rounds_of" (defScope s_rounds_of) f cdv A outer s H E) (WE' E) (defBody s_rounds_of) m_rounds_of := by
  have tk0 : Takes (cxOf (L2.CX P w) P w K mg base N_rounds_of "rounds_of" (defScope s_rounds_of) f cdv A outer s H E) (WE' E) := takes_def
  have hp0 := own_def (P := P) (w := w) (K := K) (mg := mg) (base := base) (N := N_rounds_of) (qual := "rounds_of") (scope := defScope s_rounds_of) (f := f) (cdv := cdv) (A := A) (outer := outer) (s := s) (H := H) (E := E)
  unfold m_rounds_of
  exact (psd_cons (psd_asg (pd_val 0) (pgd_tup rfl (pgds_cons (pgd_name sc_rounds_of.nd) (pgds_cons (pgd_name sc_rounds_of.nd) pgds_nil)))) (psd_cons (psd_setN sc_rounds_of.nd (pdn_list (pda_cons (pd_call c_numbered_signs hr (by decide) tk0 (pda_cons (pd_val 4) pda_nil)) pda_nil))) (psd_cons (psd_set sc_rounds_of.nd (pd_call c_finer_round hr (by decide) tk0 (pda_cons (pd_val 3) (pda_cons (pd_ix2 hr (pd_var 1) (pd_neg pd_int)) pda_nil)))) (psd_cons (psd_while 1000000 hp0 (pdt_ne hr.r.units (pd_val 2) (pd_ix2 hr (pd_var 1) (pd_neg pd_int))) (psd_cons (psd_app (pd_val 2)) (psd_one (psd_set sc_rounds_of.nd (pd_call c_finer_round hr (by decide) tk0 (pda_cons (pd_val 3) (pda_cons (pd_val 2) pda_nil))))))) (psd_one psd_retO)))))
def N_names_in_least : List Str := ["machine", "classes", "order", "numbers", "found", "state", "word", "number"]
theorem sc_names_in_least : FnScope N_names_in_least ["machine"] (defScope s_names_in_least) := ⟨rfl, rfl, rfl, by decide +kernel, rfl, by decide +kernel, by decide +kernel⟩
def m_names_in_least : SS :=
 (sSeq (sSet 1 (mOp fIx2 (mCall 1 F_rounds_of (mCons (mVal 0) mNil)) (mUn fNeg (mC (.int 1)))))
 (sSeq (sSet 2 (mLs (nComp (mSeq (mCall 1 F_words_to (mCons (mOp fIx2 (mVal 0) (mC (.int 0))) mNil))) (tgTup (tgCons (tgName 5) (tgCons (tgName 6) tgNil))) mYes (mVal 5) [5, 6])))
 (sSeq (sSet 3 (mCall 1 F_numbered_signs (mCons (mLs (nComp (mSeq (mVal 2)) (tgName 5) mYes (mOp fIx2 (mVal 1) (mVal 5)) [5])) mNil)))
 (sSeq (sDicC 4 (nDc (mRng fZipM (mCons (mVal 2) (mCons (mVal 3) mNil))) (tgTup (tgCons (tgName 5) (tgCons (tgName 7) tgNil))) mYes (mVal 5) (mVal 7) [5, 7]))
 (sRet (mLs (nComp (mRng fRng1 (mCons (mApp fLen2 (mCons (mVal 1) mNil)) mNil)) (tgName 5) mYes (mIf (mTest (mOp (fIn2 false) (mVal 5) (mVar 4))) (mOp fIx2 (mVar 4) (mVal 5)) (mC .non)) [5])))))))
def F_names_in_least : FD := mFn 1 8 m_names_in_least
theorem der_names_in_least {P : Program} {w : World} {K : PySem.W.Frag} {mg : Str → Option Value} {base : Heap} (G : Gr P K mg) (c_numbered_signs : Cal P w K mg base 1 "numbered_signs" 1 F_numbered_signs) (c_words_to : Cal P w K mg base 1 "words_to" 1 F_words_to) (c_rounds_of : Cal P w K mg base 3 "rounds_of" 1 F_rounds_of) [HasH] (f : Addr) (cdv : Value) (A : Around) (outer : List PySem.Env) (s : Shared) (H : Hp) (E : XK) (hr : Rm 3 (cxOf (L2.CX P w) P w K mg base N_names_in_least "names_in_least" (defScope s_names_in_least) f cdv A outer s H E).A) : PSDs (cxOf (L2.CX P w) P w K mg base N_names_in_least "names_in_least" (defScope s_names_in_least) f cdv A outer s H E) (WE' E) (defBody s_names_in_least) m_names_in_least := by
  have tk0 : Takes (cxOf (L2.CX P w) P w K mg base N_names_in_least "names_in_least" (defScope s_names_in_least) f cdv A outer s H E) (WE' E) := takes_def
  have hp0 := own_def (P := P) (w := w) (K := K) (mg := mg) (base := base) (N := N_names_in_least) (qual := "names_in_least") (scope := defScope s_names_in_least) (f := f) (cdv := cdv) (A := A) (outer := outer) (s := s) (H := H) (E := E)
  unfold m_names_in_least
  exact (psd_cons (psd_set sc_names_in_least.nd (pd_ix2 hr (pd_call c_rounds_of hr (by decide) tk0 (pda_cons (pd_val 0) pda_nil)) (pd_neg pd_int))) (psd_cons (psd_setc (own := [("state", 5), ("word", 6)]) rfl sc_names_in_least.nd (pid_seq (pd_call c_words_to hr (by decide) tk0 (pda_cons (pd_ix2 hr (pd_val 0) pd_int) pda_nil))) (by kernel_rfl) (fun _ _ _ _ _ => (pgd_tup rfl (pgds_cons (pgd_name sc_names_in_least.nd) (pgds_cons (pgd_name sc_names_in_least.nd) pgds_nil)))) (fun _ _ _ _ _ => pdts_nil) (fun _ _ _ _ _ => (pd_val 5)) (by kernel_rfl)) (psd_cons (psd_set sc_names_in_least.nd (pd_call c_numbered_signs hr (by decide) tk0 (pda_cons (PDN.pd (pdn_comp (own := [("state", 5)]) rfl sc_names_in_least.nd (pid_seq (pd_val 2)) (by kernel_rfl) (fun _ _ _ _ _ => (pgd_name sc_names_in_least.nd)) (fun _ _ _ _ _ => pdts_nil) (fun _ _ _ _ _ => (pd_ix2 hr (pd_val 1) (pd_val 5))) (by kernel_rfl))) pda_nil))) (psd_cons (psd_dicC (own := [("state", 5), ("number", 7)]) sc_names_in_least.nd rfl (pid_zipM G.b_zip (pda_cons (pd_val 2) (pda_cons (pd_val 3) pda_nil))) (by kernel_rfl) (fun _ _ _ _ _ => (pgd_tup rfl (pgds_cons (pgd_name sc_names_in_least.nd) (pgds_cons (pgd_name sc_names_in_least.nd) pgds_nil)))) (fun _ _ _ _ _ => pdts_nil) (fun _ _ _ _ _ => (pd_val 5)) (fun _ _ _ _ _ => (pd_val 7)) (by kernel_rfl)) (psd_one (psd_ret (PDN.pd (pdn_comp (own := [("state", 5)]) rfl sc_names_in_least.nd (pid_range1 G.b_range (pda_cons (pd_len2 G.b_len (pda_cons (pd_val 1) pda_nil)) pda_nil)) (by kernel_rfl) (fun _ _ _ _ _ => (pgd_name sc_names_in_least.nd)) (fun _ _ _ _ _ => pdts_nil) (fun _ _ _ _ _ => (pd_if (pdt_in2 hr (pd_val 5) (pd_var 4)) (pd_ix2 hr (pd_var 4) (pd_val 5)) pd_non)) (by kernel_rfl)))))))))
def N_least_of : List Str := ["machine", "names", "many", "states", "maps", "readings", "number", "name", "row", "state"]
theorem sc_least_of : FnScope N_least_of ["machine"] (defScope s_least_of) := ⟨rfl, rfl, rfl, by decide +kernel, rfl, by decide +kernel, by decide +kernel⟩
def m_least_of : SS :=
 (sSeq (sAsg (mVal 0) (tgTup (tgCons (tgName 4) (tgCons (tgName 5) tgNil))))
 (sSeq (sSet 1 (mCall 1 F_names_in_least (mCons (mVal 0) mNil)))
 (sSeq (sSet 2 (mOp fAdd (mC (.int 1)) (mApp fMax2 (mCons (mLs (nComp (mSeq (mVal 1)) (tgName 7) (mTest (mOp fNotN (mVal 7) (mC .non))) (mVal 7) [7])) mNil))))
 (sSeq (sSet 3 (mLs (nComp (mRng fRng1 (mCons (mVal 2) mNil)) (tgName 6) mYes (mIndex (mVal 1) (mVal 6)) [6])))
 (sRet (mApp fTup (mCons (mApp fTuple (mCons (mLs (nComp (mSeq (mVal 4)) (tgName 8) mYes (mApp fTuple (mCons (mLs (nComp (mSeq (mVal 3)) (tgName 9) mYes (mOp fIx2 (mVal 1) (mOp fIx2 (mVal 8) (mVal 9))) [9])) mNil)) [8])) mNil)) (mCons (mApp fTuple (mCons (mLs (nComp (mSeq (mVal 3)) (tgName 9) mYes (mOp fIx2 (mVal 5) (mVal 9)) [9])) mNil)) mNil))))))))
def F_least_of : FD := mFn 1 10 m_least_of
theorem der_least_of {P : Program} {w : World} {K : PySem.W.Frag} {mg : Str → Option Value} {base : Heap} (G : Gr P K mg) (c_names_in_least : Cal P w K mg base 4 "names_in_least" 1 F_names_in_least) [HasH] (f : Addr) (cdv : Value) (A : Around) (outer : List PySem.Env) (s : Shared) (H : Hp) (E : XK) (hr : Rm 4 (cxOf (L2.CX P w) P w K mg base N_least_of "least_of" (defScope s_least_of) f cdv A outer s H E).A) : PSDs (cxOf (L2.CX P w) P w K mg base N_least_of "least_of" (defScope s_least_of) f cdv A outer s H E) (WE' E) (defBody s_least_of) m_least_of := by
  have tk0 : Takes (cxOf (L2.CX P w) P w K mg base N_least_of "least_of" (defScope s_least_of) f cdv A outer s H E) (WE' E) := takes_def
  have hp0 := own_def (P := P) (w := w) (K := K) (mg := mg) (base := base) (N := N_least_of) (qual := "least_of") (scope := defScope s_least_of) (f := f) (cdv := cdv) (A := A) (outer := outer) (s := s) (H := H) (E := E)
  unfold m_least_of
  exact (psd_cons (psd_asg (pd_val 0) (pgd_tup rfl (pgds_cons (pgd_name sc_least_of.nd) (pgds_cons (pgd_name sc_least_of.nd) pgds_nil)))) (psd_cons (psd_set sc_least_of.nd (pd_call c_names_in_least hr (by decide) tk0 (pda_cons (pd_val 0) pda_nil))) (psd_cons (psd_set sc_least_of.nd (pd_add pd_int (pd_max2 hr rfl G.b_max (pda_cons (PDN.pd (pdn_comp (own := [("name", 7)]) rfl sc_least_of.nd (pid_seq (pd_val 1)) (by kernel_rfl) (fun _ _ _ _ _ => (pgd_name sc_least_of.nd)) (fun _ _ _ _ _ => (pdts_one (pdt_notN (pd_val 7) pd_non))) (fun _ _ _ _ _ => (pd_val 7)) (by kernel_rfl))) pda_nil)))) (psd_cons (psd_set sc_least_of.nd (PDN.pd (pdn_comp (own := [("number", 6)]) rfl sc_least_of.nd (pid_range1 G.b_range (pda_cons (pd_val 2) pda_nil)) (by kernel_rfl) (fun _ _ _ _ _ => (pgd_name sc_least_of.nd)) (fun _ _ _ _ _ => pdts_nil) (fun _ _ _ _ _ => (pd_index (u65 hr) (pd_val 1) (pd_val 6))) (by kernel_rfl)))) (psd_one (psd_ret (pd_tup (pda_cons (pd_tupleOf G.b_tuple (pda_cons (PDN.pd (pdn_comp (own := [("row", 8)]) rfl sc_least_of.nd (pid_seq (pd_val 4)) (by kernel_rfl) (fun _ _ _ _ _ => (pgd_name sc_least_of.nd)) (fun _ _ _ _ _ => pdts_nil) (fun _ _ _ _ _ => (pd_tupleOf G.b_tuple (pda_cons (PDN.pd (pdn_comp (own := [("state", 9)]) rfl sc_least_of.nd (pid_seq (pd_val 3)) (by kernel_rfl) (fun _ _ _ _ _ => (pgd_name sc_least_of.nd)) (fun _ _ _ _ _ => pdts_nil) (fun _ _ _ _ _ => (pd_ix2 hr (pd_val 1) (pd_ix2 hr (pd_val 8) (pd_val 9)))) (by kernel_rfl))) pda_nil))) (by kernel_rfl))) pda_nil)) (pda_cons (pd_tupleOf G.b_tuple (pda_cons (PDN.pd (pdn_comp (own := [("state", 9)]) rfl sc_least_of.nd (pid_seq (pd_val 3)) (by kernel_rfl) (fun _ _ _ _ _ => (pgd_name sc_least_of.nd)) (fun _ _ _ _ _ => pdts_nil) (fun _ _ _ _ _ => (pd_ix2 hr (pd_val 5) (pd_val 9))) (by kernel_rfl))) pda_nil)) pda_nil)))))))))
def N_is_integer : List Str := ["value"]
theorem sc_is_integer : FnScope N_is_integer ["value"] (defScope s_is_integer) := ⟨rfl, rfl, rfl, by decide +kernel, rfl, by decide +kernel, by decide +kernel⟩
def m_is_integer : SS :=
 (sRet (mAndV (mApp fIsi (mCons (mVal 0) (mCons (mC (.ty "int")) mNil))) (mNotV (mApp fIsi (mCons (mVal 0) (mCons (mC (.ty "bool")) mNil))))))
def F_is_integer : FD := mFn 1 1 m_is_integer
theorem der_is_integer {P : Program} {w : World} {K : PySem.W.Frag} {mg : Str → Option Value} {base : Heap} (G : Gr P K mg)  [HasH] (f : Addr) (cdv : Value) (A : Around) (outer : List PySem.Env) (s : Shared) (H : Hp) (E : XK) (hr : Rm 0 (cxOf (L2.CX P w) P w K mg base N_is_integer "is_integer" (defScope s_is_integer) f cdv A outer s H E).A) : PSDs (cxOf (L2.CX P w) P w K mg base N_is_integer "is_integer" (defScope s_is_integer) f cdv A outer s H E) (WE' E) (defBody s_is_integer) m_is_integer := by
  have tk0 : Takes (cxOf (L2.CX P w) P w K mg base N_is_integer "is_integer" (defScope s_is_integer) f cdv A outer s H E) (WE' E) := takes_def
  have hp0 := own_def (P := P) (w := w) (K := K) (mg := mg) (base := base) (N := N_is_integer) (qual := "is_integer") (scope := defScope s_is_integer) (f := f) (cdv := cdv) (A := A) (outer := outer) (s := s) (H := H) (E := E)
  unfold m_is_integer
  exact (psd_one (psd_ret (pd_and (pd_isi G.b_isinstance (pda_cons (pd_val 0) (pda_cons (pd_ty G.b_int rfl) pda_nil))) (pd_and1 (pd_not (pd_isi G.b_isinstance (pda_cons (pd_val 0) (pda_cons (pd_ty G.b_bool rfl) pda_nil))))))))
def N_is_number : List Str := ["value"]
theorem sc_is_number : FnScope N_is_number ["value"] (defScope s_is_number) := ⟨rfl, rfl, rfl, by decide +kernel, rfl, by decide +kernel, by decide +kernel⟩
def m_is_number : SS :=
 (sRet (mAndV (mCall 1 F_is_integer (mCons (mVal 0) mNil)) (mOp fGe (mVal 0) (mC (.int 0)))))
def F_is_number : FD := mFn 1 1 m_is_number
theorem der_is_number {P : Program} {w : World} {K : PySem.W.Frag} {mg : Str → Option Value} {base : Heap} (G : Gr P K mg) (c_is_integer : Cal P w K mg base 1 "is_integer" 1 F_is_integer) [HasH] (f : Addr) (cdv : Value) (A : Around) (outer : List PySem.Env) (s : Shared) (H : Hp) (E : XK) (hr : Rm 1 (cxOf (L2.CX P w) P w K mg base N_is_number "is_number" (defScope s_is_number) f cdv A outer s H E).A) : PSDs (cxOf (L2.CX P w) P w K mg base N_is_number "is_number" (defScope s_is_number) f cdv A outer s H E) (WE' E) (defBody s_is_number) m_is_number := by
  have tk0 : Takes (cxOf (L2.CX P w) P w K mg base N_is_number "is_number" (defScope s_is_number) f cdv A outer s H E) (WE' E) := takes_def
  have hp0 := own_def (P := P) (w := w) (K := K) (mg := mg) (base := base) (N := N_is_number) (qual := "is_number") (scope := defScope s_is_number) (f := f) (cdv := cdv) (A := A) (outer := outer) (s := s) (H := H) (E := E)
  unfold m_is_number
  exact (psd_one (psd_ret (pd_and (pd_call c_is_integer hr (by decide) tk0 (pda_cons (pd_val 0) pda_nil)) (pd_and1 (pd_ge (pd_val 0) pd_int)))))
def N_is_below : List Str := ["value", "many"]
theorem sc_is_below : FnScope N_is_below ["value", "many"] (defScope s_is_below) := ⟨rfl, rfl, rfl, by decide +kernel, rfl, by decide +kernel, by decide +kernel⟩
def m_is_below : SS :=
 (sRet (mAndV (mCall 1 F_is_number (mCons (mVal 0) mNil)) (mOp fLt (mVal 0) (mVal 1))))
def F_is_below : FD := mFn 2 2 m_is_below
theorem der_is_below {P : Program} {w : World} {K : PySem.W.Frag} {mg : Str → Option Value} {base : Heap} (G : Gr P K mg) (c_is_number : Cal P w K mg base 2 "is_number" 1 F_is_number) [HasH] (f : Addr) (cdv : Value) (A : Around) (outer : List PySem.Env) (s : Shared) (H : Hp) (E : XK) (hr : Rm 2 (cxOf (L2.CX P w) P w K mg base N_is_below "is_below" (defScope s_is_below) f cdv A outer s H E).A) : PSDs (cxOf (L2.CX P w) P w K mg base N_is_below "is_below" (defScope s_is_below) f cdv A outer s H E) (WE' E) (defBody s_is_below) m_is_below := by
  have tk0 : Takes (cxOf (L2.CX P w) P w K mg base N_is_below "is_below" (defScope s_is_below) f cdv A outer s H E) (WE' E) := takes_def
  have hp0 := own_def (P := P) (w := w) (K := K) (mg := mg) (base := base) (N := N_is_below) (qual := "is_below") (scope := defScope s_is_below) (f := f) (cdv := cdv) (A := A) (outer := outer) (s := s) (H := H) (E := E)
  unfold m_is_below
  exact (psd_one (psd_ret (pd_and (pd_call c_is_number hr (by decide) tk0 (pda_cons (pd_val 0) pda_nil)) (pd_and1 (pd_lt (pd_val 0) (pd_val 1))))))
def N_is_sequence : List Str := ["value"]
theorem sc_is_sequence : FnScope N_is_sequence ["value"] (defScope s_is_sequence) := ⟨rfl, rfl, rfl, by decide +kernel, rfl, by decide +kernel, by decide +kernel⟩
def m_is_sequence : SS :=
 (sRet (mApp fIsi (mCons (mVal 0) (mCons (mApp fTup (mCons (mC (.ty "list")) (mCons (mC (.ty "tuple")) mNil))) mNil))))
def F_is_sequence : FD := mFn 1 1 m_is_sequence
theorem der_is_sequence {P : Program} {w : World} {K : PySem.W.Frag} {mg : Str → Option Value} {base : Heap} (G : Gr P K mg)  [HasH] (f : Addr) (cdv : Value) (A : Around) (outer : List PySem.Env) (s : Shared) (H : Hp) (E : XK) (hr : Rm 0 (cxOf (L2.CX P w) P w K mg base N_is_sequence "is_sequence" (defScope s_is_sequence) f cdv A outer s H E).A) : PSDs (cxOf (L2.CX P w) P w K mg base N_is_sequence "is_sequence" (defScope s_is_sequence) f cdv A outer s H E) (WE' E) (defBody s_is_sequence) m_is_sequence := by
  have tk0 : Takes (cxOf (L2.CX P w) P w K mg base N_is_sequence "is_sequence" (defScope s_is_sequence) f cdv A outer s H E) (WE' E) := takes_def
  have hp0 := own_def (P := P) (w := w) (K := K) (mg := mg) (base := base) (N := N_is_sequence) (qual := "is_sequence") (scope := defScope s_is_sequence) (f := f) (cdv := cdv) (A := A) (outer := outer) (s := s) (H := H) (E := E)
  unfold m_is_sequence
  exact (psd_one (psd_ret (pd_isi G.b_isinstance (pda_cons (pd_val 0) (pda_cons (pd_tup (pda_cons (pd_ty G.b_list rfl) (pda_cons (pd_ty G.b_tuple rfl) pda_nil))) pda_nil)))))
def N_is_row_below : List Str := ["value", "length", "bound", "number"]
theorem sc_is_row_below : FnScope N_is_row_below ["value", "length", "bound"] (defScope s_is_row_below) := ⟨rfl, rfl, rfl, by decide +kernel, rfl, by decide +kernel, by decide +kernel⟩
def m_is_row_below : SS :=
 (sRet (mAndV (mCall 1 F_is_sequence (mCons (mVal 0) mNil)) (mAndV (mOp fEq (mApp fLen2 (mCons (mVal 0) mNil)) (mVal 1)) (mApp fAll (mCons (mLs (nComp (mSeq (mVal 0)) (tgName 3) mYes (mCall 2 F_is_below (mCons (mVal 3) (mCons (mVal 2) mNil))) [3])) mNil)))))
def F_is_row_below : FD := mFn 3 4 m_is_row_below
theorem der_is_row_below {P : Program} {w : World} {K : PySem.W.Frag} {mg : Str → Option Value} {base : Heap} (G : Gr P K mg) (c_is_below : Cal P w K mg base 3 "is_below" 2 F_is_below) (c_is_sequence : Cal P w K mg base 1 "is_sequence" 1 F_is_sequence) [HasH] (f : Addr) (cdv : Value) (A : Around) (outer : List PySem.Env) (s : Shared) (H : Hp) (E : XK) (hr : Rm 3 (cxOf (L2.CX P w) P w K mg base N_is_row_below "is_row_below" (defScope s_is_row_below) f cdv A outer s H E).A) : PSDs (cxOf (L2.CX P w) P w K mg base N_is_row_below "is_row_below" (defScope s_is_row_below) f cdv A outer s H E) (WE' E) (defBody s_is_row_below) m_is_row_below := by
  have tk0 : Takes (cxOf (L2.CX P w) P w K mg base N_is_row_below "is_row_below" (defScope s_is_row_below) f cdv A outer s H E) (WE' E) := takes_def
  have hp0 := own_def (P := P) (w := w) (K := K) (mg := mg) (base := base) (N := N_is_row_below) (qual := "is_row_below") (scope := defScope s_is_row_below) (f := f) (cdv := cdv) (A := A) (outer := outer) (s := s) (H := H) (E := E)
  unfold m_is_row_below
  exact (psd_one (psd_ret (pd_and (pd_call c_is_sequence hr (by decide) tk0 (pda_cons (pd_val 0) pda_nil)) (pd_and (pd_eq hr.r.units (pd_len2 G.b_len (pda_cons (pd_val 0) pda_nil)) (pd_val 1)) (pd_and1 (pd_all rfl G.b_all (pda_cons (PDN.pd (pdn_comp (own := [("number", 3)]) rfl sc_is_row_below.nd (pid_seq (pd_val 0)) (by kernel_rfl) (fun _ _ _ _ _ => (pgd_name sc_is_row_below.nd)) (fun _ _ _ _ _ => pdts_nil) (fun _ _ _ _ _ => (pd_call c_is_below hr (by decide) takes_blk (pda_cons (pd_val 3) (pda_cons (pd_val 2) pda_nil)))) (by kernel_rfl))) pda_nil)))))))
def N_is_pair : List Str := ["value"]
theorem sc_is_pair : FnScope N_is_pair ["value"] (defScope s_is_pair) := ⟨rfl, rfl, rfl, by decide +kernel, rfl, by decide +kernel, by decide +kernel⟩
def m_is_pair : SS :=
 (sRet (mAndV (mCall 1 F_is_sequence (mCons (mVal 0) mNil)) (mOp fEq (mApp fLen2 (mCons (mVal 0) mNil)) (mC (.int 2)))))
def F_is_pair : FD := mFn 1 1 m_is_pair
theorem der_is_pair {P : Program} {w : World} {K : PySem.W.Frag} {mg : Str → Option Value} {base : Heap} (G : Gr P K mg) (c_is_sequence : Cal P w K mg base 1 "is_sequence" 1 F_is_sequence) [HasH] (f : Addr) (cdv : Value) (A : Around) (outer : List PySem.Env) (s : Shared) (H : Hp) (E : XK) (hr : Rm 1 (cxOf (L2.CX P w) P w K mg base N_is_pair "is_pair" (defScope s_is_pair) f cdv A outer s H E).A) : PSDs (cxOf (L2.CX P w) P w K mg base N_is_pair "is_pair" (defScope s_is_pair) f cdv A outer s H E) (WE' E) (defBody s_is_pair) m_is_pair := by
  have tk0 : Takes (cxOf (L2.CX P w) P w K mg base N_is_pair "is_pair" (defScope s_is_pair) f cdv A outer s H E) (WE' E) := takes_def
  have hp0 := own_def (P := P) (w := w) (K := K) (mg := mg) (base := base) (N := N_is_pair) (qual := "is_pair") (scope := defScope s_is_pair) (f := f) (cdv := cdv) (A := A) (outer := outer) (s := s) (H := H) (E := E)
  unfold m_is_pair
  exact (psd_one (psd_ret (pd_and (pd_call c_is_sequence hr (by decide) tk0 (pda_cons (pd_val 0) pda_nil)) (pd_and1 (pd_eq hr.r.units (pd_len2 G.b_len (pda_cons (pd_val 0) pda_nil)) pd_int)))))
def N_need_machine : List Str := ["value", "maps", "readings", "kind", "row"]
theorem sc_need_machine : FnScope N_need_machine ["value"] (defScope s_need_machine) := ⟨rfl, rfl, rfl, by decide +kernel, rfl, by decide +kernel, by decide +kernel⟩
def m_need_machine : SS :=
 (sSeq (sIf (mOr (mNot (mTest (mCall 1 F_is_pair (mCons (mVal 0) mNil)))) (mOr (mNot (mTest (mCall 1 F_is_sequence (mCons (mOp fIx2 (mVal 0) (mC (.int 0))) mNil)))) (mNot (mTest (mCall 1 F_is_sequence (mCons (mOp fIx2 (mVal 0) (mC (.int 1))) mNil))))))
 (sRaise "InvalidMachine" "at" (mUn fNeg (mC (.int 1))))
 sNx)
 (sSeq (sAsg (mVal 0) (tgTup (tgCons (tgName 1) (tgCons (tgName 2) tgNil))))
 (sSeq (sIf (mOr (mNot (mTest (mChain fLe fLe (mC (.int 1)) (mApp fLen2 (mCons (mVal 1) mNil)) (mC (.int 4))))) (mNot (mTest (mChain fLe fLe (mC (.int 1)) (mApp fLen2 (mCons (mVal 2) mNil)) (mC (.int 8))))))
 (sRaise "InvalidMachine" "at" (mUn fNeg (mC (.int 1))))
 sNx)
 (sSeq (sFor (mEnum (mVal 1)) (tgTup (tgCons (tgName 3) (tgCons (tgName 4) tgNil)))
 (sIf (mNot (mTest (mCall 3 F_is_row_below (mCons (mVal 4) (mCons (mApp fLen2 (mCons (mVal 2) mNil)) (mCons (mApp fLen2 (mCons (mVal 2) mNil)) mNil))))))
 (sRaise "InvalidMachine" "at" (mVal 3))
 sNx))
 (sSeq (sIf (mNot (mTest (mCall 3 F_is_row_below (mCons (mVal 2) (mCons (mApp fLen2 (mCons (mVal 2) mNil)) (mCons (mC (.int 100)) mNil))))))
 (sRaise "InvalidMachine" "at" (mApp fLen2 (mCons (mVal 1) mNil)))
 sNx)
 (sRet (mApp fTup (mCons (mApp fTuple (mCons (mLs (nComp (mSeq (mVal 1)) (tgName 4) mYes (mApp fTuple (mCons (mVal 4) mNil)) [4])) mNil)) (mCons (mApp fTuple (mCons (mVal 2) mNil)) mNil)))))))))
def F_need_machine : FD := mFn 1 5 m_need_machine
theorem der_need_machine {P : Program} {w : World} {K : PySem.W.Frag} {mg : Str → Option Value} {base : Heap} (G : Gr P K mg) (c_is_row_below : Cal P w K mg base 4 "is_row_below" 3 F_is_row_below) (c_is_sequence : Cal P w K mg base 1 "is_sequence" 1 F_is_sequence) (c_is_pair : Cal P w K mg base 2 "is_pair" 1 F_is_pair) [HasH] (f : Addr) (cdv : Value) (A : Around) (outer : List PySem.Env) (s : Shared) (H : Hp) (E : XK) (hr : Rm 4 (cxOf (L2.CX P w) P w K mg base N_need_machine "need_machine" (defScope s_need_machine) f cdv A outer s H E).A) : PSDs (cxOf (L2.CX P w) P w K mg base N_need_machine "need_machine" (defScope s_need_machine) f cdv A outer s H E) (WE' E) (defBody s_need_machine) m_need_machine := by
  have tk0 : Takes (cxOf (L2.CX P w) P w K mg base N_need_machine "need_machine" (defScope s_need_machine) f cdv A outer s H E) (WE' E) := takes_def
  have hp0 := own_def (P := P) (w := w) (K := K) (mg := mg) (base := base) (N := N_need_machine) (qual := "need_machine") (scope := defScope s_need_machine) (f := f) (cdv := cdv) (A := A) (outer := outer) (s := s) (H := H) (E := E)
  unfold m_need_machine
  exact (psd_cons (psd_if (PDW.pdt (pdw_or (pdt_not (pdt_val (pd_call c_is_pair hr (by decide) tk0 (pda_cons (pd_val 0) pda_nil)))) (pdw_or (pdt_not (pdt_val (pd_call c_is_sequence hr (by decide) tk0 (pda_cons (pd_ix2 hr (pd_val 0) pd_int) pda_nil)))) (pdw_or1 (pdt_not (pdt_val (pd_call c_is_sequence hr (by decide) tk0 (pda_cons (pd_ix2 hr (pd_val 0) pd_int) pda_nil)))))))) (psd_one (psd_raise G.e_InvalidMachine PySem.EX.okF_at rfl hr.r (by decide) tk0 (pd_neg pd_int))) psd_nil) (psd_cons (psd_asg (pd_val 0) (pgd_tup rfl (pgds_cons (pgd_name sc_need_machine.nd) (pgds_cons (pgd_name sc_need_machine.nd) pgds_nil)))) (psd_cons (psd_if (PDW.pdt (pdw_or (pdt_not (pdt_chain op_le op_le rel_B rel_B pd_int (pd_len2 G.b_len (pda_cons (pd_val 1) pda_nil)) (pd_gint G.i_MOST_KINDS))) (pdw_or1 (pdt_not (pdt_chain op_le op_le rel_B rel_B pd_int (pd_len2 G.b_len (pda_cons (pd_val 2) pda_nil)) (pd_gint G.i_MOST_STATES)))))) (psd_one (psd_raise G.e_InvalidMachine PySem.EX.okF_at rfl hr.r (by decide) tk0 (pd_neg pd_int))) psd_nil) (psd_cons (psd_for hp0 rfl (pid_enum G.b_enumerate (pd_val 1)) (pgd_tup rfl (pgds_cons (pgd_name sc_need_machine.nd) (pgds_cons (pgd_name sc_need_machine.nd) pgds_nil))) (psd_one (psd_if (pdt_not (pdt_val (pd_call c_is_row_below hr (by decide) tk0 (pda_cons (pd_val 4) (pda_cons (pd_len2 G.b_len (pda_cons (pd_val 2) pda_nil)) (pda_cons (pd_len2 G.b_len (pda_cons (pd_val 2) pda_nil)) pda_nil)))))) (psd_one (psd_raise G.e_InvalidMachine PySem.EX.okF_at rfl hr.r (by decide) tk0 (pd_val 3))) psd_nil))) (psd_cons (psd_if (pdt_not (pdt_val (pd_call c_is_row_below hr (by decide) tk0 (pda_cons (pd_val 2) (pda_cons (pd_len2 G.b_len (pda_cons (pd_val 2) pda_nil)) (pda_cons (pd_gint G.i_READING_BOUND) pda_nil)))))) (psd_one (psd_raise G.e_InvalidMachine PySem.EX.okF_at rfl hr.r (by decide) tk0 (pd_len2 G.b_len (pda_cons (pd_val 1) pda_nil)))) psd_nil) (psd_one (psd_ret (pd_tup (pda_cons (pd_tupleOf G.b_tuple (pda_cons (PDN.pd (pdn_comp (own := [("row", 4)]) rfl sc_need_machine.nd (pid_seq (pd_val 1)) (by kernel_rfl) (fun _ _ _ _ _ => (pgd_name sc_need_machine.nd)) (fun _ _ _ _ _ => pdts_nil) (fun _ _ _ _ _ => (pd_tupleOf G.b_tuple (pda_cons (pd_val 4) pda_nil))) (by kernel_rfl))) pda_nil)) (pda_cons (pd_tupleOf G.b_tuple (pda_cons (pd_val 2) pda_nil)) pda_nil))))))))))
def N_least_machine : List Str := ["machine"]
theorem sc_least_machine : FnScope N_least_machine ["machine"] (defScope s_least_machine) := ⟨rfl, rfl, rfl, by decide +kernel, rfl, by decide +kernel, by decide +kernel⟩
def m_least_machine : SS :=
 (sRet (mCall 1 F_least_of (mCons (mCall 1 F_need_machine (mCons (mVal 0) mNil)) mNil)))
def F_least_machine : FD := mFn 1 1 m_least_machine
theorem der_least_machine {P : Program} {w : World} {K : PySem.W.Frag} {mg : Str → Option Value} {base : Heap} (G : Gr P K mg) (c_least_of : Cal P w K mg base 5 "least_of" 1 F_least_of) (c_need_machine : Cal P w K mg base 5 "need_machine" 1 F_need_machine) [HasH] (f : Addr) (cdv : Value) (A : Around) (outer : List PySem.Env) (s : Shared) (H : Hp) (E : XK) (hr : Rm 5 (cxOf (L2.CX P w) P w K mg base N_least_machine "least_machine" (defScope s_least_machine) f cdv A outer s H E).A) : PSDs (cxOf (L2.CX P w) P w K mg base N_least_machine "least_machine" (defScope s_least_machine) f cdv A outer s H E) (WE' E) (defBody s_least_machine) m_least_machine := by
  have tk0 : Takes (cxOf (L2.CX P w) P w K mg base N_least_machine "least_machine" (defScope s_least_machine) f cdv A outer s H E) (WE' E) := takes_def
  have hp0 := own_def (P := P) (w := w) (K := K) (mg := mg) (base := base) (N := N_least_machine) (qual := "least_machine") (scope := defScope s_least_machine) (f := f) (cdv := cdv) (A := A) (outer := outer) (s := s) (H := H) (E := E)
  unfold m_least_machine
  exact (psd_one (psd_ret (pd_call c_least_of hr (by decide) tk0 (pda_cons (pd_call c_need_machine hr (by decide) tk0 (pda_cons (pd_val 0) pda_nil)) pda_nil))))
def N_is_least : List Str := ["machine"]
theorem sc_is_least : FnScope N_is_least ["machine"] (defScope s_is_least) := ⟨rfl, rfl, rfl, by decide +kernel, rfl, by decide +kernel, by decide +kernel⟩
def m_is_least : SS :=
 (sSeq (sSet 0 (mCall 1 F_need_machine (mCons (mVal 0) mNil)))
 (sRet (mOp fEq (mCall 1 F_least_of (mCons (mVal 0) mNil)) (mVal 0))))
def F_is_least : FD := mFn 1 1 m_is_least
theorem der_is_least {P : Program} {w : World} {K : PySem.W.Frag} {mg : Str → Option Value} {base : Heap} (G : Gr P K mg) (c_least_of : Cal P w K mg base 5 "least_of" 1 F_least_of) (c_need_machine : Cal P w K mg base 5 "need_machine" 1 F_need_machine) [HasH] (f : Addr) (cdv : Value) (A : Around) (outer : List PySem.Env) (s : Shared) (H : Hp) (E : XK) (hr : Rm 5 (cxOf (L2.CX P w) P w K mg base N_is_least "is_least" (defScope s_is_least) f cdv A outer s H E).A) : PSDs (cxOf (L2.CX P w) P w K mg base N_is_least "is_least" (defScope s_is_least) f cdv A outer s H E) (WE' E) (defBody s_is_least) m_is_least := by
  have tk0 : Takes (cxOf (L2.CX P w) P w K mg base N_is_least "is_least" (defScope s_is_least) f cdv A outer s H E) (WE' E) := takes_def
  have hp0 := own_def (P := P) (w := w) (K := K) (mg := mg) (base := base) (N := N_is_least) (qual := "is_least") (scope := defScope s_is_least) (f := f) (cdv := cdv) (A := A) (outer := outer) (s := s) (H := H) (E := E)
  unfold m_is_least
  exact (psd_cons (psd_set sc_is_least.nd (pd_call c_need_machine hr (by decide) tk0 (pda_cons (pd_val 0) pda_nil))) (psd_one (psd_ret (pd_eq hr.r.units (pd_call c_least_of hr (by decide) tk0 (pda_cons (pd_val 0) pda_nil)) (pd_val 0)))))
def N_law_take : List Str := ["_law_box_here", "_law_many", "_law_raw", "_law_digit"]
theorem sc_law_take : FnScope N_law_take ["_law_box_here", "_law_many"] (defScope s_law_take) := ⟨rfl, rfl, rfl, by decide +kernel, rfl, by decide +kernel, by decide +kernel⟩
def m_law_take : SS :=
 (sSeq (sIf (mTest (mOp fGt (mOp fIx2 (mVal 0) (mC (.int 0))) (mC (.int 0))))
 (sSeq (sSet 3 (mOp fMod (mApp fInt (mCons (mOp fIx2 (mVal 0) (mC (.int 0))) mNil)) (mVal 1)))
 (sSeq (sPut (mVal 0) (mC (.int 0)) (mOp fDiv (mOp fIx2 (mVal 0) (mC (.int 0))) (mVal 1)))
 (sRet (mVal 3))))
 sNx)
 (sSeq (sPut (mVal 0) (mC (.int 2)) (mOp fAdd (mOp fIx2 (mVal 0) (mC (.int 2))) (mC (.int 1))))
 (sSeq (sSet 2 (mOp fMod (mApp fInt (mCons (mOp fAdd (mOp (fI cMul fun i j => i * j) (mOp fAdd (mOp fIx2 (mVal 0) (mC (.int 1))) (mOp (fI cMul fun i j => i * j) (mC (.int 70207)) (mOp fIx2 (mVal 0) (mC (.int 2))))) (mC (.int 61027))) (mC (.int 269))) mNil)) (mC (.int 2147483563))))
 (sSeq (sPut (mVal 0) (mC (.int 1)) (mOp fAdd (mOp fMod (mApp fInt (mCons (mOp fAdd (mOp (fI cMul fun i j => i * j) (mVal 2) (mC (.int 39079))) (mC (.int 21089))) mNil)) (mC (.int 2147483629))) (mC (.int 1))))
 (sRet (mOp fMod (mApp fInt (mCons (mOp fDiv (mOp fAdd (mOp (fI cMul fun i j => i * j) (mVal 2) (mC (.int 2147483647))) (mOp fIx2 (mVal 0) (mC (.int 1)))) (mC (.int 8191))) mNil)) (mVal 1)))))))
def F_law_take : FD := mFn 2 4 m_law_take
theorem der_law_take {P : Program} {w : World} {K : PySem.W.Frag} {mg : Str → Option Value} {base : Heap} (G : Gr P K mg)  [HasH] (f : Addr) (cdv : Value) (A : Around) (outer : List PySem.Env) (s : Shared) (H : Hp) (E : XK) (hr : Rm 0 (cxOf (L2.CX P w) P w K mg base N_law_take "_law_take" (defScope s_law_take) f cdv A outer s H E).A) : PSDs (cxOf (L2.CX P w) P w K mg base N_law_take "_law_take" (defScope s_law_take) f cdv A outer s H E) (WE' E) (defBody s_law_take) m_law_take := by
  have tk0 : Takes (cxOf (L2.CX P w) P w K mg base N_law_take "_law_take" (defScope s_law_take) f cdv A outer s H E) (WE' E) := takes_def
  have hp0 := own_def (P := P) (w := w) (K := K) (mg := mg) (base := base) (N := N_law_take) (qual := "_law_take") (scope := defScope s_law_take) (f := f) (cdv := cdv) (A := A) (outer := outer) (s := s) (H := H) (E := E)
  unfold m_law_take
  exact (psd_cons (psd_if (pdt_gt (pd_ix2 hr (pd_val 0) pd_int) pd_int) (psd_cons (psd_set sc_law_take.nd (pd_mod (pd_intT G.b_int (pda_cons (pd_ix2 hr (pd_val 0) pd_int) pda_nil)) (pd_val 1))) (psd_cons (psd_put (pd_div (pd_ix2 hr (pd_val 0) pd_int) (pd_val 1)) (pd_val 0) pd_int) (psd_one (psd_ret (pd_val 3))))) psd_nil) (psd_cons (psd_put (pd_add (pd_ix2 hr (pd_val 0) pd_int) pd_int) (pd_val 0) pd_int) (psd_cons (psd_set sc_law_take.nd (pd_mod (pd_intT G.b_int (pda_cons (pd_add (pd_mul (pd_add (pd_ix2 hr (pd_val 0) pd_int) (pd_mul pd_int (pd_ix2 hr (pd_val 0) pd_int))) pd_int) pd_int) pda_nil)) pd_int)) (psd_cons (psd_put (pd_add (pd_mod (pd_intT G.b_int (pda_cons (pd_add (pd_mul (pd_val 2) pd_int) pd_int) pda_nil)) pd_int) pd_int) (pd_val 0) pd_int) (psd_one (psd_ret (pd_mod (pd_intT G.b_int (pda_cons (pd_div (pd_add (pd_mul (pd_val 2) pd_int) (pd_ix2 hr (pd_val 0) pd_int)) pd_int) pda_nil)) (pd_val 1))))))))
def N_law_pick : List Str := ["_law_box_here", "_law_some"]
theorem sc_law_pick : FnScope N_law_pick ["_law_box_here", "_law_some"] (defScope s_law_pick) := ⟨rfl, rfl, rfl, by decide +kernel, rfl, by decide +kernel, by decide +kernel⟩
def m_law_pick : SS :=
 (sRet (mOp fIx2 (mVal 1) (mCall 2 F_law_take (mCons (mVal 0) (mCons (mApp fLen2 (mCons (mVal 1) mNil)) mNil)))))
def F_law_pick : FD := mFn 2 2 m_law_pick
theorem der_law_pick {P : Program} {w : World} {K : PySem.W.Frag} {mg : Str → Option Value} {base : Heap} (G : Gr P K mg) (c_law_take : Cal P w K mg base 1 "_law_take" 2 F_law_take) [HasH] (f : Addr) (cdv : Value) (A : Around) (outer : List PySem.Env) (s : Shared) (H : Hp) (E : XK) (hr : Rm 1 (cxOf (L2.CX P w) P w K mg base N_law_pick "_law_pick" (defScope s_law_pick) f cdv A outer s H E).A) : PSDs (cxOf (L2.CX P w) P w K mg base N_law_pick "_law_pick" (defScope s_law_pick) f cdv A outer s H E) (WE' E) (defBody s_law_pick) m_law_pick := by
  have tk0 : Takes (cxOf (L2.CX P w) P w K mg base N_law_pick "_law_pick" (defScope s_law_pick) f cdv A outer s H E) (WE' E) := takes_def
  have hp0 := own_def (P := P) (w := w) (K := K) (mg := mg) (base := base) (N := N_law_pick) (qual := "_law_pick") (scope := defScope s_law_pick) (f := f) (cdv := cdv) (A := A) (outer := outer) (s := s) (H := H) (E := E)
  unfold m_law_pick
  exact (psd_one (psd_ret (pd_ix2 hr (pd_val 1) (pd_call c_law_take hr (by decide) tk0 (pda_cons (pd_val 0) (pda_cons (pd_len2 G.b_len (pda_cons (pd_val 1) pda_nil)) pda_nil))))))
def N_law_error : List Str := ["_law_work", "e"]
theorem sc_law_error : FnScope N_law_error ["_law_work"] (defScope s_law_error) := ⟨rfl, rfl, rfl, by decide +kernel, rfl, by decide +kernel, by decide +kernel⟩
def m_law_error (CT : D → FD) : SS :=
 (sSeq (sTry nm (sExpr (mCallV CT 0 mNil))
 [("InvalidMachine", fun fs => (xFld fs "at"))])
 (sRet (mC .non)))
def F_law_error (CT : D → FD) : FD := mFn 1 2 (m_law_error CT)
theorem der_law_error {P : Program} {w : World} {K : PySem.W.Frag} {mg : Str → Option Value} {base : Heap} (G : Gr P K mg)  {S : Stn} {CT : D → FD} [HasH] (f : Addr) (cdv : Value) (A : Around) (outer : List PySem.Env) (s : Shared) (H : Hp) (E : XK) (hC : CallF P w K mg base 7 S CT) (hS : Sees (cxOf (L2.CX P w) P w K mg base N_law_error "_law_error" (defScope s_law_error) f cdv A outer s H E) S) (hr : Rm 7 (cxOf (L2.CX P w) P w K mg base N_law_error "_law_error" (defScope s_law_error) f cdv A outer s H E).A) : PSDs (cxOf (L2.CX P w) P w K mg base N_law_error "_law_error" (defScope s_law_error) f cdv A outer s H E) (WE' E) (defBody s_law_error) (m_law_error CT) := by
  have tk0 : Takes (cxOf (L2.CX P w) P w K mg base N_law_error "_law_error" (defScope s_law_error) f cdv A outer s H E) (WE' E) := takes_def
  have hp0 := own_def (P := P) (w := w) (K := K) (mg := mg) (base := base) (N := N_law_error) (qual := "_law_error") (scope := defScope s_law_error) (f := f) (cdv := cdv) (A := A) (outer := outer) (s := s) (H := H) (E := E)
  unfold m_law_error
  exact (psd_cons (psd_try rfl rfl sc_law_error.nd tk0 G.errs (clauses_ok (by decide +kernel)) (fun W1 pn1 xe1 tk1 hp1 => (psd_one (psd_expr (pd_callv0 0 hS hC hr (by decide) tk1)))) (.as_ (i := 1) rfl (by decide) G.g_InvalidMachine.1 G.g_InvalidMachine.2 rfl rfl (fun u oe pn hi hx hz hf => (pxd_fld G.e_InvalidMachine (catches_is hx) hi hz hf rfl (Or.inl rfl) (by decide) (by decide) rfl)) (fun _ _ _ h => h) .nil)) (psd_one (psd_ret pd_non)))
def N_law_is_machine : List Str := ["_law_value", "_law_many", "_law_row", "_law_state"]
theorem sc_law_is_machine : FnScope N_law_is_machine ["_law_value"] (defScope s_law_is_machine) := ⟨rfl, rfl, rfl, by decide +kernel, rfl, by decide +kernel, by decide +kernel⟩
def m_law_is_machine : SS :=
 (sSeq (sIf (mOr (mNot (mTest (mApp fIsi (mCons (mVal 0) (mCons (mC (.ty "tuple")) mNil))))) (mOr (mTest (mOp fNe (mApp fLen2 (mCons (mVal 0) mNil)) (mC (.int 2)))) (mOr (mNot (mTest (mApp fIsi (mCons (mOp fIx2 (mVal 0) (mC (.int 0))) (mCons (mC (.ty "tuple")) mNil))))) (mNot (mTest (mApp fIsi (mCons (mOp fIx2 (mVal 0) (mC (.int 1))) (mCons (mC (.ty "tuple")) mNil))))))))
 (sRet (mC (.bl false)))
 sNx)
 (sSeq (sSet 1 (mApp fLen2 (mCons (mOp fIx2 (mVal 0) (mC (.int 1))) mNil)))
 (sSeq (sFor (mSeq (mOp fIx2 (mVal 0) (mC (.int 0)))) (tgName 2)
 (sIf (mOr (mNot (mTest (mApp fIsi (mCons (mVal 2) (mCons (mC (.ty "tuple")) mNil))))) (mOr (mTest (mOp fNe (mApp fLen2 (mCons (mVal 2) mNil)) (mVal 1))) (mTest (mOp fNe (mLs (nComp (mSeq (mVal 2)) (tgName 3) (mNot (mTest (mChain fLe fLt (mC (.int 0)) (mVal 3) (mVal 1)))) (mVal 3) [3])) (mApp fLst mNil)))))
 (sRet (mC (.bl false)))
 sNx))
 (sRet (mC (.bl true))))))
def F_law_is_machine : FD := mFn 1 4 m_law_is_machine
theorem der_law_is_machine {P : Program} {w : World} {K : PySem.W.Frag} {mg : Str → Option Value} {base : Heap} (G : Gr P K mg)  [HasH] (f : Addr) (cdv : Value) (A : Around) (outer : List PySem.Env) (s : Shared) (H : Hp) (E : XK) (hr : Rm 0 (cxOf (L2.CX P w) P w K mg base N_law_is_machine "_law_is_machine" (defScope s_law_is_machine) f cdv A outer s H E).A) : PSDs (cxOf (L2.CX P w) P w K mg base N_law_is_machine "_law_is_machine" (defScope s_law_is_machine) f cdv A outer s H E) (WE' E) (defBody s_law_is_machine) m_law_is_machine := by
  have tk0 : Takes (cxOf (L2.CX P w) P w K mg base N_law_is_machine "_law_is_machine" (defScope s_law_is_machine) f cdv A outer s H E) (WE' E) := takes_def
  have hp0 := own_def (P := P) (w := w) (K := K) (mg := mg) (base := base) (N := N_law_is_machine) (qual := "_law_is_machine") (scope := defScope s_law_is_machine) (f := f) (cdv := cdv) (A := A) (outer := outer) (s := s) (H := H) (E := E)
  unfold m_law_is_machine
  exact (psd_cons (psd_if (PDW.pdt (pdw_or (pdt_not (pdt_val (pd_isi G.b_isinstance (pda_cons (pd_val 0) (pda_cons (pd_ty G.b_tuple rfl) pda_nil))))) (pdw_or (pdt_ne hr.r.units (pd_len2 G.b_len (pda_cons (pd_val 0) pda_nil)) pd_int) (pdw_or (pdt_not (pdt_val (pd_isi G.b_isinstance (pda_cons (pd_ix2 hr (pd_val 0) pd_int) (pda_cons (pd_ty G.b_tuple rfl) pda_nil))))) (pdw_or1 (pdt_not (pdt_val (pd_isi G.b_isinstance (pda_cons (pd_ix2 hr (pd_val 0) pd_int) (pda_cons (pd_ty G.b_tuple rfl) pda_nil)))))))))) (psd_one (psd_ret pd_bl)) psd_nil) (psd_cons (psd_set sc_law_is_machine.nd (pd_len2 G.b_len (pda_cons (pd_ix2 hr (pd_val 0) pd_int) pda_nil))) (psd_cons (psd_for hp0 rfl (pid_seq (pd_ix2 hr (pd_val 0) pd_int)) (pgd_name sc_law_is_machine.nd) (psd_one (psd_if (PDW.pdt (pdw_or (pdt_not (pdt_val (pd_isi G.b_isinstance (pda_cons (pd_val 2) (pda_cons (pd_ty G.b_tuple rfl) pda_nil))))) (pdw_or (pdt_ne hr.r.units (pd_len2 G.b_len (pda_cons (pd_val 2) pda_nil)) (pd_val 1)) (pdw_or1 (pdt_ne hr.r.units (PDN.pd (pdn_comp (own := [("_law_state", 3)]) rfl sc_law_is_machine.nd (pid_seq (pd_val 2)) (by kernel_rfl) (fun _ _ _ _ _ => (pgd_name sc_law_is_machine.nd)) (fun _ _ _ _ _ => (pdts_one (pdt_not (pdt_chain op_le op_lt rel_B rel_B pd_int (pd_val 3) (pd_val 1))))) (fun _ _ _ _ _ => (pd_val 3)) (by kernel_rfl))) (pd_lst pda_nil)))))) (psd_one (psd_ret pd_bl)) psd_nil))) (psd_one (psd_ret pd_bl)))))
def N_least_names : List Str := ["machine"]
theorem sc_least_names : FnScope N_least_names ["machine"] (defScope s_least_names) := ⟨rfl, rfl, rfl, by decide +kernel, rfl, by decide +kernel, by decide +kernel⟩
def m_least_names : SS :=
 (sRet (mApp fTuple (mCons (mCall 1 F_names_in_least (mCons (mCall 1 F_need_machine (mCons (mVal 0) mNil)) mNil)) mNil)))
def F_least_names : FD := mFn 1 1 m_least_names
theorem der_least_names {P : Program} {w : World} {K : PySem.W.Frag} {mg : Str → Option Value} {base : Heap} (G : Gr P K mg) (c_names_in_least : Cal P w K mg base 4 "names_in_least" 1 F_names_in_least) (c_need_machine : Cal P w K mg base 5 "need_machine" 1 F_need_machine) [HasH] (f : Addr) (cdv : Value) (A : Around) (outer : List PySem.Env) (s : Shared) (H : Hp) (E : XK) (hr : Rm 5 (cxOf (L2.CX P w) P w K mg base N_least_names "least_names" (defScope s_least_names) f cdv A outer s H E).A) : PSDs (cxOf (L2.CX P w) P w K mg base N_least_names "least_names" (defScope s_least_names) f cdv A outer s H E) (WE' E) (defBody s_least_names) m_least_names := by
  have tk0 : Takes (cxOf (L2.CX P w) P w K mg base N_least_names "least_names" (defScope s_least_names) f cdv A outer s H E) (WE' E) := takes_def
  have hp0 := own_def (P := P) (w := w) (K := K) (mg := mg) (base := base) (N := N_least_names) (qual := "least_names") (scope := defScope s_least_names) (f := f) (cdv := cdv) (A := A) (outer := outer) (s := s) (H := H) (E := E)
  unfold m_least_names
  exact (psd_one (psd_ret (pd_tupleOf G.b_tuple (pda_cons (pd_call c_names_in_least hr (by decide) tk0 (pda_cons (pd_call c_need_machine hr (by decide) tk0 (pda_cons (pd_val 0) pda_nil)) pda_nil)) pda_nil))))
def N_law_words : List Str := ["_law_kinds", "_law_longest", "_law_turn", "_law_words_here", "_law_last", "_law_longer", "_law_word", "_law_kind"]
theorem sc_law_words : FnScope N_law_words ["_law_kinds", "_law_longest"] (defScope s_law_words) := ⟨rfl, rfl, rfl, by decide +kernel, rfl, by decide +kernel, by decide +kernel⟩
def m_law_words : SS :=
 (sSeq (sParN [3, 4] (mmOwn (oLst (nDisp (mCons (mApp fTup mNil) mNil))) (mmVal (mApp fLst (mCons (mApp fTup mNil) mNil)) mmNil)))
 (sSeq (sFor (mRng fRng1 (mCons (mVal 1) mNil)) (tgName 2)
 (sSeq (sSetN 5 (nDisp mNil))
 (sSeq (sFor (mSeq (mVal 4)) (tgName 6)
 (sExt 5 (mLs (nComp (mRng fRng1 (mCons (mVal 0) mNil)) (tgName 7) mYes (mOp fAdd (mVal 6) (mApp fTup (mCons (mVal 7) mNil))) [7]))))
 (sSeq (sExt 3 (mVar 5))
 (sFrz 5 (sSet 4 (mVal 5)))))))
 (sRetO 3)))
def F_law_words : FD := mFn 2 8 m_law_words
theorem der_law_words {P : Program} {w : World} {K : PySem.W.Frag} {mg : Str → Option Value} {base : Heap} (G : Gr P K mg)  [HasH] (f : Addr) (cdv : Value) (A : Around) (outer : List PySem.Env) (s : Shared) (H : Hp) (E : XK) (hr : Rm 0 (cxOf (L2.CX P w) P w K mg base N_law_words "_law_words" (defScope s_law_words) f cdv A outer s H E).A) : PSDs (cxOf (L2.CX P w) P w K mg base N_law_words "_law_words" (defScope s_law_words) f cdv A outer s H E) (WE' E) (defBody s_law_words) m_law_words := by
  have tk0 : Takes (cxOf (L2.CX P w) P w K mg base N_law_words "_law_words" (defScope s_law_words) f cdv A outer s H E) (WE' E) := takes_def
  have hp0 := own_def (P := P) (w := w) (K := K) (mg := mg) (base := base) (N := N_law_words) (qual := "_law_words") (scope := defScope s_law_words) (f := f) (cdv := cdv) (A := A) (outer := outer) (s := s) (H := H) (E := E)
  unfold m_law_words
  exact (psd_cons (psd_parN rfl sc_law_words.nd (pdm_own (PDN.ow (pdn_list (pda_cons (pd_tup pda_nil) pda_nil))) (pdm_val (pd_lst (pda_cons (pd_tup pda_nil) pda_nil)) pdm_nil))) (psd_cons (psd_for hp0 rfl (pid_range1 G.b_range (pda_cons (pd_val 1) pda_nil)) (pgd_name sc_law_words.nd) (psd_cons (psd_setN sc_law_words.nd (pdn_list pda_nil)) (psd_cons (psd_for hp0 rfl (pid_seq (pd_val 4)) (pgd_name sc_law_words.nd) (psd_one (psd_ext (PDN.pd (pdn_comp (own := [("_law_kind", 7)]) rfl sc_law_words.nd (pid_range1 G.b_range (pda_cons (pd_val 0) pda_nil)) (by kernel_rfl) (fun _ _ _ _ _ => (pgd_name sc_law_words.nd)) (fun _ _ _ _ _ => pdts_nil) (fun _ _ _ _ _ => (pd_add (pd_val 6) (pd_tup (pda_cons (pd_val 7) pda_nil)))) (by kernel_rfl)))))) (psd_cons (psd_ext (pd_var 5)) (psd_one (psd_frz 5 (psd_set sc_law_words.nd (pd_val 5)))))))) (psd_one psd_retO)))
def N_law_led : List Str := ["_law_machine_here", "_law_word", "_law_state", "_law_kind"]
theorem sc_law_led : FnScope N_law_led ["_law_machine_here", "_law_word"] (defScope s_law_led) := ⟨rfl, rfl, rfl, by decide +kernel, rfl, by decide +kernel, by decide +kernel⟩
def m_law_led : SS :=
 (sSeq (sSet 2 (mC (.int 0)))
 (sSeq (sFor (mSeq (mVal 1)) (tgName 3)
 (sSet 2 (mOp fIx2 (mOp fIx2 (mOp fIx2 (mVal 0) (mC (.int 0))) (mVal 3)) (mVal 2))))
 (sRet (mVal 2))))
def F_law_led : FD := mFn 2 4 m_law_led
theorem der_law_led {P : Program} {w : World} {K : PySem.W.Frag} {mg : Str → Option Value} {base : Heap} (G : Gr P K mg)  [HasH] (f : Addr) (cdv : Value) (A : Around) (outer : List PySem.Env) (s : Shared) (H : Hp) (E : XK) (hr : Rm 0 (cxOf (L2.CX P w) P w K mg base N_law_led "_law_led" (defScope s_law_led) f cdv A outer s H E).A) : PSDs (cxOf (L2.CX P w) P w K mg base N_law_led "_law_led" (defScope s_law_led) f cdv A outer s H E) (WE' E) (defBody s_law_led) m_law_led := by
  have tk0 : Takes (cxOf (L2.CX P w) P w K mg base N_law_led "_law_led" (defScope s_law_led) f cdv A outer s H E) (WE' E) := takes_def
  have hp0 := own_def (P := P) (w := w) (K := K) (mg := mg) (base := base) (N := N_law_led) (qual := "_law_led") (scope := defScope s_law_led) (f := f) (cdv := cdv) (A := A) (outer := outer) (s := s) (H := H) (E := E)
  unfold m_law_led
  exact (psd_cons (psd_set sc_law_led.nd pd_int) (psd_cons (psd_for hp0 rfl (pid_seq (pd_val 1)) (pgd_name sc_law_led.nd) (psd_one (psd_set sc_law_led.nd (pd_ix2 hr (pd_ix2 hr (pd_ix2 hr (pd_val 0) pd_int) (pd_val 3)) (pd_val 2))))) (psd_one (psd_ret (pd_val 2)))))
def N_law_futures : List Str := ["_law_machine_here", "_law_longest", "_law_rows", "_law_turn", "_law_maps", "_law_readings", "_law_shown", "_law_state", "_law_row"]
theorem sc_law_futures : FnScope N_law_futures ["_law_machine_here", "_law_longest"] (defScope s_law_futures) := ⟨rfl, rfl, rfl, by decide +kernel, rfl, by decide +kernel, by decide +kernel⟩
def m_law_futures : SS :=
 (sSeq (sAsg (mVal 0) (tgTup (tgCons (tgName 4) (tgCons (tgName 5) tgNil))))
 (sSeq (sSet 2 (mLs (nComp (mSeq (mVal 5)) (tgName 6) mYes (mApp fTup (mCons (mVal 6) mNil)) [6])))
 (sSeq (sFor (mRng fRng1 (mCons (mVal 1) mNil)) (tgName 3)
 (sSet 2 (mLs (nComp (mRng fRng1 (mCons (mApp fLen2 (mCons (mVal 5) mNil)) mNil)) (tgName 7) mYes (mOp fAdd (mApp fTup (mCons (mOp fIx2 (mVal 5) (mVal 7)) mNil)) (mApp fTuple (mCons (mLs (nComp (mSeq (mVal 4)) (tgName 8) mYes (mOp fIx2 (mVal 2) (mOp fIx2 (mVal 8) (mVal 7))) [8])) mNil))) [7]))))
 (sRet (mVal 2)))))
def F_law_futures : FD := mFn 2 9 m_law_futures
theorem der_law_futures {P : Program} {w : World} {K : PySem.W.Frag} {mg : Str → Option Value} {base : Heap} (G : Gr P K mg)  [HasH] (f : Addr) (cdv : Value) (A : Around) (outer : List PySem.Env) (s : Shared) (H : Hp) (E : XK) (hr : Rm 0 (cxOf (L2.CX P w) P w K mg base N_law_futures "_law_futures" (defScope s_law_futures) f cdv A outer s H E).A) : PSDs (cxOf (L2.CX P w) P w K mg base N_law_futures "_law_futures" (defScope s_law_futures) f cdv A outer s H E) (WE' E) (defBody s_law_futures) m_law_futures := by
  have tk0 : Takes (cxOf (L2.CX P w) P w K mg base N_law_futures "_law_futures" (defScope s_law_futures) f cdv A outer s H E) (WE' E) := takes_def
  have hp0 := own_def (P := P) (w := w) (K := K) (mg := mg) (base := base) (N := N_law_futures) (qual := "_law_futures") (scope := defScope s_law_futures) (f := f) (cdv := cdv) (A := A) (outer := outer) (s := s) (H := H) (E := E)
  unfold m_law_futures
  exact (psd_cons (psd_asg (pd_val 0) (pgd_tup rfl (pgds_cons (pgd_name sc_law_futures.nd) (pgds_cons (pgd_name sc_law_futures.nd) pgds_nil)))) (psd_cons (psd_set sc_law_futures.nd (PDN.pd (pdn_comp (own := [("_law_shown", 6)]) rfl sc_law_futures.nd (pid_seq (pd_val 5)) (by kernel_rfl) (fun _ _ _ _ _ => (pgd_name sc_law_futures.nd)) (fun _ _ _ _ _ => pdts_nil) (fun _ _ _ _ _ => (pd_tup (pda_cons (pd_val 6) pda_nil))) (by kernel_rfl)))) (psd_cons (psd_for hp0 rfl (pid_range1 G.b_range (pda_cons (pd_val 1) pda_nil)) (pgd_name sc_law_futures.nd) (psd_one (psd_set sc_law_futures.nd (PDN.pd (pdn_comp (own := [("_law_state", 7)]) rfl sc_law_futures.nd (pid_range1 G.b_range (pda_cons (pd_len2 G.b_len (pda_cons (pd_val 5) pda_nil)) pda_nil)) (by kernel_rfl) (fun _ _ _ _ _ => (pgd_name sc_law_futures.nd)) (fun _ _ _ _ _ => pdts_nil) (fun _ _ _ _ _ => (pd_add (pd_tup (pda_cons (pd_ix2 hr (pd_val 5) (pd_val 7)) pda_nil)) (pd_tupleOf G.b_tuple (pda_cons (PDN.pd (pdn_comp (own := [("_law_row", 8)]) rfl sc_law_futures.nd (pid_seq (pd_val 4)) (by kernel_rfl) (fun _ _ _ _ _ => (pgd_name sc_law_futures.nd)) (fun _ _ _ _ _ => pdts_nil) (fun _ _ _ _ _ => (pd_ix2 hr (pd_val 2) (pd_ix2 hr (pd_val 8) (pd_val 7)))) (by kernel_rfl))) pda_nil)))) (by kernel_rfl)))))) (psd_one (psd_ret (pd_val 2))))))
def N_law_names : List Str := ["_law_machine_here", "_law_states", "_law_rows", "_law_word", "_law_names_here", "_law_met", "_law_state"]
theorem sc_law_names : FnScope N_law_names ["_law_machine_here"] (defScope s_law_names) := ⟨rfl, rfl, rfl, by decide +kernel, rfl, by decide +kernel, by decide +kernel⟩
def m_law_names : SS :=
 (sSeq (sSet 1 (mApp fLen2 (mCons (mOp fIx2 (mVal 0) (mC (.int 1))) mNil)))
 (sSeq (sSet 2 (mCall 2 F_law_futures (mCons (mVal 0) (mCons (mOp fSub (mVal 1) (mC (.int 1))) mNil))))
 (sSeq (sParN [4, 5] (mmOwn (oLst (nDisp mNil)) (mmOwn (oLst (nDisp mNil)) mmNil)))
 (sSeq (sFor (mSeq (mCall 2 F_law_words (mCons (mApp fLen2 (mCons (mOp fIx2 (mVal 0) (mC (.int 0))) mNil)) (mCons (mOp fSub (mVal 1) (mC (.int 1))) mNil)))) (tgName 3)
 (sSeq (sSet 6 (mCall 2 F_law_led (mCons (mVal 0) (mCons (mVal 3) mNil))))
 (sSeq (sApp 5 (mVal 6))
 (sIf (mTest (mOp (fIn2 true) (mOp fIx2 (mVal 2) (mVal 6)) (mVar 4)))
 (sApp 4 (mOp fIx2 (mVal 2) (mVal 6)))
 sNx))))
 (sRet (mApp fTuple (mCons (mLs (nComp (mRng fRng1 (mCons (mVal 1) mNil)) (tgName 6) mYes (mIf (mTest (mOp (fIn2 false) (mVal 6) (mVar 5))) (mIndex (mVar 4) (mOp fIx2 (mVal 2) (mVal 6))) (mC .non)) [6])) mNil)))))))
def F_law_names : FD := mFn 1 7 m_law_names
theorem der_law_names {P : Program} {w : World} {K : PySem.W.Frag} {mg : Str → Option Value} {base : Heap} (G : Gr P K mg) (c_law_words : Cal P w K mg base 1 "_law_words" 2 F_law_words) (c_law_led : Cal P w K mg base 1 "_law_led" 2 F_law_led) (c_law_futures : Cal P w K mg base 1 "_law_futures" 2 F_law_futures) [HasH] (f : Addr) (cdv : Value) (A : Around) (outer : List PySem.Env) (s : Shared) (H : Hp) (E : XK) (hr : Rm 1 (cxOf (L2.CX P w) P w K mg base N_law_names "_law_names" (defScope s_law_names) f cdv A outer s H E).A) : PSDs (cxOf (L2.CX P w) P w K mg base N_law_names "_law_names" (defScope s_law_names) f cdv A outer s H E) (WE' E) (defBody s_law_names) m_law_names := by
  have tk0 : Takes (cxOf (L2.CX P w) P w K mg base N_law_names "_law_names" (defScope s_law_names) f cdv A outer s H E) (WE' E) := takes_def
  have hp0 := own_def (P := P) (w := w) (K := K) (mg := mg) (base := base) (N := N_law_names) (qual := "_law_names") (scope := defScope s_law_names) (f := f) (cdv := cdv) (A := A) (outer := outer) (s := s) (H := H) (E := E)
  unfold m_law_names
  exact (psd_cons (psd_set sc_law_names.nd (pd_len2 G.b_len (pda_cons (pd_ix2 hr (pd_val 0) pd_int) pda_nil))) (psd_cons (psd_set sc_law_names.nd (pd_call c_law_futures hr (by decide) tk0 (pda_cons (pd_val 0) (pda_cons (pd_sub (pd_val 1) pd_int) pda_nil)))) (psd_cons (psd_asgN (is := [4, 5]) rfl (pdm_own (PDN.ow (pdn_list pda_nil)) (pdm_own (PDN.ow (pdn_list pda_nil)) pdm_nil)) (pgn_cons sc_law_names.nd (pgn_cons sc_law_names.nd pgn_nil))) (psd_cons (psd_for hp0 rfl (pid_seq (pd_call c_law_words hr (by decide) tk0 (pda_cons (pd_len2 G.b_len (pda_cons (pd_ix2 hr (pd_val 0) pd_int) pda_nil)) (pda_cons (pd_sub (pd_val 1) pd_int) pda_nil)))) (pgd_name sc_law_names.nd) (psd_cons (psd_set sc_law_names.nd (pd_call c_law_led hr (by decide) tk0 (pda_cons (pd_val 0) (pda_cons (pd_val 3) pda_nil)))) (psd_cons (psd_app (pd_val 6)) (psd_one (psd_if (pdt_notIn2 hr (pd_ix2 hr (pd_val 2) (pd_val 6)) (pd_var 4)) (psd_one (psd_app (pd_ix2 hr (pd_val 2) (pd_val 6)))) psd_nil))))) (psd_one (psd_ret (pd_tupleOf G.b_tuple (pda_cons (PDN.pd (pdn_comp (own := [("_law_state", 6)]) rfl sc_law_names.nd (pid_range1 G.b_range (pda_cons (pd_val 1) pda_nil)) (by kernel_rfl) (fun _ _ _ _ _ => (pgd_name sc_law_names.nd)) (fun _ _ _ _ _ => pdts_nil) (fun _ _ _ _ _ => (pd_if (pdt_in2 hr (pd_val 6) (pd_var 5)) (pd_index (u65 hr) (pd_var 4) (pd_ix2 hr (pd_val 2) (pd_val 6))) pd_non)) (by kernel_rfl))) pda_nil))))))))
def N_law_map : List Str := ["_law_box_here", "_law_states", "_law_kind", "_law_row", "_law_state"]
theorem sc_law_map : FnScope N_law_map ["_law_box_here", "_law_states"] (defScope s_law_map) := ⟨rfl, rfl, rfl, by decide +kernel, rfl, by decide +kernel, by decide +kernel⟩
def m_law_map : SS :=
 (sSeq (sSet 2 (mCall 2 F_law_take (mCons (mVal 0) (mCons (mC (.int 5)) mNil))))
 (sSeq (sIf (mTest (mOp fEq (mVal 2) (mC (.int 0))))
 (sRet (mApp fTuple (mCons (mLs (nRep (mApp fLst (mCons (mCall 2 F_law_take (mCons (mVal 0) (mCons (mVal 1) mNil))) mNil)) (mVal 1))) mNil)))
 sNx)
 (sSeq (sSetN 3 (nRg1 (mVal 1)))
 (sSeq (sIf (mTest (mOp fEq (mVal 2) (mC (.int 1))))
 (sPutO 3 (mCall 2 F_law_take (mCons (mVal 0) (mCons (mVal 1) mNil))) (mCall 2 F_law_take (mCons (mVal 0) (mCons (mVal 1) mNil))))
 (sIf (mTest (mOp fEq (mVal 2) (mC (.int 2))))
 (sSetN 3 (nCat (mSlice (mVar 3) (oSome (mC (.int 1))) oNone) (mSlice (mVar 3) oNone (oSome (mC (.int 1))))))
 (sFrz 3 (sSetN 3 (nComp (mSeq (mVal 3)) (tgName 4) mYes (mCall 2 F_law_take (mCons (mVal 0) (mCons (mVal 1) mNil))) [4])))))
 (sRet (mApp fTuple (mCons (mVar 3) mNil)))))))
def F_law_map : FD := mFn 2 5 m_law_map
theorem der_law_map {P : Program} {w : World} {K : PySem.W.Frag} {mg : Str → Option Value} {base : Heap} (G : Gr P K mg) (c_law_take : Cal P w K mg base 1 "_law_take" 2 F_law_take) [HasH] (f : Addr) (cdv : Value) (A : Around) (outer : List PySem.Env) (s : Shared) (H : Hp) (E : XK) (hr : Rm 1 (cxOf (L2.CX P w) P w K mg base N_law_map "_law_map" (defScope s_law_map) f cdv A outer s H E).A) : PSDs (cxOf (L2.CX P w) P w K mg base N_law_map "_law_map" (defScope s_law_map) f cdv A outer s H E) (WE' E) (defBody s_law_map) m_law_map := by
  have tk0 : Takes (cxOf (L2.CX P w) P w K mg base N_law_map "_law_map" (defScope s_law_map) f cdv A outer s H E) (WE' E) := takes_def
  have hp0 := own_def (P := P) (w := w) (K := K) (mg := mg) (base := base) (N := N_law_map) (qual := "_law_map") (scope := defScope s_law_map) (f := f) (cdv := cdv) (A := A) (outer := outer) (s := s) (H := H) (E := E)
  unfold m_law_map
  exact (psd_cons (psd_set sc_law_map.nd (pd_call c_law_take hr (by decide) tk0 (pda_cons (pd_val 0) (pda_cons pd_int pda_nil)))) (psd_cons (psd_if (pdt_eq hr.r.units (pd_val 2) pd_int) (psd_one (psd_ret (pd_tupleOf G.b_tuple (pda_cons (PDN.pd (pdn_rep (pd_lst (pda_cons (pd_call c_law_take hr (by decide) tk0 (pda_cons (pd_val 0) (pda_cons (pd_val 1) pda_nil))) pda_nil)) (pd_val 1))) pda_nil)))) psd_nil) (psd_cons (psd_setN sc_law_map.nd (pdn_rg1 rfl G.b_list G.b_range (pd_val 1))) (psd_cons (psd_if (pdt_eq hr.r.units (pd_val 2) pd_int) (psd_one (psd_putO (pd_call c_law_take hr (by decide) tk0 (pda_cons (pd_val 0) (pda_cons (pd_val 1) pda_nil))) (pd_call c_law_take hr (by decide) tk0 (pda_cons (pd_val 0) (pda_cons (pd_val 1) pda_nil))))) (psd_one (psd_if (pdt_eq hr.r.units (pd_val 2) pd_int) (psd_one (psd_setN sc_law_map.nd (pdn_cat (pd_slice (pd_var 3) (pdo_some pd_int) pdo_none) (pd_slice (pd_var 3) pdo_none (pdo_some pd_int))))) (psd_one (psd_frz 3 (psd_setNc (own := [("_law_state", 4)]) rfl sc_law_map.nd (pid_seq (pd_val 3)) (by kernel_rfl) (fun _ _ _ _ _ => (pgd_name sc_law_map.nd)) (fun _ _ _ _ _ => pdts_nil) (fun _ _ _ _ _ => (pd_call c_law_take hr (by decide) takes_blk (pda_cons (pd_val 0) (pda_cons (pd_val 1) pda_nil)))) (by kernel_rfl))))))) (psd_one (psd_ret (pd_tupleOf G.b_tuple (pda_cons (pd_var 3) pda_nil))))))))
def N_law_machine : List Str := ["_law_box_here", "_law_most", "_law_kinds", "_law_states", "_law_maps", "_law_shown", "_law_turn", "_law_state"]
theorem sc_law_machine : FnScope N_law_machine ["_law_box_here", "_law_most", "_law_kinds"] (defScope s_law_machine) := ⟨rfl, rfl, rfl, by decide +kernel, rfl, by decide +kernel, by decide +kernel⟩
def m_law_machine : SS :=
 (sSeq (sSet 3 (mOp fAdd (mC (.int 1)) (mCall 2 F_law_take (mCons (mVal 0) (mCons (mVal 1) mNil)))))
 (sSeq (sSet 4 (mLs (nComp (mRng fRng1 (mCons (mOp fAdd (mC (.int 1)) (mCall 2 F_law_take (mCons (mVal 0) (mCons (mVal 2) mNil)))) mNil)) (tgName 6) mYes (mCall 2 F_law_map (mCons (mVal 0) (mCons (mVal 3) mNil))) [6])))
 (sSeq (sSet 5 (mOp fAdd (mC (.int 1)) (mCall 2 F_law_take (mCons (mVal 0) (mCons (mC (.int 3)) mNil)))))
 (sRet (mApp fTup (mCons (mApp fTuple (mCons (mVal 4) mNil)) (mCons (mApp fTuple (mCons (mLs (nComp (mRng fRng1 (mCons (mVal 3) mNil)) (tgName 7) mYes (mCall 2 F_law_take (mCons (mVal 0) (mCons (mVal 5) mNil))) [7])) mNil)) mNil)))))))
def F_law_machine : FD := mFn 3 8 m_law_machine
theorem der_law_machine {P : Program} {w : World} {K : PySem.W.Frag} {mg : Str → Option Value} {base : Heap} (G : Gr P K mg) (c_law_take : Cal P w K mg base 1 "_law_take" 2 F_law_take) (c_law_map : Cal P w K mg base 2 "_law_map" 2 F_law_map) [HasH] (f : Addr) (cdv : Value) (A : Around) (outer : List PySem.Env) (s : Shared) (H : Hp) (E : XK) (hr : Rm 2 (cxOf (L2.CX P w) P w K mg base N_law_machine "_law_machine" (defScope s_law_machine) f cdv A outer s H E).A) : PSDs (cxOf (L2.CX P w) P w K mg base N_law_machine "_law_machine" (defScope s_law_machine) f cdv A outer s H E) (WE' E) (defBody s_law_machine) m_law_machine := by
  have tk0 : Takes (cxOf (L2.CX P w) P w K mg base N_law_machine "_law_machine" (defScope s_law_machine) f cdv A outer s H E) (WE' E) := takes_def
  have hp0 := own_def (P := P) (w := w) (K := K) (mg := mg) (base := base) (N := N_law_machine) (qual := "_law_machine") (scope := defScope s_law_machine) (f := f) (cdv := cdv) (A := A) (outer := outer) (s := s) (H := H) (E := E)
  unfold m_law_machine
  exact (psd_cons (psd_set sc_law_machine.nd (pd_add pd_int (pd_call c_law_take hr (by decide) tk0 (pda_cons (pd_val 0) (pda_cons (pd_val 1) pda_nil))))) (psd_cons (psd_setc (own := [("_law_turn", 6)]) rfl sc_law_machine.nd (pid_range1 G.b_range (pda_cons (pd_add pd_int (pd_call c_law_take hr (by decide) tk0 (pda_cons (pd_val 0) (pda_cons (pd_val 2) pda_nil)))) pda_nil)) (by kernel_rfl) (fun _ _ _ _ _ => (pgd_name sc_law_machine.nd)) (fun _ _ _ _ _ => pdts_nil) (fun _ _ _ _ _ => (pd_call c_law_map hr (by decide) takes_blk (pda_cons (pd_val 0) (pda_cons (pd_val 3) pda_nil)))) (by kernel_rfl)) (psd_cons (psd_set sc_law_machine.nd (pd_add pd_int (pd_call c_law_take hr (by decide) tk0 (pda_cons (pd_val 0) (pda_cons pd_int pda_nil))))) (psd_one (psd_ret (pd_tup (pda_cons (pd_tupleOf G.b_tuple (pda_cons (pd_val 4) pda_nil)) (pda_cons (pd_tupleOf G.b_tuple (pda_cons (PDN.pd (pdn_comp (own := [("_law_state", 7)]) rfl sc_law_machine.nd (pid_range1 G.b_range (pda_cons (pd_val 3) pda_nil)) (by kernel_rfl) (fun _ _ _ _ _ => (pgd_name sc_law_machine.nd)) (fun _ _ _ _ _ => pdts_nil) (fun _ _ _ _ _ => (pd_call c_law_take hr (by decide) takes_blk (pda_cons (pd_val 0) (pda_cons (pd_val 5) pda_nil)))) (by kernel_rfl))) pda_nil)) pda_nil))))))))
def N_law_box : List Str := ["_law_script", "_law_k", "_law_cell"]
theorem sc_law_box : FnScope N_law_box ["_law_script", "_law_k"] (defScope s_law_box) := ⟨rfl, rfl, rfl, by decide +kernel, rfl, by decide +kernel, by decide +kernel⟩
def m_law_box : SS :=
 (sSeq (sSet 2 (mOp fAdd (mOp (fI cMul fun i j => i * j) (mC (.int 6037)) (mVal 1)) (mC (.int 269))))
 (sSeq (sIf (mTest (mOp fLt (mVal 1) (mApp fLen2 (mCons (mVal 0) mNil))))
 (sSet 2 (mApp fAbs (mCons (mOp fIx2 (mVal 0) (mVal 1)) mNil)))
 (sIf (mTest (mOp fGt (mApp fLen2 (mCons (mVal 0) mNil)) (mC (.int 0))))
 (sSet 2 (mOp fAdd (mVal 2) (mOp (fI cMul fun i j => i * j) (mOp fMod (mApp fInt (mCons (mApp fAbs (mCons (mOp fIx2 (mVal 0) (mOp fMod (mApp fInt (mCons (mVal 1) mNil)) (mApp fLen2 (mCons (mVal 0) mNil)))) mNil)) mNil)) (mC (.int 2147483629))) (mC (.int 70051)))))
 sNx))
 (sRet (mCell (mCons (mOp fIx2 (mApp fLst (mCons (mC (.int 0)) (mCons (mVal 2) mNil))) (mApp fInt (mCons (mOp fGe (mVal 2) (mOp fPow (mC (.int 10)) (mC (.int 18)))) mNil))) (mCons (mOp fAdd (mOp fMod (mApp fInt (mCons (mOp fAdd (mOp (fI cMul fun i j => i * j) (mOp fMod (mApp fInt (mCons (mVal 2) mNil)) (mC (.int 2147483629))) (mC (.int 44041))) (mOp (fI cMul fun i j => i * j) (mC (.int 51203)) (mVal 1))) mNil)) (mC (.int 2147483629))) (mC (.int 1))) (mCons (mC (.int 0)) mNil)))))))
def F_law_box : FD := mFn 2 3 m_law_box
theorem der_law_box {P : Program} {w : World} {K : PySem.W.Frag} {mg : Str → Option Value} {base : Heap} (G : Gr P K mg)  [HasH] (f : Addr) (cdv : Value) (A : Around) (outer : List PySem.Env) (s : Shared) (H : Hp) (E : XK) (hr : Rm 0 (cxOf (L2.CX P w) P w K mg base N_law_box "_law_box" (defScope s_law_box) f cdv A outer s H E).A) : PSDs (cxOf (L2.CX P w) P w K mg base N_law_box "_law_box" (defScope s_law_box) f cdv A outer s H E) (WE' E) (defBody s_law_box) m_law_box := by
  have tk0 : Takes (cxOf (L2.CX P w) P w K mg base N_law_box "_law_box" (defScope s_law_box) f cdv A outer s H E) (WE' E) := takes_def
  have hp0 := own_def (P := P) (w := w) (K := K) (mg := mg) (base := base) (N := N_law_box) (qual := "_law_box") (scope := defScope s_law_box) (f := f) (cdv := cdv) (A := A) (outer := outer) (s := s) (H := H) (E := E)
  unfold m_law_box
  exact (psd_cons (psd_set sc_law_box.nd (pd_add (pd_mul pd_int (pd_val 1)) pd_int)) (psd_cons (psd_if (pdt_lt (pd_val 1) (pd_len2 G.b_len (pda_cons (pd_val 0) pda_nil))) (psd_one (psd_set sc_law_box.nd (pd_abs G.b_abs (pda_cons (pd_ix2 hr (pd_val 0) (pd_val 1)) pda_nil)))) (psd_one (psd_if (pdt_gt (pd_len2 G.b_len (pda_cons (pd_val 0) pda_nil)) pd_int) (psd_one (psd_set sc_law_box.nd (pd_add (pd_val 2) (pd_mul (pd_mod (pd_intT G.b_int (pda_cons (pd_abs G.b_abs (pda_cons (pd_ix2 hr (pd_val 0) (pd_mod (pd_intT G.b_int (pda_cons (pd_val 1) pda_nil)) (pd_len2 G.b_len (pda_cons (pd_val 0) pda_nil)))) pda_nil)) pda_nil)) pd_int) pd_int)))) psd_nil))) (psd_one (psd_ret (pd_cell (pda_cons (pd_ix2 hr (pd_lst (pda_cons pd_int (pda_cons (pd_val 2) pda_nil))) (pd_intT G.b_int (pda_cons (pd_ge (pd_val 2) (pd_pow pd_int pd_int)) pda_nil))) (pda_cons (pd_add (pd_mod (pd_intT G.b_int (pda_cons (pd_add (pd_mul (pd_mod (pd_intT G.b_int (pda_cons (pd_val 2) pda_nil)) pd_int) pd_int) (pd_mul pd_int (pd_val 1))) pda_nil)) pd_int) pd_int) (pda_cons pd_int pda_nil))))))))
def N_law : List Str := ["_law_script", "_law_twice", "_law_k", "_law_box_here", "_law_machine_here", "_law_least", "_law_names_here", "_law_many", "_law_state", "_law_behind", "_law_name", "_law_row"]
theorem sc_law : FnScope N_law ["_law_script"] (defScope s_law) := ⟨rfl, rfl, rfl, by decide +kernel, rfl, by decide +kernel, by decide +kernel⟩
def fr_lam0 : List Str := ["_law_machine_here"]
def N_lam0 : List Str := ["_law_machine_here"]
def m_lam0 (CT : D → FD) : SE :=
 (mCall 1 F_least_machine (mCons (mApp fTup (mCons (mApp fTup (mCons (mOp fAdd (mOp fIx2 (mOp fIx2 (mVal 0) (mC (.int 0))) (mC (.int 0))) (mApp fTup (mCons (mC (.int 0)) mNil))) mNil)) (mCons (mOp fIx2 (mVal 0) (mC (.int 1))) mNil))) mNil))
def l_lam0 : LamE := ⟨0, N_lam0, [], fr_lam0, [4], m_lam0⟩
def fr_lam1 : List Str := ["_law_box_here", "_law_machine_here"]
def N_lam1 : List Str := ["_law_box_here", "_law_machine_here"]
def m_lam1 (CT : D → FD) : SE :=
 (mCall 1 F_is_least (mCons (mCall 2 F_law_pick (mCons (mVal 0) (mCons (mApp fLst (mCons (mC .non) (mCons (mC (.int 5)) (mCons (mApp fTup (mCons (mOp fIx2 (mVal 1) (mC (.int 0))) mNil)) mNil)))) mNil))) mNil))
def l_lam1 : LamE := ⟨1, N_lam1, [], fr_lam1, [3, 4], m_lam1⟩
def lams_law : List LamE := [l_lam0, l_lam1]
def m_law (CT : D → FD) (fc : List (Str × Addr)) : SS :=
 (sSeq (sSet 1 (mApp fTup (mCons (mApp fTup (mCons (mApp fTup (mCons (mC (.int 1)) (mCons (mC (.int 2)) (mCons (mC (.int 1)) (mCons (mC (.int 3)) mNil))))) (mCons (mApp fTup (mCons (mC (.int 0)) (mCons (mC (.int 0)) (mCons (mC (.int 2)) (mCons (mC (.int 3)) mNil))))) mNil))) (mCons (mApp fTup (mCons (mC (.int 5)) (mCons (mC (.int 7)) (mCons (mC (.int 7)) (mCons (mC (.int 7)) mNil))))) mNil))))
 (sSeq (sIf (mOr (mTest (mOp fNe (mCall 1 F_least_machine (mCons (mVal 1) mNil)) (mApp fTup (mCons (mApp fTup (mCons (mApp fTup (mCons (mC (.int 1)) (mCons (mC (.int 2)) (mCons (mC (.int 1)) mNil)))) (mCons (mApp fTup (mCons (mC (.int 0)) (mCons (mC (.int 0)) (mCons (mC (.int 2)) mNil)))) mNil))) (mCons (mApp fTup (mCons (mC (.int 5)) (mCons (mC (.int 7)) (mCons (mC (.int 7)) mNil)))) mNil))))) (mTest (mOp fNe (mCall 1 F_least_names (mCons (mVal 1) mNil)) (mApp fTup (mCons (mC (.int 0)) (mCons (mC (.int 1)) (mCons (mC (.int 2)) (mCons (mC .non) mNil))))))))
 (sRet (mC (.bl false)))
 sNx)
 (sSeq (sFor (mRng fRng1 (mCons (mC (.int 3)) mNil)) (tgName 2)
 (sSeq (sSet 3 (mCall 2 F_law_box (mCons (mVal 0) (mCons (mVal 2) mNil))))
 (sSeq (sSet 4 (mCall 3 F_law_machine (mCons (mVal 3) (mCons (mC (.int 6)) (mCons (mC (.int 2)) mNil)))))
 (sSeq (sSet 5 (mCallK 0 1 [0] 1 F_least_machine mNil (mCons (mApp fLst (mCons (mLs (nOf (mOp fIx2 (mVal 4) (mC (.int 0))))) (mCons (mOp fIx2 (mVal 4) (mC (.int 1))) mNil))) mNil)))
 (sSeq (sSet 6 (mCall 1 F_law_names (mCons (mVal 4) mNil)))
 (sSeq (sSet 7 (mApp fLen2 (mCons (mLs (nComp (mRng fRng1 (mCons (mApp fLen2 (mCons (mVal 6) mNil)) mNil)) (tgName 10) (mTest (mOp (fIn2 false) (mVal 10) (mVal 6))) (mVal 10) [10])) mNil)))
 (sSeq (sIf (mOr (mTest (mOp fNe (mApp fRepr (mCons (mCall 1 F_least_names (mCons (mVal 4) mNil)) mNil)) (mApp fRepr (mCons (mVal 6) mNil)))) (mOr (mNot (mTest (mCall 1 F_law_is_machine (mCons (mVal 5) mNil)))) (mTest (mOp fNe (mApp fLen2 (mCons (mOp fIx2 (mVal 5) (mC (.int 1))) mNil)) (mVal 7)))))
 (sRet (mC (.bl false)))
 sNx)
 (sSeq (sFor (mRng fRng1 (mCons (mApp fLen2 (mCons (mVal 6) mNil)) mNil)) (tgName 8)
 (sIf (mTest (mOp fNotN (mOp fIx2 (mVal 6) (mVal 8)) (mC .non)))
 (sSeq (sIf (mTest (mOp fNe (mOp fIx2 (mOp fIx2 (mVal 5) (mC (.int 1))) (mOp fIx2 (mVal 6) (mVal 8))) (mOp fIx2 (mOp fIx2 (mVal 4) (mC (.int 1))) (mVal 8))))
 (sRet (mC (.bl false)))
 sNx)
 (sSeq (sSet 9 (mLs (nComp (mSeq (mOp fIx2 (mVal 4) (mC (.int 0)))) (tgName 11) mYes (mOp fIx2 (mVal 6) (mOp fIx2 (mVal 11) (mVal 8))) [11])))
 (sIf (mTest (mOp fNe (mVal 9) (mLs (nComp (mSeq (mOp fIx2 (mVal 5) (mC (.int 0)))) (tgName 11) mYes (mOp fIx2 (mVal 11) (mOp fIx2 (mVal 6) (mVal 8))) [11]))))
 (sRet (mC (.bl false)))
 sNx)))
 sNx))
 (sSeq (sIf (mOr (mTest (mOp fNe (mApp fLen2 (mCons (mOp fIx2 (mVal 5) (mC (.int 0))) mNil)) (mApp fLen2 (mCons (mOp fIx2 (mVal 4) (mC (.int 0))) mNil)))) (mTest (mOp fNe (mApp fRepr (mCons (mCall 1 F_least_machine (mCons (mVal 5) mNil)) mNil)) (mApp fRepr (mCons (mVal 5) mNil)))))
 (sRet (mC (.bl false)))
 sNx)
 (sSeq (sIf (mOr (mTest (mOp fNotB (mCall 1 F_is_least (mCons (mVal 5) mNil)) (mC (.bl true)))) (mTest (mOp fNe (mApp fRepr (mCons (mCallK 0 1 [0] 1 F_is_least mNil (mCons (mVal 4) mNil)) mNil)) (mApp fRepr (mCons (mOp fEq (mVal 4) (mVal 5)) mNil)))))
 (sRet (mC (.bl false)))
 sNx)
 (sSeq (sIf (mTest (mOp fNe (mCallO 1 F_law_error (fun get => ctN fc lams_law CT get 1) (mCons (mLam 0 fc) mNil)) (mC (.int 0))))
 (sRet (mC (.bl false)))
 sNx)
 (sIf (mTest (mOp fNe (mCallO 1 F_law_error (fun get => ctN fc lams_law CT get 1) (mCons (mLam 1 fc) mNil)) (mUn fNeg (mC (.int 1)))))
 (sRet (mC (.bl false)))
 sNx))))))))))))
 (sRet (mC (.bl true))))))
noncomputable def F_law (CT : D → FD) : FD := mAll fun fc => mFn 1 12 (m_law CT fc)
theorem sc_lam0 : NdefX.NScope N_lam0 [] fr_lam0 (HasL.lt 0).scope := NdefX.nscope_by (by decide +kernel)
theorem lamok0 {P : Program} {w : World} {K : PySem.W.Frag} {mg : Str → Option Value} {base : Heap} (G : Gr P K mg) (k_least_machine : CalK P w K mg base 6 "least_machine" s_least_machine ["machine"] F_least_machine) (c_least_machine : Cal P w K mg base 6 "least_machine" 1 F_least_machine) (j : Nat) (hj : 6 ≤ j) : LamOk P w K mg base j 0 N_lam0 [] fr_lam0 m_lam0 := by
  refine ⟨sc_lam0, fun _ _ _ _ _ us hl => match us, hl with | [], _ => rfl, fun h S CT cl c' f A outer s H E hC hS hr => ?_⟩
  have tk0 : Takes (NdefX.ncx (L2.CX P w) P w K mg base N_lam0 (lamNF 0 cl c') f A outer s H E) (WE' E) := takes_lam
  unfold m_lam0
  exact (pd_call c_least_machine hr (Nat.le_trans (by decide) hj) tk0 (pda_cons (pd_tup (pda_cons (pd_tup (pda_cons (pd_add (pd_ix2 hr (pd_ix2 hr (pd_val 0) pd_int) pd_int) (pd_tup (pda_cons pd_int pda_nil))) pda_nil)) (pda_cons (pd_ix2 hr (pd_val 0) pd_int) pda_nil))) pda_nil))
theorem sc_lam1 : NdefX.NScope N_lam1 [] fr_lam1 (HasL.lt 1).scope := NdefX.nscope_by (by decide +kernel)
theorem lamok1 {P : Program} {w : World} {K : PySem.W.Frag} {mg : Str → Option Value} {base : Heap} (G : Gr P K mg) (k_is_least : CalK P w K mg base 6 "is_least" s_is_least ["machine"] F_is_least) (c_is_least : Cal P w K mg base 6 "is_least" 1 F_is_least) (c_law_pick : Cal P w K mg base 2 "_law_pick" 2 F_law_pick) (j : Nat) (hj : 6 ≤ j) : LamOk P w K mg base j 1 N_lam1 [] fr_lam1 m_lam1 := by
  refine ⟨sc_lam1, fun _ _ _ _ _ us hl => match us, hl with | [], _ => rfl, fun h S CT cl c' f A outer s H E hC hS hr => ?_⟩
  have tk0 : Takes (NdefX.ncx (L2.CX P w) P w K mg base N_lam1 (lamNF 1 cl c') f A outer s H E) (WE' E) := takes_lam
  unfold m_lam1
  exact (pd_call c_is_least hr (Nat.le_trans (by decide) hj) tk0 (pda_cons (pd_call c_law_pick hr (Nat.le_trans (by decide) hj) tk0 (pda_cons (pd_val 0) (pda_cons (pd_lst (pda_cons pd_non (pda_cons pd_int (pda_cons (pd_tup (pda_cons (pd_ix2 hr (pd_val 1) pd_int) pda_nil)) pda_nil)))) pda_nil))) pda_nil))
theorem own_law {P : Program} {w : World} {K : PySem.W.Frag} {mg : Str → Option Value} {base : Heap} (G : Gr P K mg) (c_law_error : CalL P w K mg base 8 7 "_law_error" 1 F_law_error) (k_is_least : CalK P w K mg base 6 "is_least" s_is_least ["machine"] F_is_least) (c_is_least : Cal P w K mg base 6 "is_least" 1 F_is_least) (k_least_machine : CalK P w K mg base 6 "least_machine" s_least_machine ["machine"] F_least_machine) (c_least_machine : Cal P w K mg base 6 "least_machine" 1 F_least_machine) (c_law_is_machine : Cal P w K mg base 1 "_law_is_machine" 1 F_law_is_machine) (c_least_names : Cal P w K mg base 6 "least_names" 1 F_least_names) (c_law_names : Cal P w K mg base 2 "_law_names" 1 F_law_names) (c_law_machine : Cal P w K mg base 3 "_law_machine" 3 F_law_machine) (c_law_box : Cal P w K mg base 1 "_law_box" 2 F_law_box) (c_law_pick : Cal P w K mg base 2 "_law_pick" 2 F_law_pick) (f : Addr) (cdv : Value) (A : Around) (outer : List PySem.Env) (s : Shared) (H : Hp) (E : XK) : OwnL (cxOf (L2.CX P w) P w K mg base N_law "law" (defScope s_law) f cdv A outer s H E) 6 lams_law := by
  exact ⟨fun j hj => List.forall_mem_cons.mpr ⟨lamok0 G k_least_machine c_least_machine j hj, List.forall_mem_cons.mpr ⟨lamok1 G k_is_least c_is_least c_law_pick j hj, List.forall_mem_nil _⟩⟩, List.forall_mem_cons.mpr ⟨rfl, List.forall_mem_cons.mpr ⟨rfl, List.forall_mem_nil _⟩⟩, List.forall_mem_cons.mpr ⟨NdefX.ndef_free (fr := fr_lam0) (by kernel_rfl), List.forall_mem_cons.mpr ⟨NdefX.ndef_free (fr := fr_lam1) (by kernel_rfl), List.forall_mem_nil _⟩⟩⟩
theorem der_law {P : Program} {w : World} {K : PySem.W.Frag} {mg : Str → Option Value} {base : Heap} (G : Gr P K mg) (c_law_error : CalL P w K mg base 8 7 "_law_error" 1 F_law_error) (k_is_least : CalK P w K mg base 6 "is_least" s_is_least ["machine"] F_is_least) (c_is_least : Cal P w K mg base 6 "is_least" 1 F_is_least) (k_least_machine : CalK P w K mg base 6 "least_machine" s_least_machine ["machine"] F_least_machine) (c_least_machine : Cal P w K mg base 6 "least_machine" 1 F_least_machine) (c_law_is_machine : Cal P w K mg base 1 "_law_is_machine" 1 F_law_is_machine) (c_least_names : Cal P w K mg base 6 "least_names" 1 F_least_names) (c_law_names : Cal P w K mg base 2 "_law_names" 1 F_law_names) (c_law_machine : Cal P w K mg base 3 "_law_machine" 3 F_law_machine) (c_law_box : Cal P w K mg base 1 "_law_box" 2 F_law_box) (c_law_pick : Cal P w K mg base 2 "_law_pick" 2 F_law_pick) {S : Stn} {CT : D → FD} [HasH] (f : Addr) (cdv : Value) (A : Around) (outer : List PySem.Env) (s : Shared) (H : Hp) (E : XK) (hC : CallF P w K mg base 6 S CT) (hS : Sees (cxOf (L2.CX P w) P w K mg base N_law "law" (defScope s_law) f cdv A outer s H E) S) (hL : LamF (cxOf (L2.CX P w) P w K mg base N_law "law" (defScope s_law) f cdv A outer s H E)) (hr : Rm 8 (cxOf (L2.CX P w) P w K mg base N_law "law" (defScope s_law) f cdv A outer s H E).A) : PSDs (cxOf (L2.CX P w) P w K mg base N_law "law" (defScope s_law) f cdv A outer s H E) (WE' E) (defBody s_law) (m_law CT (cxOf (L2.CX P w) P w K mg base N_law "law" (defScope s_law) f cdv A outer s H E).env.cells) := by
  have hO := own_law (w := w) (base := base) G c_law_error k_is_least c_is_least k_least_machine c_least_machine c_law_is_machine c_least_names c_law_names c_law_machine c_law_box c_law_pick f cdv A outer s H E
  have tk0 : Takes (cxOf (L2.CX P w) P w K mg base N_law "law" (defScope s_law) f cdv A outer s H E) (WE' E) := takes_def
  have hp0 := own_def (P := P) (w := w) (K := K) (mg := mg) (base := base) (N := N_law) (qual := "law") (scope := defScope s_law) (f := f) (cdv := cdv) (A := A) (outer := outer) (s := s) (H := H) (E := E)
  unfold m_law
  exact (psd_cons (psd_set sc_law.nd (pd_tup (pda_cons (pd_tup (pda_cons (pd_tup (pda_cons pd_int (pda_cons pd_int (pda_cons pd_int (pda_cons pd_int pda_nil))))) (pda_cons (pd_tup (pda_cons pd_int (pda_cons pd_int (pda_cons pd_int (pda_cons pd_int pda_nil))))) pda_nil))) (pda_cons (pd_tup (pda_cons pd_int (pda_cons pd_int (pda_cons pd_int (pda_cons pd_int pda_nil))))) pda_nil)))) (psd_cons (psd_if (PDW.pdt (pdw_or (pdt_ne hr.r.units (pd_call c_least_machine hr (by decide) tk0 (pda_cons (pd_val 1) pda_nil)) (pd_tup (pda_cons (pd_tup (pda_cons (pd_tup (pda_cons pd_int (pda_cons pd_int (pda_cons pd_int pda_nil)))) (pda_cons (pd_tup (pda_cons pd_int (pda_cons pd_int (pda_cons pd_int pda_nil)))) pda_nil))) (pda_cons (pd_tup (pda_cons pd_int (pda_cons pd_int (pda_cons pd_int pda_nil)))) pda_nil)))) (pdw_or1 (pdt_ne hr.r.units (pd_call c_least_names hr (by decide) tk0 (pda_cons (pd_val 1) pda_nil)) (pd_tup (pda_cons pd_int (pda_cons pd_int (pda_cons pd_int (pda_cons pd_non pda_nil))))))))) (psd_one (psd_ret pd_bl)) psd_nil) (psd_cons (psd_for hp0 rfl (pid_range1 G.b_range (pda_cons pd_int pda_nil)) (pgd_name sc_law.nd) (psd_cons (psd_set sc_law.nd (pd_call c_law_box hr (by decide) tk0 (pda_cons (pd_val 0) (pda_cons (pd_val 2) pda_nil)))) (psd_cons (psd_set sc_law.nd (pd_call c_law_machine hr (by decide) tk0 (pda_cons (pd_val 3) (pda_cons pd_int (pda_cons pd_int pda_nil))))) (psd_cons (psd_set sc_law.nd (pd_callK0 (ord := [0]) (n := 1) k_least_machine [("machine" : Str)] hr (by decide) tk0 (pdk_cons (pd_lst (pda_cons (PDN.pd (pdn_listOf G.b_list (pd_ix2 hr (pd_val 4) pd_int))) (pda_cons (pd_ix2 hr (pd_val 4) pd_int) pda_nil))) pdk_nil) (fun _ _ _ _ _ _ us ws hu hw => match us, hu, ws, hw with | [], _, [_], _ => rfl))) (psd_cons (psd_set sc_law.nd (pd_call c_law_names hr (by decide) tk0 (pda_cons (pd_val 4) pda_nil))) (psd_cons (psd_set sc_law.nd (pd_len2 G.b_len (pda_cons (PDN.pd (pdn_comp (own := [("_law_name", 10)]) rfl sc_law.nd (pid_range1 G.b_range (pda_cons (pd_len2 G.b_len (pda_cons (pd_val 6) pda_nil)) pda_nil)) (by kernel_rfl) (fun _ _ _ _ _ => (pgd_name sc_law.nd)) (fun _ _ _ _ _ => (pdts_one (pdt_in2 hr (pd_val 10) (pd_val 6)))) (fun _ _ _ _ _ => (pd_val 10)) (by kernel_rfl))) pda_nil))) (psd_cons (psd_if (PDW.pdt (pdw_or (pdt_ne hr.r.units (pd_repr hr G.b_repr (pda_cons (pd_call c_least_names hr (by decide) tk0 (pda_cons (pd_val 4) pda_nil)) pda_nil)) (pd_repr hr G.b_repr (pda_cons (pd_val 6) pda_nil))) (pdw_or (pdt_not (pdt_val (pd_call c_law_is_machine hr (by decide) tk0 (pda_cons (pd_val 5) pda_nil)))) (pdw_or1 (pdt_ne hr.r.units (pd_len2 G.b_len (pda_cons (pd_ix2 hr (pd_val 5) pd_int) pda_nil)) (pd_val 7)))))) (psd_one (psd_ret pd_bl)) psd_nil) (psd_cons (psd_for hp0 rfl (pid_range1 G.b_range (pda_cons (pd_len2 G.b_len (pda_cons (pd_val 6) pda_nil)) pda_nil)) (pgd_name sc_law.nd) (psd_one (psd_if (pdt_notN (pd_ix2 hr (pd_val 6) (pd_val 8)) pd_non) (psd_cons (psd_if (pdt_ne hr.r.units (pd_ix2 hr (pd_ix2 hr (pd_val 5) pd_int) (pd_ix2 hr (pd_val 6) (pd_val 8))) (pd_ix2 hr (pd_ix2 hr (pd_val 4) pd_int) (pd_val 8))) (psd_one (psd_ret pd_bl)) psd_nil) (psd_cons (psd_setc (own := [("_law_row", 11)]) rfl sc_law.nd (pid_seq (pd_ix2 hr (pd_val 4) pd_int)) (by kernel_rfl) (fun _ _ _ _ _ => (pgd_name sc_law.nd)) (fun _ _ _ _ _ => pdts_nil) (fun _ _ _ _ _ => (pd_ix2 hr (pd_val 6) (pd_ix2 hr (pd_val 11) (pd_val 8)))) (by kernel_rfl)) (psd_one (psd_if (pdt_ne hr.r.units (pd_val 9) (PDN.pd (pdn_comp (own := [("_law_row", 11)]) rfl sc_law.nd (pid_seq (pd_ix2 hr (pd_val 5) pd_int)) (by kernel_rfl) (fun _ _ _ _ _ => (pgd_name sc_law.nd)) (fun _ _ _ _ _ => pdts_nil) (fun _ _ _ _ _ => (pd_ix2 hr (pd_val 11) (pd_ix2 hr (pd_val 6) (pd_val 8)))) (by kernel_rfl)))) (psd_one (psd_ret pd_bl)) psd_nil)))) psd_nil))) (psd_cons (psd_if (PDW.pdt (pdw_or (pdt_ne hr.r.units (pd_len2 G.b_len (pda_cons (pd_ix2 hr (pd_val 5) pd_int) pda_nil)) (pd_len2 G.b_len (pda_cons (pd_ix2 hr (pd_val 4) pd_int) pda_nil))) (pdw_or1 (pdt_ne hr.r.units (pd_repr hr G.b_repr (pda_cons (pd_call c_least_machine hr (by decide) tk0 (pda_cons (pd_val 5) pda_nil)) pda_nil)) (pd_repr hr G.b_repr (pda_cons (pd_val 5) pda_nil)))))) (psd_one (psd_ret pd_bl)) psd_nil) (psd_cons (psd_if (PDW.pdt (pdw_or (pdt_notB (pd_call c_is_least hr (by decide) tk0 (pda_cons (pd_val 5) pda_nil)) pd_bl) (pdw_or1 (pdt_ne hr.r.units (pd_repr hr G.b_repr (pda_cons (pd_callK0 (ord := [0]) (n := 1) k_is_least [("machine" : Str)] hr (by decide) tk0 (pdk_cons (pd_val 4) pdk_nil) (fun _ _ _ _ _ _ us ws hu hw => match us, hu, ws, hw with | [], _, [_], _ => rfl)) pda_nil)) (pd_repr hr G.b_repr (pda_cons (pd_eq hr.r.units (pd_val 4) (pd_val 5)) pda_nil)))))) (psd_one (psd_ret pd_bl)) psd_nil) (psd_cons (psd_if (pdt_ne hr.r.units (pd_callO (d := 1) c_law_error hS hC hO hr (by decide) (by decide) tk0 (pda_cons (pd_lam hL 0 rfl rfl (NdefX.ndef_free (fr := fr_lam0) (by kernel_rfl))) pda_nil)) pd_int) (psd_one (psd_ret pd_bl)) psd_nil) (psd_one (psd_if (pdt_ne hr.r.units (pd_callO (d := 1) c_law_error hS hC hO hr (by decide) (by decide) tk0 (pda_cons (pd_lam hL 1 rfl rfl (NdefX.ndef_free (fr := fr_lam1) (by kernel_rfl))) pda_nil)) (pd_neg pd_int)) (psd_one (psd_ret pd_bl)) psd_nil))))))))))))) (psd_one (psd_ret pd_bl)))))
def d_numbered_signs : He.DefD := ⟨("numbered_signs", none), "numbered_signs", "numbered_signs", defArgs s_numbered_signs, defBody s_numbered_signs, defScope s_numbered_signs, [], []⟩
def d_words_to : He.DefD := ⟨("words_to", none), "words_to", "words_to", defArgs s_words_to, defBody s_words_to, defScope s_words_to, [], []⟩
def d_finer_round : He.DefD := ⟨("finer_round", none), "finer_round", "finer_round", defArgs s_finer_round, defBody s_finer_round, defScope s_finer_round, [], []⟩
def d_rounds_of : He.DefD := ⟨("rounds_of", none), "rounds_of", "rounds_of", defArgs s_rounds_of, defBody s_rounds_of, defScope s_rounds_of, [], []⟩
def d_names_in_least : He.DefD := ⟨("names_in_least", none), "names_in_least", "names_in_least", defArgs s_names_in_least, defBody s_names_in_least, defScope s_names_in_least, [], []⟩
def d_least_of : He.DefD := ⟨("least_of", none), "least_of", "least_of", defArgs s_least_of, defBody s_least_of, defScope s_least_of, [], []⟩
def d_is_integer : He.DefD := ⟨("is_integer", none), "is_integer", "is_integer", defArgs s_is_integer, defBody s_is_integer, defScope s_is_integer, [], []⟩
def d_is_number : He.DefD := ⟨("is_number", none), "is_number", "is_number", defArgs s_is_number, defBody s_is_number, defScope s_is_number, [], []⟩
def d_is_below : He.DefD := ⟨("is_below", none), "is_below", "is_below", defArgs s_is_below, defBody s_is_below, defScope s_is_below, [], []⟩
def d_is_sequence : He.DefD := ⟨("is_sequence", none), "is_sequence", "is_sequence", defArgs s_is_sequence, defBody s_is_sequence, defScope s_is_sequence, [], []⟩
def d_is_row_below : He.DefD := ⟨("is_row_below", none), "is_row_below", "is_row_below", defArgs s_is_row_below, defBody s_is_row_below, defScope s_is_row_below, [], []⟩
def d_is_pair : He.DefD := ⟨("is_pair", none), "is_pair", "is_pair", defArgs s_is_pair, defBody s_is_pair, defScope s_is_pair, [], []⟩
def d_need_machine : He.DefD := ⟨("need_machine", none), "need_machine", "need_machine", defArgs s_need_machine, defBody s_need_machine, defScope s_need_machine, [], []⟩
def d_least_machine : He.DefD := ⟨("least_machine", none), "least_machine", "least_machine", defArgs s_least_machine, defBody s_least_machine, defScope s_least_machine, [], []⟩
def d_is_least : He.DefD := ⟨("is_least", none), "is_least", "is_least", defArgs s_is_least, defBody s_is_least, defScope s_is_least, [], []⟩
def d_law_take : He.DefD := ⟨("_law_take", none), "_law_take", "_law_take", defArgs s_law_take, defBody s_law_take, defScope s_law_take, [], []⟩
def d_law_pick : He.DefD := ⟨("_law_pick", none), "_law_pick", "_law_pick", defArgs s_law_pick, defBody s_law_pick, defScope s_law_pick, [], []⟩
def d_law_error : He.DefD := ⟨("_law_error", none), "_law_error", "_law_error", defArgs s_law_error, defBody s_law_error, defScope s_law_error, [], []⟩
def d_law_is_machine : He.DefD := ⟨("_law_is_machine", none), "_law_is_machine", "_law_is_machine", defArgs s_law_is_machine, defBody s_law_is_machine, defScope s_law_is_machine, [], []⟩
def d_least_names : He.DefD := ⟨("least_names", none), "least_names", "least_names", defArgs s_least_names, defBody s_least_names, defScope s_least_names, [], []⟩
def d_law_words : He.DefD := ⟨("_law_words", none), "_law_words", "_law_words", defArgs s_law_words, defBody s_law_words, defScope s_law_words, [], []⟩
def d_law_led : He.DefD := ⟨("_law_led", none), "_law_led", "_law_led", defArgs s_law_led, defBody s_law_led, defScope s_law_led, [], []⟩
def d_law_futures : He.DefD := ⟨("_law_futures", none), "_law_futures", "_law_futures", defArgs s_law_futures, defBody s_law_futures, defScope s_law_futures, [], []⟩
def d_law_names : He.DefD := ⟨("_law_names", none), "_law_names", "_law_names", defArgs s_law_names, defBody s_law_names, defScope s_law_names, [], []⟩
def d_law_map : He.DefD := ⟨("_law_map", none), "_law_map", "_law_map", defArgs s_law_map, defBody s_law_map, defScope s_law_map, [], []⟩
def d_law_machine : He.DefD := ⟨("_law_machine", none), "_law_machine", "_law_machine", defArgs s_law_machine, defBody s_law_machine, defScope s_law_machine, [], []⟩
def d_law_box : He.DefD := ⟨("_law_box", none), "_law_box", "_law_box", defArgs s_law_box, defBody s_law_box, defScope s_law_box, [], []⟩
def d_law : He.DefD := ⟨("law", none), "law", "law", defArgs s_law, defBody s_law, defScope s_law, [], []⟩
def fn : List He.DefD := [d_numbered_signs, d_words_to, d_finer_round, d_rounds_of, d_names_in_least, d_least_of, d_is_integer, d_is_number, d_is_below, d_is_sequence, d_is_row_below, d_is_pair, d_need_machine, d_least_machine, d_is_least, d_law_take, d_law_pick, d_law_error, d_law_is_machine, d_least_names, d_law_words, d_law_led, d_law_futures, d_law_names, d_law_map, d_law_machine, d_law_box, d_law]
def er : List ErD := [⟨"InvalidMachine", "InvalidMachine.__init__", "at", s_InvalidMachine⟩]
def fa : List He.Fa := [.glo "numbered_signs", .glo "words_to", .glo "finer_round", .glo "rounds_of", .glo "names_in_least", .glo "least_of", .glo "is_integer", .glo "is_number", .glo "is_below", .glo "is_sequence", .glo "is_row_below", .glo "is_pair", .glo "need_machine", .glo "least_machine", .glo "is_least", .glo "_law_take", .glo "_law_pick", .glo "_law_error", .glo "_law_is_machine", .glo "least_names", .glo "_law_words", .glo "_law_led", .glo "_law_futures", .glo "_law_names", .glo "_law_map", .glo "_law_machine", .glo "_law_box", .glo "law", .glo "TwinError", .glo "InvalidMachine", .free "abs", .free "all", .free "bool", .free "enumerate", .free "int", .free "isinstance", .free "len", .free "list", .free "max", .free "range", .free "repr", .free "tuple", .free "zip", .int "MOST_KINDS" 4, .int "MOST_STATES" 8, .int "READING_BOUND" 100]
def tf : List He.Defn := [(("law" : Str), none)]
def ex (_ : PySem.W.Frag) : Bool := true
abbrev R : PySem.W.OpenRow := PySem.W.OpenLaw.row PySem.Challenge.rw_forgetwhen_k03_whole_least_machines
abbrev file : Str := R.prog.main.file
abbrev hk : PySem.W.Hook := hookM 5 file fa fn er nm tf ex
def ob (s : PySem.W.SharedT) := obsM 5 file fa fn er nm tf ex (HandSHeadRun.getT s)
omit [HasX] in
theorem ob_eq (s : PySem.W.SharedT) : ob s = hk.obs s.abs := obsM_eq (HandSHeadRun.getT_eq s)
def loose : List Str := [("is_integer" : Str), ("is_number" : Str), ("is_below" : Str), ("is_sequence" : Str), ("is_pair" : Str), ("is_row_below" : Str), ("need_machine" : Str), ("words_to" : Str), ("numbered_signs" : Str), ("finer_round" : Str), ("rounds_of" : Str), ("names_in_least" : Str), ("least_names" : Str), ("least_of" : Str), ("least_machine" : Str), ("is_least" : Str), ("_law_box" : Str), ("_law_take" : Str), ("_law_pick" : Str), ("_law_map" : Str), ("_law_machine" : Str), ("_law_led" : Str), ("_law_words" : Str), ("_law_futures" : Str), ("_law_names" : Str), ("_law_is_machine" : Str), ("_law_error" : Str), ("TwinError" : Str), ("InvalidMachine" : Str), ("MOST_STATES" : Str), ("MOST_KINDS" : Str), ("READING_BOUND" : Str)]
omit [HasX] in
theorem run (w : World) : HandSHeadRun.RunEq R (PySem.W.view R.prog [37]) hk ob 40000 loose w := by
  intro os
  kernel_rfl
theorem gr {P : Program} {K : PySem.W.Frag} {h : Heap} {mg : Str → Option Value} (X : K.In h) (g : h.Ns mainGlobals mg) (hf : P.main.file = file) (top : (P.main.scope.names.lookup ("super" : Str)).isSome = false) (c : SaysN file fa fn er nm ex K) : Gr P K mg := by
  have glo : ∀ (i : Nat) (x : Str), fa[i]? = some (.glo x) → mg x = some (.ref (He.ga K x)) ∧ PySem.W.nsIn K mainGlobals x = some (some (.ref (He.ga K x))) := fun i x e => ⟨He.glo_ok X g (c.fact _ (List.mem_of_getElem? e)), He.eqO_ok (c.fact _ (List.mem_of_getElem? e))⟩
  have free : ∀ (i : Nat) (x : Str), fa[i]? = some (.free x) → mg x = none := fun i x e => He.free_ok X g (c.fact _ (List.mem_of_getElem? e))
  have num : ∀ (i : Nat) (x : Str) (j : Int), fa[i]? = some (.int x j) → ∃ t, mg x = some (.int j t) := fun i x j e => He.int_ok X g (c.fact _ (List.mem_of_getElem? e))
  have err : ∀ (i : Nat) (e : ErD), er[i]? = some e → InitF e.s e.f → Err P K mg e.x e.f := fun i e h t => err_of X g top c.a (by rw [hf]; exact (c.err i e h).1) (c.err i e h).2 t
  have err0 : ∀ (i : Nat) (e : ErD), er[i]? = some e → Init0 e.s → Err0 P K mg e.x := fun i e h t => err0_of X g top c.a (by rw [hf]; exact (c.err i e h).1) (c.err i e h).2 t
  exact ⟨free 30 _ rfl,
    free 31 _ rfl,
    free 32 _ rfl,
    free 33 _ rfl,
    free 34 _ rfl,
    free 35 _ rfl,
    free 36 _ rfl,
    free 37 _ rfl,
    free 38 _ rfl,
    free 39 _ rfl,
    free 40 _ rfl,
    free 41 _ rfl,
    free 42 _ rfl,
    num 43 _ _ rfl,
    num 44 _ _ rfl,
    num 45 _ _ rfl,
    glo 28 _ rfl,
    glo 29 _ rfl,
    err 0 ⟨_, _, _, _⟩ rfl ⟨_, _, _, _, _, _, _, _, _, _, _, _, _, _, rfl, rfl, rfl, rfl⟩,
    c.errs⟩
omit [HasX] in
theorem facts {P : Program} {w : World} {K : PySem.W.Frag} {h : Heap} {mg : Str → Option Value} {fl : Addr} (X : K.In h) (g : h.Ns mainGlobals mg) (hf : P.main.file = file) (top : (P.main.scope.names.lookup ("super" : Str)).isSome = false) (cm : SaysM file fa fn er nm tf ex h K) (hl : mg ("law" : Str) = some (.ref fl)) :
    ∃ fd : FuncData, (∀ (s : Shared) (v : Value), BindsTo s fd ⟨[v], []⟩ [("_law_script", v)]) ∧ ∀ base : Heap, K.In base → base.Ns mainGlobals mg → (∀ p ∈ tf.map (He.cT K), LamX.TabB base mg p.1 p.2) → FnG P w K mg base (L2.CX P w) 9 fl fd ["_law_script"] (@spOf _ (hasX K tf) ⟨[]⟩ K 1 (F_law ct0)) := by
  letI : HasX := hasX K tf
  letI : HasH := ⟨[]⟩
  have c := cm.t
  have G := gr (P := P) X g hf top c
  have glo : ∀ (i : Nat) (x : Str), fa[i]? = some (.glo x) → mg x = some (.ref (He.ga K x)) := fun i x e => He.glo_ok X g (c.fact _ (List.mem_of_getElem? e))
  obtain ⟨fd_numbered_signs, D_numbered_signs⟩ := c.def_ 0 d_numbered_signs rfl
  obtain ⟨fd_words_to, D_words_to⟩ := c.def_ 1 d_words_to rfl
  obtain ⟨fd_finer_round, D_finer_round⟩ := c.def_ 2 d_finer_round rfl
  obtain ⟨fd_rounds_of, D_rounds_of⟩ := c.def_ 3 d_rounds_of rfl
  obtain ⟨fd_names_in_least, D_names_in_least⟩ := c.def_ 4 d_names_in_least rfl
  obtain ⟨fd_least_of, D_least_of⟩ := c.def_ 5 d_least_of rfl
  obtain ⟨fd_is_integer, D_is_integer⟩ := c.def_ 6 d_is_integer rfl
  obtain ⟨fd_is_number, D_is_number⟩ := c.def_ 7 d_is_number rfl
  obtain ⟨fd_is_below, D_is_below⟩ := c.def_ 8 d_is_below rfl
  obtain ⟨fd_is_sequence, D_is_sequence⟩ := c.def_ 9 d_is_sequence rfl
  obtain ⟨fd_is_row_below, D_is_row_below⟩ := c.def_ 10 d_is_row_below rfl
  obtain ⟨fd_is_pair, D_is_pair⟩ := c.def_ 11 d_is_pair rfl
  obtain ⟨fd_need_machine, D_need_machine⟩ := c.def_ 12 d_need_machine rfl
  obtain ⟨fd_least_machine, D_least_machine⟩ := c.def_ 13 d_least_machine rfl
  obtain ⟨fd_is_least, D_is_least⟩ := c.def_ 14 d_is_least rfl
  obtain ⟨fd_law_take, D_law_take⟩ := c.def_ 15 d_law_take rfl
  obtain ⟨fd_law_pick, D_law_pick⟩ := c.def_ 16 d_law_pick rfl
  obtain ⟨fd_law_error, D_law_error⟩ := c.def_ 17 d_law_error rfl
  obtain ⟨fd_law_is_machine, D_law_is_machine⟩ := c.def_ 18 d_law_is_machine rfl
  obtain ⟨fd_least_names, D_least_names⟩ := c.def_ 19 d_least_names rfl
  obtain ⟨fd_law_words, D_law_words⟩ := c.def_ 20 d_law_words rfl
  obtain ⟨fd_law_led, D_law_led⟩ := c.def_ 21 d_law_led rfl
  obtain ⟨fd_law_futures, D_law_futures⟩ := c.def_ 22 d_law_futures rfl
  obtain ⟨fd_law_names, D_law_names⟩ := c.def_ 23 d_law_names rfl
  obtain ⟨fd_law_map, D_law_map⟩ := c.def_ 24 d_law_map rfl
  obtain ⟨fd_law_machine, D_law_machine⟩ := c.def_ 25 d_law_machine rfl
  obtain ⟨fd_law_box, D_law_box⟩ := c.def_ 26 d_law_box rfl
  obtain ⟨fd_law, D_law⟩ := c.def_ 27 d_law rfl
  have hlaw := glo 27 _ rfl
  have el := hl.symm.trans hlaw
  cases el
  refine ⟨fd_law, fun s v => D_law.bindsA (ps := ["_law_script"]) (fun _ _ _ _ _ _ us hl => match us, hl with | [_], _ => rfl) s [v] rfl, fun base _ _ tabs => ?_⟩
  have tb : ∀ p ∈ tf, LamX.TabB base mg (He.cT K p).1 (He.cT K p).2 := fun p hp => tabs _ (List.mem_map_of_mem hp)
  have c_numbered_signs : Cal P w K mg base 1 "numbered_signs" 1 F_numbered_signs := cal_mk (st := s_numbered_signs) D_numbered_signs (glo 0 _ rfl) sc_numbered_signs (by decide) (fun _ _ _ _ _ _ us hl => match us, hl with | [_], _ => rfl) (fun h cdv A outer s H E hr => der_numbered_signs G  _ cdv A outer s H E hr)
  have c_words_to : Cal P w K mg base 1 "words_to" 1 F_words_to := cal_mk (st := s_words_to) D_words_to (glo 1 _ rfl) sc_words_to (by decide) (fun _ _ _ _ _ _ us hl => match us, hl with | [_], _ => rfl) (fun h cdv A outer s H E hr => der_words_to G  _ cdv A outer s H E hr)
  have c_finer_round : Cal P w K mg base 2 "finer_round" 2 F_finer_round := cal_mk (st := s_finer_round) D_finer_round (glo 2 _ rfl) sc_finer_round (by decide) (fun _ _ _ _ _ _ us hl => match us, hl with | [_, _], _ => rfl) (fun h cdv A outer s H E hr => der_finer_round G c_numbered_signs _ cdv A outer s H E hr)
  have c_rounds_of : Cal P w K mg base 3 "rounds_of" 1 F_rounds_of := cal_mk (st := s_rounds_of) D_rounds_of (glo 3 _ rfl) sc_rounds_of (by decide) (fun _ _ _ _ _ _ us hl => match us, hl with | [_], _ => rfl) (fun h cdv A outer s H E hr => der_rounds_of G c_finer_round c_numbered_signs _ cdv A outer s H E hr)
  have c_names_in_least : Cal P w K mg base 4 "names_in_least" 1 F_names_in_least := cal_mk (st := s_names_in_least) D_names_in_least (glo 4 _ rfl) sc_names_in_least (by decide) (fun _ _ _ _ _ _ us hl => match us, hl with | [_], _ => rfl) (fun h cdv A outer s H E hr => der_names_in_least G c_numbered_signs c_words_to c_rounds_of _ cdv A outer s H E hr)
  have c_least_of : Cal P w K mg base 5 "least_of" 1 F_least_of := cal_mk (st := s_least_of) D_least_of (glo 5 _ rfl) sc_least_of (by decide) (fun _ _ _ _ _ _ us hl => match us, hl with | [_], _ => rfl) (fun h cdv A outer s H E hr => der_least_of G c_names_in_least _ cdv A outer s H E hr)
  have c_is_integer : Cal P w K mg base 1 "is_integer" 1 F_is_integer := cal_mk (st := s_is_integer) D_is_integer (glo 6 _ rfl) sc_is_integer (by decide) (fun _ _ _ _ _ _ us hl => match us, hl with | [_], _ => rfl) (fun h cdv A outer s H E hr => der_is_integer G  _ cdv A outer s H E hr)
  have c_is_number : Cal P w K mg base 2 "is_number" 1 F_is_number := cal_mk (st := s_is_number) D_is_number (glo 7 _ rfl) sc_is_number (by decide) (fun _ _ _ _ _ _ us hl => match us, hl with | [_], _ => rfl) (fun h cdv A outer s H E hr => der_is_number G c_is_integer _ cdv A outer s H E hr)
  have c_is_below : Cal P w K mg base 3 "is_below" 2 F_is_below := cal_mk (st := s_is_below) D_is_below (glo 8 _ rfl) sc_is_below (by decide) (fun _ _ _ _ _ _ us hl => match us, hl with | [_, _], _ => rfl) (fun h cdv A outer s H E hr => der_is_below G c_is_number _ cdv A outer s H E hr)
  have c_is_sequence : Cal P w K mg base 1 "is_sequence" 1 F_is_sequence := cal_mk (st := s_is_sequence) D_is_sequence (glo 9 _ rfl) sc_is_sequence (by decide) (fun _ _ _ _ _ _ us hl => match us, hl with | [_], _ => rfl) (fun h cdv A outer s H E hr => der_is_sequence G  _ cdv A outer s H E hr)
  have c_is_row_below : Cal P w K mg base 4 "is_row_below" 3 F_is_row_below := cal_mk (st := s_is_row_below) D_is_row_below (glo 10 _ rfl) sc_is_row_below (by decide) (fun _ _ _ _ _ _ us hl => match us, hl with | [_, _, _], _ => rfl) (fun h cdv A outer s H E hr => der_is_row_below G c_is_below c_is_sequence _ cdv A outer s H E hr)
  have c_is_pair : Cal P w K mg base 2 "is_pair" 1 F_is_pair := cal_mk (st := s_is_pair) D_is_pair (glo 11 _ rfl) sc_is_pair (by decide) (fun _ _ _ _ _ _ us hl => match us, hl with | [_], _ => rfl) (fun h cdv A outer s H E hr => der_is_pair G c_is_sequence _ cdv A outer s H E hr)
  have c_need_machine : Cal P w K mg base 5 "need_machine" 1 F_need_machine := cal_mk (st := s_need_machine) D_need_machine (glo 12 _ rfl) sc_need_machine (by decide) (fun _ _ _ _ _ _ us hl => match us, hl with | [_], _ => rfl) (fun h cdv A outer s H E hr => der_need_machine G c_is_row_below c_is_sequence c_is_pair _ cdv A outer s H E hr)
  have k_least_machine : CalK P w K mg base 6 "least_machine" s_least_machine ["machine"] F_least_machine := calK_mk (st := s_least_machine) D_least_machine (glo 13 _ rfl) sc_least_machine (by decide) (fun h cdv A outer s H E hr => der_least_machine G c_least_of c_need_machine _ cdv A outer s H E hr)
  have c_least_machine : Cal P w K mg base 6 "least_machine" 1 F_least_machine := k_least_machine.cal (fun _ _ _ _ _ _ us hl => match us, hl with | [_], _ => rfl)
  have k_is_least : CalK P w K mg base 6 "is_least" s_is_least ["machine"] F_is_least := calK_mk (st := s_is_least) D_is_least (glo 14 _ rfl) sc_is_least (by decide) (fun h cdv A outer s H E hr => der_is_least G c_least_of c_need_machine _ cdv A outer s H E hr)
  have c_is_least : Cal P w K mg base 6 "is_least" 1 F_is_least := k_is_least.cal (fun _ _ _ _ _ _ us hl => match us, hl with | [_], _ => rfl)
  have c_law_take : Cal P w K mg base 1 "_law_take" 2 F_law_take := cal_mk (st := s_law_take) D_law_take (glo 15 _ rfl) sc_law_take (by decide) (fun _ _ _ _ _ _ us hl => match us, hl with | [_, _], _ => rfl) (fun h cdv A outer s H E hr => der_law_take G  _ cdv A outer s H E hr)
  have c_law_pick : Cal P w K mg base 2 "_law_pick" 2 F_law_pick := cal_mk (st := s_law_pick) D_law_pick (glo 16 _ rfl) sc_law_pick (by decide) (fun _ _ _ _ _ _ us hl => match us, hl with | [_, _], _ => rfl) (fun h cdv A outer s H E hr => der_law_pick G c_law_take _ cdv A outer s H E hr)
  have c_law_error : CalL P w K mg base 8 7 "_law_error" 1 F_law_error := calL_mk (st := s_law_error) (kc := 7) (m := m_law_error) D_law_error (glo 17 _ rfl) sc_law_error (by decide) (fun _ _ _ _ _ _ us hl => match us, hl with | [_], _ => rfl) (fun h S CT cdv A outer s H E hC hS hcd hr => der_law_error G  _ cdv A outer s H E hC hS hr)
  have c_law_is_machine : Cal P w K mg base 1 "_law_is_machine" 1 F_law_is_machine := cal_mk (st := s_law_is_machine) D_law_is_machine (glo 18 _ rfl) sc_law_is_machine (by decide) (fun _ _ _ _ _ _ us hl => match us, hl with | [_], _ => rfl) (fun h cdv A outer s H E hr => der_law_is_machine G  _ cdv A outer s H E hr)
  have c_least_names : Cal P w K mg base 6 "least_names" 1 F_least_names := cal_mk (st := s_least_names) D_least_names (glo 19 _ rfl) sc_least_names (by decide) (fun _ _ _ _ _ _ us hl => match us, hl with | [_], _ => rfl) (fun h cdv A outer s H E hr => der_least_names G c_names_in_least c_need_machine _ cdv A outer s H E hr)
  have c_law_words : Cal P w K mg base 1 "_law_words" 2 F_law_words := cal_mk (st := s_law_words) D_law_words (glo 20 _ rfl) sc_law_words (by decide) (fun _ _ _ _ _ _ us hl => match us, hl with | [_, _], _ => rfl) (fun h cdv A outer s H E hr => der_law_words G  _ cdv A outer s H E hr)
  have c_law_led : Cal P w K mg base 1 "_law_led" 2 F_law_led := cal_mk (st := s_law_led) D_law_led (glo 21 _ rfl) sc_law_led (by decide) (fun _ _ _ _ _ _ us hl => match us, hl with | [_, _], _ => rfl) (fun h cdv A outer s H E hr => der_law_led G  _ cdv A outer s H E hr)
  have c_law_futures : Cal P w K mg base 1 "_law_futures" 2 F_law_futures := cal_mk (st := s_law_futures) D_law_futures (glo 22 _ rfl) sc_law_futures (by decide) (fun _ _ _ _ _ _ us hl => match us, hl with | [_, _], _ => rfl) (fun h cdv A outer s H E hr => der_law_futures G  _ cdv A outer s H E hr)
  have c_law_names : Cal P w K mg base 2 "_law_names" 1 F_law_names := cal_mk (st := s_law_names) D_law_names (glo 23 _ rfl) sc_law_names (by decide) (fun _ _ _ _ _ _ us hl => match us, hl with | [_], _ => rfl) (fun h cdv A outer s H E hr => der_law_names G c_law_words c_law_led c_law_futures _ cdv A outer s H E hr)
  have c_law_map : Cal P w K mg base 2 "_law_map" 2 F_law_map := cal_mk (st := s_law_map) D_law_map (glo 24 _ rfl) sc_law_map (by decide) (fun _ _ _ _ _ _ us hl => match us, hl with | [_, _], _ => rfl) (fun h cdv A outer s H E hr => der_law_map G c_law_take _ cdv A outer s H E hr)
  have c_law_machine : Cal P w K mg base 3 "_law_machine" 3 F_law_machine := cal_mk (st := s_law_machine) D_law_machine (glo 25 _ rfl) sc_law_machine (by decide) (fun _ _ _ _ _ _ us hl => match us, hl with | [_, _, _], _ => rfl) (fun h cdv A outer s H E hr => der_law_machine G c_law_take c_law_map _ cdv A outer s H E hr)
  have c_law_box : Cal P w K mg base 1 "_law_box" 2 F_law_box := cal_mk (st := s_law_box) D_law_box (glo 26 _ rfl) sc_law_box (by decide) (fun _ _ _ _ _ _ us hl => match us, hl with | [_, _], _ => rfl) (fun h cdv A outer s H E hr => der_law_box G  _ cdv A outer s H E hr)
  have mem_law : (("law" : Str), (none : Option Str)) ∈ tf := List.mem_of_getElem? (i := 0) rfl
  have lm_law : ∀ (cdv : Value) (A : Around) (outer : List PySem.Env) (s : Shared) (H : Hp) (E : XK), CodeIs K (He.fAd K ("law", none)) cdv → @LamF _ (cxOf (L2.CX P w) P w K mg base N_law "law" (defScope s_law) (He.fAd K ("law", none)) cdv A outer s H E) := fun cdv A outer s H E hcd => lamF_of D_law hcd mem_law cm.nd tb
  have z := lawO_fn (P := P) (w := w) (mg := mg) (base := base) (x := "law") (st := s_law) (N := N_law) (ps := ["_law_script"]) (k := 8) (kc := 6) (m := m_law) D_law sc_law (by decide) (fun h S CT cdv A outer s H E hC hS hcd hr => der_law G c_law_error k_is_least c_is_least k_least_machine c_least_machine c_law_is_machine c_least_names c_law_names c_law_machine c_law_box c_law_pick _ cdv A outer s H E hC hS (lm_law cdv A outer s H E hcd) hr)
  exact z
end W

namespace W
open PySem PySem.Spec L2 DL
open PyProof.Rows hiding St
/-! ### the source of draws -/
/-- a box: three numbers, none below 0 -/
def BoxOk (l : List D) : Prop := ∃ a b c : Int, l = [.int a, .int b, .int c] ∧ 0 ≤ a ∧ 0 ≤ b ∧ 0 ≤ c
theorem take_great {μ : Mu} {i : Nat} {a b c n : Int} (h : μ[i]? = some [.int a, .int b, .int c]) (ha : 0 < a) (hn : 0 < n) (hn2 : n < 1073741824) :
    F_law_take [.cell i, .int n] μ = .ok (.int (a % n)) (μ.set i [.int (a / n), .int b, .int c]) := by
  have hc : cMod a n = true := by simp [cMod, hn]
  have hd : cDiv a n = true := by simp [cDiv, hn, hn2]
  simp [F_law_take, mFn, m_law_take, env0, sNx, sSeq, sIf, sSet, setE, sRet, sPut, cellPut, mTest, mOp, mUn, mApp, mCons, mNil, mC, mVal, isB, fI, fB, fIx2, fIx, fInt, seqOf, h, L2.atI, L2.ixN, ha, hc, hd, SOut.out]
/-- what is drawn of numbers that are mixed -/
def mixR (b c : Int) : Int := ((b + 70207 * (c + 1)) * 61027 + 269) % 2147483563
def mixB (b c : Int) : Int := (mixR b c * 39079 + 21089) % 2147483629 + 1
theorem take_mixed {μ : Mu} {i : Nat} {b c n : Int} (h : μ[i]? = some [.int 0, .int b, .int c]) (hn : 0 < n) :
    F_law_take [.cell i, .int n] μ = .ok (.int ((mixR b c * 2147483647 + mixB b c) / 8191 % n)) (μ.set i [.int 0, .int (mixB b c), .int (c + 1)]) := by
  have hc : ∀ a : Int, cMod a n = true := fun a => by simp [cMod, hn]
  have hi : i < μ.length := (List.getElem?_eq_some_iff.mp h).1
  have g1 : ∀ l, (μ.set i l)[i]? = some l := fun l => List.getElem?_set_self hi
  have g2 : ∀ l l', (μ.set i l).set i l' = μ.set i l' := fun l l' => List.set_set ..
  have e1 : cMod ((b + 70207 * (c + 1)) * 61027 + 269) 2147483563 = true := rfl
  have e2 : ∀ x, cMod x 2147483629 = true := fun _ => rfl
  have e3 : ∀ x, cDiv x 8191 = true := fun _ => rfl
  have m1 : ∀ x, cMul x 61027 = true := fun x => by simp [cMul, lt64]
  have m2 : ∀ x, cMul 70207 x = true := fun x => by simp [cMul, lt64]
  have m3 : ∀ x, cMul x 39079 = true := fun x => by simp [cMul, lt64]
  have m4 : ∀ x, cMul x 2147483647 = true := fun x => by simp [cMul, lt64]
  simp [F_law_take, mFn, m_law_take, env0, sNx, sSeq, sIf, sSet, setE, sRet, sPut, cellPut, mTest, mOp, mUn, mApp, mCons, mNil, mC, mVal, isB, fI, fB, fIx2, fIx, fInt, fAdd, seqOf, h, L2.atI, L2.ixN, hc, e1, e2, e3, m1, m2, m3, m4, g1, g2, SOut.out, mixR, mixB]
theorem take_ok {μ : Mu} {i : Nat} {l : List D} {n : Int} (h : μ[i]? = some l) (b : BoxOk l) (hn : 0 < n) (hn2 : n < 1073741824) :
    ∃ (r : Int) (l' : List D), F_law_take [.cell i, .int n] μ = .ok (.int r) (μ.set i l') ∧ BoxOk l' ∧ 0 ≤ r ∧ r < n := by
  obtain ⟨a, b, c, rfl, h1, h2, h3⟩ := b
  by_cases ha : 0 < a
  · exact ⟨_, _, take_great h ha hn hn2, ⟨_, _, _, rfl, Int.ediv_nonneg h1 (by omega), h2, h3⟩, Int.emod_nonneg _ (by omega), Int.emod_lt_of_pos _ hn⟩
  · have e : a = 0 := by omega
    subst e
    have q1 : 0 ≤ mixB b c := by
      unfold mixB
      have := Int.emod_nonneg (mixR b c * 39079 + 21089) (b := 2147483629) (by omega)
      omega
    exact ⟨_, _, take_mixed h hn, ⟨_, _, _, rfl, by omega, q1, by omega⟩, Int.emod_nonneg _ (by omega), Int.emod_lt_of_pos _ hn⟩
/-- one of some things -/
theorem pick_ok {μ : Mu} {i : Nat} {l s : List D} {d : D} (h : μ[i]? = some l) (b : BoxOk l) (e : ∀ l', seqOf (μ.set i l') d = some s) (e0 : seqOf μ d = some s) (hs : s ≠ []) (hs2 : s.length < 1073741824) :
    ∃ (x : D) (l' : List D), F_law_pick [.cell i, d] μ = .ok x (μ.set i l') ∧ BoxOk l' ∧ x ∈ s := by
  have pos : 0 < s.length := List.length_pos_iff.mpr hs
  obtain ⟨r, l', e1, b1, r0, r1⟩ := take_ok (n := (s.length : Int)) h b (by omega) (by omega)
  have hlt : r.toNat < s.length := by omega
  have e2 : fLen2 [d] μ = .ok (.int s.length) μ := by
    unfold fLen2 fLen
    cases d with
    | str x => cases e0
    | dct ks vs => cases e0
    | _ => simp [e0]
  have e3 : L2.atI s r = some s[r.toNat] := by
    unfold L2.atI L2.ixN
    rw [if_pos r0, if_pos r1]
    simp [hlt]
  refine ⟨s[r.toNat], l', ?_, b1, List.getElem_mem _⟩
  have e4 : fIx2 d (.int r) (μ.set i l') = .ok s[r.toNat] (μ.set i l') := by
    have z : fIx d (.int r) (μ.set i l') = .ok s[r.toNat] (μ.set i l') := by
      unfold fIx
      rw [e l']
      simp only [e3]
    cases d with
    | dct ks vs => cases e0
    | _ => exact z
  simp [F_law_pick, mFn, m_law_pick, env0, sRet, mOp, mApp, mCons, mNil, mC, mVal, mCall, e2, e1, e4, SOut.out]
/-- the box made of a number v -/
def boxA (v : Int) : Int := if 10 ^ 18 ≤ v then v else 0
def boxB (v k : Int) : Int := (v % 2147483629 * 44041 + 51203 * k) % 2147483629 + 1
theorem box_tail {ns : List Int} {k v : Int} {μ : Mu} (hk : lt64 k = true) (hv : 0 ≤ v) :
    (sRet (mCell (mCons (mOp fIx2 (mApp fLst (mCons (mC (.int 0)) (mCons (mVal 2) mNil))) (mApp fInt (mCons (mOp fGe (mVal 2) (mOp fPow (mC (.int 10)) (mC (.int 18)))) mNil)))
      (mCons (mOp fAdd (mOp fMod (mApp fInt (mCons (mOp fAdd (mOp (fI cMul fun i j => i * j) (mOp fMod (mApp fInt (mCons (mVal 2) mNil)) (mC (.int 2147483629))) (mC (.int 44041)))
        (mOp (fI cMul fun i j => i * j) (mC (.int 51203)) (mVal 1))) mNil)) (mC (.int 2147483629))) (mC (.int 1))) (mCons (mC (.int 0)) mNil)))))
      [some (.val (.scr ns)), some (.val (.int k)), some (.val (.int v))] μ = .rt (.cell μ.length) (μ ++ [[.int (boxA v), .int (boxB v k), .int 0]]) := by
  have m1 : ∀ x, cMul x 44041 = true := fun x => by simp [cMul, lt64]
  have m2 : ∀ x, cMul 51203 x = true := fun x => by simp [cMul, lt64]
  have e2 : ∀ x, cMod x 2147483629 = true := fun _ => rfl
  have p1 : cPow 10 18 = true := by decide
  have l1 : line 2 = true := by decide
  have l2 : line 3 = true := by decide
  by_cases h : (10 : Int) ^ 18 ≤ v
  · have h' : (1000000000000000000 : Int) ≤ v := h
    simp [sRet, mCell, mCons, mOp, mApp, mNil, mC, mVal, fIx2, fIx, fLst, fInt, fB, fI, fAdd, seqOf, L2.atI, L2.ixN, m1, m2, e2, p1, l1, l2, boxA, boxB, h']
  · have h' : ¬ (1000000000000000000 : Int) ≤ v := h
    simp [sRet, mCell, mCons, mOp, mApp, mNil, mC, mVal, fIx2, fIx, fLst, fInt, fB, fI, fAdd, seqOf, L2.atI, L2.ixN, m1, m2, e2, p1, l1, l2, boxA, boxB, h']
theorem box_ok {ns : List Int} {k : Int} (hk : 0 ≤ k) (hk2 : k < 1000) (μ : Mu) : ∃ l, F_law_box [.scr ns, .int k] μ = .ok (.cell μ.length) (μ ++ [l]) ∧ BoxOk l := by
  have k64 : lt64 k = true := by simp [lt64]; omega
  have fin : ∀ v : Int, 0 ≤ v → BoxOk [.int (boxA v), .int (boxB v k), .int 0] := by
    intro v hv
    refine ⟨_, _, _, rfl, ?_, ?_, by omega⟩
    · unfold boxA; split <;> omega
    · unfold boxB
      have := Int.emod_nonneg (v % 2147483629 * 44041 + 51203 * k) (b := 2147483629) (by omega)
      omega
  have m0 : ∀ x, cMul 6037 x = true := fun x => by simp [cMul, lt64]
  have e0 : fLen2 [D.scr ns] μ = .ok (.int ns.length) μ := by simp [fLen2, fLen, seqOf]
  have base : 0 ≤ 6037 * k + 269 := by omega
  by_cases h1 : k < (ns.length : Int)
  · have hlt : k.toNat < ns.length := by omega
    have ix : L2.atI (ns.map D.int) k = some (.int ns[k.toNat]) := by
      unfold L2.atI L2.ixN
      rw [List.length_map, if_pos hk, if_pos h1]
      simp [hlt]
    have nn : 0 ≤ (if ns[k.toNat] < 0 then -ns[k.toNat] else ns[k.toNat]) := by split <;> omega
    refine ⟨_, ?_, fin _ nn⟩
    have t := box_tail (ns := ns) (μ := μ) k64 nn
    simp [F_law_box, mFn, m_law_box, env0, sNx, sSeq, sIf, sSet, setE, mTest, mOp, mApp, mCons, mNil, mC, mVal, isB, fI, fB, fAdd, m0, e0, h1, fIx2, fIx, seqOf, ix, fAbs, SOut.out] at t ⊢
    rw [t]
  · by_cases h2 : 0 < ns.length
    · have h2' : (0 : Int) < (ns.length : Int) := by omega
      have r0 := Int.emod_nonneg k (b := (ns.length : Int)) (by omega)
      have r1 := Int.emod_lt_of_pos k h2'
      have hlt : (k % (ns.length : Int)).toNat < ns.length := by omega
      have ix : L2.atI (ns.map D.int) (k % (ns.length : Int)) = some (.int ns[(k % (ns.length : Int)).toNat]) := by
        unfold L2.atI L2.ixN
        rw [List.length_map, if_pos r0, if_pos r1]
        simp [hlt]
      have cm : cMod k (ns.length : Int) = true := by simp [cMod]; omega
      have m1 : ∀ x, cMul x 70051 = true := fun x => by simp [cMul, lt64]
      have e2 : ∀ x, cMod x 2147483629 = true := fun _ => rfl
      have nn : 0 ≤ 6037 * k + 269 + (if ns[(k % (ns.length : Int)).toNat] < 0 then -ns[(k % (ns.length : Int)).toNat] else ns[(k % (ns.length : Int)).toNat]) % 2147483629 * 70051 := by
        have := Int.emod_nonneg (if ns[(k % (ns.length : Int)).toNat] < 0 then -ns[(k % (ns.length : Int)).toNat] else ns[(k % (ns.length : Int)).toNat]) (b := 2147483629) (by omega)
        omega
      refine ⟨_, ?_, fin _ nn⟩
      have t := box_tail (ns := ns) (μ := μ) k64 nn
      simp [F_law_box, mFn, m_law_box, env0, sNx, sSeq, sIf, sSet, setE, mTest, mOp, mApp, mCons, mNil, mC, mVal, isB, fI, fB, fAdd, m0, e0, h1, h2, fIx2, fIx, seqOf, ix, fAbs, fInt, cm, m1, e2, SOut.out] at t ⊢
      rw [t]
    · have h3 : ns = [] := by
        cases ns with
        | nil => rfl
        | cons _ _ => simp at h2
      subst h3
      refine ⟨_, ?_, fin _ base⟩
      have t := box_tail (ns := []) (μ := μ) k64 base
      have h4 : ¬ k < 0 := by omega
      simp [F_law_box, mFn, m_law_box, env0, sNx, sSeq, sIf, sSet, setE, mTest, mOp, mApp, mCons, mNil, mC, mVal, isB, fI, fB, fAdd, m0, e0, h4, SOut.out] at t ⊢
      rw [t]
end W
namespace W
open PySem PySem.Spec L2 DL
open PyProof.Rows hiding St
/-! ### kinds of values -/
theorem is_below_int (i m : Int) (μ : Mu) : F_is_below [.int i, .int m] μ = .ok (.bl (decide (0 ≤ i ∧ i < m))) μ := by
  have e1 : F_is_integer [.int i] μ = .ok (.bl true) μ := by kernel_rfl
  by_cases h1 : 0 ≤ i
  · by_cases h2 : i < m
    · simp [F_is_below, m_is_below, F_is_number, m_is_number, mFn, env0, sNx, sSeq, sIf, sSet, setE, sRet, mTest, mOp, mUn, mApp, mCons, mNil, mC, mVal, mVar, isB, fI, fB, mCall, SOut.out, mIf, mAndV, mNotV, mOrV, mAnd, mOr, mNot, e1, h1, h2]
    · simp [F_is_below, m_is_below, F_is_number, m_is_number, mFn, env0, sNx, sSeq, sIf, sSet, setE, sRet, mTest, mOp, mUn, mApp, mCons, mNil, mC, mVal, mVar, isB, fI, fB, mCall, SOut.out, mIf, mAndV, mNotV, mOrV, mAnd, mOr, mNot, e1, h1, h2]
  · simp [F_is_below, m_is_below, F_is_number, m_is_number, mFn, env0, sNx, sSeq, sIf, sSet, setE, sRet, mTest, mOp, mUn, mApp, mCons, mNil, mC, mVal, mVar, isB, fI, fB, mCall, SOut.out, mIf, mAndV, mNotV, mOrV, mAnd, mOr, mNot, e1, h1]
theorem is_seq_tup (l : List D) (μ : Mu) : F_is_sequence [.tup l] μ = .ok (.bl true) μ := by kernel_rfl
theorem is_seq_lst (l : List D) (μ : Mu) : F_is_sequence [.lst l] μ = .ok (.bl true) μ := by kernel_rfl
/-- a list or a tuple of these -/
def SeqIs (d : D) (l : List D) : Prop := d = .tup l ∨ d = .lst l
theorem SeqIs.seq {d : D} {l : List D} (h : SeqIs d l) (μ : Mu) : seqOf μ d = some l := by
  rcases h with rfl | rfl <;> rfl
theorem SeqIs.nd {d : D} {l : List D} (h : SeqIs d l) : ∀ ks vs, d ≠ .dct ks vs := by
  rcases h with rfl | rfl <;> intro ks vs z <;> cases z
theorem SeqIs.is {d : D} {l : List D} (h : SeqIs d l) (μ : Mu) : F_is_sequence [d] μ = .ok (.bl true) μ := by
  rcases h with rfl | rfl
  · exact is_seq_tup _ _
  · exact is_seq_lst _ _
theorem SeqIs.items {d : D} {l : List D} (h : SeqIs d l) : itemsOf d = some l := by
  rcases h with rfl | rfl <;> rfl
theorem SeqIs.len {d : D} {l : List D} (h : SeqIs d l) (μ : Mu) : fLen2 [d] μ = .ok (eI l.length) μ := len_seq d (h.seq μ) h.nd
theorem eq_int (i j : Int) (μ : Mu) : fEq (.int i) (.int j) μ = .ok (.bl (decide (i = j))) μ := by
  have e : SeqAt.shaped (.int i) = true := rfl
  have e' : SeqAt.shaped (.int j) = true := rfl
  show (if SeqAt.shaped (.int i) = true ∧ SeqAt.shaped (.int j) = true then Out.ok (D.bl (PyData.eqv (.int i) (.int j))) μ else .stuck) = _
  rw [if_pos ⟨e, e'⟩]
  rfl
theorem ne_int (i j : Int) (μ : Mu) : fNe (.int i) (.int j) μ = .ok (.bl (!decide (i = j))) μ := by
  have e : SeqAt.shaped (.int i) = true := rfl
  have e' : SeqAt.shaped (.int j) = true := rfl
  show (if SeqAt.shaped (.int i) = true ∧ SeqAt.shaped (.int j) = true then Out.ok (D.bl (!PyData.eqv (.int i) (.int j))) μ else .stuck) = _
  rw [if_pos ⟨e, e'⟩]
  rfl
theorem all_bools : ∀ (l : List Bool) (μ : Mu), fAll [.lst (l.map D.bl)] μ = .ok (.bl (l.all id)) μ := by
  intro l μ
  have e : ∀ l : List Bool, blsOf (l.map D.bl) = some l := by
    intro l
    induction l with
    | nil => rfl
    | cons b l ih =>
      show (blsOf (l.map D.bl)).map (b :: ·) = _
      rw [ih]
      rfl
  show optB ((some (l.map D.bl)).bind blsOf |>.map fun l => l.all id) μ = _
  rw [Option.bind_some, e]
  rfl
/-- a row of so many numbers below a bound -/
theorem is_row {d : D} {xs : List Nat} (h : SeqIs d (xs.map eI)) (len bound : Nat) (hl : xs.length ≤ 1000) (μ : Mu) :
    F_is_row_below [d, eI len, eI bound] μ = .ok (.bl (decide (xs.length = len) && xs.all fun x => decide (x < bound))) μ := by
  have e1 := h.is μ
  have e2 := h.len μ
  rw [List.length_map] at e2
  have e3 := eq_int xs.length len μ
  have e4 : compL (tgName 3) mYes (mCall 2 F_is_below (mCons (mVal 3) (mCons (mVal 2) mNil))) [some (.val d), some (.val (eI len)), some (.val (eI bound)), none] (xs.map eI) [] μ = .ok ((xs.map fun x => decide (x < bound)).map D.bl) μ := by
    rw [compL_all eI (fun x => D.bl (decide (x < bound))) xs (fun x hx => ?_) (by omega), List.map_map]
    · rfl
    · refine ⟨_, rfl, ?_⟩
      simp [mCall, mCons, mVal, mNil, setE, is_below_int]
  have e5 : fAll [D.lst (xs.map (D.bl ∘ fun x => decide (x < bound)))] μ = .ok (.bl (xs.all fun x => decide (x < bound))) μ := by
    have := all_bools (xs.map fun x => decide (x < bound)) μ
    rw [List.map_map] at this
    rw [this, List.all_map]
    rfl
  have e6 : ((xs.length : Int) = (len : Int)) ↔ xs.length = len := by omega
  have e7 : mSeq (mVal 0) [some (.val d), some (.val (eI len)), some (.val (eI bound)), none] μ = .ok (xs.map eI) μ := by
    simp [mSeq, mVal, h.items]
  by_cases hlen : xs.length = len
  · subst hlen
    simp [F_is_row_below, m_is_row_below, mFn, env0, sNx, sSeq, sIf, sSet, setE, sRet, mTest, mOp, mUn, mApp, mCons, mNil, mC, mVal, mVar, isB, fI, fB, mCall, SOut.out, mIf, mAndV, mNotV, mOrV, mAnd, mOr, mNot, e1, e2, e3, mLs, nComp, wipeE, e7, e4, e5]
  · simp [F_is_row_below, m_is_row_below, mFn, env0, sNx, sSeq, sIf, sSet, setE, sRet, mTest, mOp, mUn, mApp, mCons, mNil, mC, mVal, mVar, isB, fI, fB, mCall, SOut.out, mIf, mAndV, mNotV, mOrV, mAnd, mOr, mNot, e1, e2, e3, e6, hlen]
/-! ### machines -/
/-- a machine: its rows, its readings -/
structure Mac (maps : List (List Nat)) (reads : List Nat) : Prop where
  n1 : 1 ≤ reads.length
  n2 : reads.length ≤ 8
  k1 : 1 ≤ maps.length
  k2 : maps.length ≤ 4
  row : ∀ r ∈ maps, r.length = reads.length ∧ ∀ x ∈ r, x < reads.length
  rd : ∀ x ∈ reads, x < 100
abbrev eM (maps : List (List Nat)) (reads : List Nat) : D := .tup [.tup (maps.map eR), eR reads]
theorem chain_le (lo x hi : Int) (ρ : DL.Env) (μ : Mu) (m : SE) (h : m ρ μ = .ok (.int x) μ) : mChain fLe fLe (mC (.int lo)) m (mC (.int hi)) ρ μ = .ok (.bl (decide (lo ≤ x ∧ x ≤ hi))) μ := by
  by_cases h1 : lo ≤ x
  · by_cases h2 : x ≤ hi
    · simp [mChain, mFn, env0, sNx, sSeq, sIf, sSet, setE, sRet, mTest, mOp, mUn, mApp, mCons, mNil, mC, mVal, mVar, isB, fI, fB, mCall, SOut.out, mIf, mAndV, mNotV, mOrV, mAnd, mOr, mNot, h, h1, h2]
    · simp [mChain, mFn, env0, sNx, sSeq, sIf, sSet, setE, sRet, mTest, mOp, mUn, mApp, mCons, mNil, mC, mVal, mVar, isB, fI, fB, mCall, SOut.out, mIf, mAndV, mNotV, mOrV, mAnd, mOr, mNot, h, h1, h2]
  · simp [mChain, mFn, env0, sNx, sSeq, sIf, sSet, setE, sRet, mTest, mOp, mUn, mApp, mCons, mNil, mC, mVal, mVar, isB, fI, fB, mCall, SOut.out, mIf, mAndV, mNotV, mOrV, mAnd, mOr, mNot, h, h1]
theorem need_gen {maps : List (List Nat)} {reads : List Nat} (M : Mac maps reads) {a b d : D} (ha : SeqIs a (maps.map eR)) (hb : SeqIs b (reads.map eI)) (μ : Mu) (p1 : F_is_pair [d] μ = .ok (.bl true) μ) (i0 : fIx2 d (.int 0) μ = .ok a μ) (i1 : fIx2 d (.int 1) μ = .ok b μ)
    (tg0 : tgTup (tgCons (tgName 1) (tgCons (tgName 2) tgNil)) d [some (.val d), none, none, none, none] = some [some (.val d), some (.val a), some (.val b), none, none]) : F_need_machine [d] μ = .ok (eM maps reads) μ := by
  have l1 := ha.len μ
  have l2 := hb.len μ
  rw [List.length_map] at l1 l2
  have c1 : ∀ (ρ : DL.Env), ρ[1]? = some (some (.val a)) → mChain fLe fLe (mC (.int 1)) (mApp fLen2 (mCons (mVal 1) mNil)) (mC (.int 4)) ρ μ = .ok (.bl true) μ := fun ρ h => by
    rw [chain_le 1 maps.length 4 ρ μ _ (by simp [mFn, env0, sNx, sSeq, sIf, sSet, setE, sRet, mTest, mOp, mUn, mApp, mCons, mNil, mC, mVal, mVar, isB, fI, fB, mCall, SOut.out, mIf, mAndV, mNotV, mOrV, mAnd, mOr, mNot, h, l1])]
    have := M.k1
    have := M.k2
    rw [decide_eq_true (by omega)]
  have c2 : ∀ (ρ : DL.Env), ρ[2]? = some (some (.val b)) → mChain fLe fLe (mC (.int 1)) (mApp fLen2 (mCons (mVal 2) mNil)) (mC (.int 8)) ρ μ = .ok (.bl true) μ := fun ρ h => by
    rw [chain_le 1 reads.length 8 ρ μ _ (by simp [mFn, env0, sNx, sSeq, sIf, sSet, setE, sRet, mTest, mOp, mUn, mApp, mCons, mNil, mC, mVal, mVar, isB, fI, fB, mCall, SOut.out, mIf, mAndV, mNotV, mOrV, mAnd, mOr, mNot, h, l2])]
    have := M.n1
    have := M.n2
    rw [decide_eq_true (by omega)]
  have n2 := M.n2
  have rr : F_is_row_below [b, eI reads.length, .int 100] μ = .ok (.bl true) μ := by
    have z := is_row hb reads.length 100 (by omega) μ
    refine Eq.trans z ?_
    congr 2
    simp only [decide_true, Bool.true_and, List.all_eq_true, decide_eq_true_eq]
    exact M.rd
  have rm : ∀ r ∈ maps, F_is_row_below [eR r, eI reads.length, eI reads.length] μ = .ok (.bl true) μ := fun r hr => by
    rw [is_row (.inl rfl) _ _ (by rw [(M.row r hr).1]; omega)]
    congr 2
    simp only [(M.row r hr).1, decide_true, Bool.true_and, List.all_eq_true, decide_eq_true_eq]
    exact (M.row r hr).2
  obtain ⟨ρ', μ', e1, hI⟩ := forL_st (tg := tgTup (tgCons (tgName 3) (tgCons (tgName 4) tgNil))) (m := sIf (mNot (mTest (mCall 3 F_is_row_below (mCons (mVal 4) (mCons (mApp fLen2 (mCons (mVal 2) mNil)) (mCons (mApp fLen2 (mCons (mVal 2) mNil)) mNil)))))) (sRaise "InvalidMachine" "at" (mVal 3)) sNx)
    (fun p : List Nat × Nat => D.tup [eI p.2, eR p.1]) (fun (_ : Unit) _ => ()) (fun _ ρ μ1 => μ1 = μ ∧ ∃ x y, ρ = [some (.val d), some (.val a), some (.val b), x, y]) maps.zipIdx () [some (.val d), some (.val a), some (.val b), none, none] μ ⟨rfl, _, _, rfl⟩
    (by
      rintro ⟨r, i⟩ hp _ ρ μ1 ⟨rfl, x, y, rfl⟩
      have hr : r ∈ maps := (List.mem_zipIdx hp).2.2 ▸ List.getElem_mem _
      refine ⟨_, [some (.val d), some (.val a), some (.val b), some (.val (eI i)), some (.val (eR r))], μ1, rfl, .inl ?_, rfl, _, _, rfl⟩
      simp [mFn, env0, sNx, sSeq, sIf, sSet, setE, sRet, mTest, mOp, mUn, mApp, mCons, mNil, mC, mVal, mVar, isB, fI, fB, mCall, SOut.out, mIf, mAndV, mNotV, mOrV, mAnd, mOr, mNot, l2, rm r hr])
  obtain ⟨eμ, x, y, eρ⟩ := hI
  rw [eμ, eρ] at e1
  clear eμ eρ
  have en : enumL (maps.map eR) = maps.zipIdx.map fun p => D.tup [eI p.2, eR p.1] := by
    unfold enumL
    apply List.ext_getElem?
    intro i
    simp [List.getElem?_mapIdx, List.getElem?_zipIdx]
    cases maps[i]? <;> rfl
  have e2 : ∀ x, compL (tgName 4) mYes (mApp fTuple (mCons (mVal 4) mNil)) [some (.val d), some (.val a), some (.val b), x, none] (maps.map eR) [] μ = .ok (maps.map eR) μ := fun x => by
    have k2 := M.k2
    refine compL_all eR eR maps (fun r hr => ⟨_, rfl, ?_⟩) (by omega)
    simp [mFn, env0, sNx, sSeq, sIf, sSet, setE, sRet, mTest, mOp, mUn, mApp, mCons, mNil, mC, mVal, mVar, isB, fI, fB, mCall, SOut.out, mIf, mAndV, mNotV, mOrV, mAnd, mOr, mNot, fTuple, seqOf, DL.listOf]
  have e3 : fTuple [b] μ = .ok (eR reads) μ := by simp [fTuple, hb.seq μ]
  have e4 : ∀ ρ : DL.Env, ρ[1]? = some (some (.val a)) → mEnum (mVal 1) ρ μ = .ok (maps.zipIdx.map fun p => D.tup [eI p.2, eR p.1]) μ := fun ρ h => by
    simp [mEnum, mVal, h, ha.items, en]
  have e5 : ∀ ρ : DL.Env, ρ[1]? = some (some (.val a)) → mSeq (mVal 1) ρ μ = .ok (maps.map eR) μ := fun ρ h => by
    simp [mSeq, mVal, h, ha.items]
  have ln : line 2 = true := by decide
  have ft : ∀ l, fTuple [.lst l] μ = .ok (.tup l) μ := fun _ => rfl
  simp [F_need_machine, m_need_machine, mFn, env0, sNx, sSeq, sIf, sSet, setE, sRet, mTest, mOp, mUn, mApp, mCons, mNil, mC, mVal, mVar, isB, fI, fB, mCall, SOut.out, mIf, mAndV, mNotV, mOrV, mAnd, mOr, mNot, p1, i0, i1, ha.is μ, hb.is μ, sAsg, tg0, l2, c1, c2, sFor, e4, e1, rr, mLs, nComp, wipeE, e5, e2, e3, fTup, ft, ln]
theorem need_ok2 {maps : List (List Nat)} {reads : List Nat} (M : Mac maps reads) {a b d : D} (hd : SeqIs d [a, b]) (ha : SeqIs a (maps.map eR)) (hb : SeqIs b (reads.map eI)) (μ : Mu) : F_need_machine [d] μ = .ok (eM maps reads) μ := by
  rcases hd with rfl | rfl
  · exact need_gen M ha hb μ (by kernel_rfl) rfl rfl rfl
  · exact need_gen M ha hb μ (by kernel_rfl) rfl rfl rfl
theorem need_ok {maps : List (List Nat)} {reads : List Nat} (M : Mac maps reads) {a b : D} (ha : SeqIs a (maps.map eR)) (hb : SeqIs b (reads.map eI)) (μ : Mu) : F_need_machine [.tup [a, b]] μ = .ok (eM maps reads) μ := need_ok2 M (.inl rfl) ha hb μ
end W
namespace W
open PySem PySem.Spec L2 DL
open PyProof.Rows hiding St
/-! ### things numbered as first come to -/
theorem range_snoc (n : Nat) : (List.range' 0 n).map eI ++ [eI n] = (List.range' 0 (n + 1)).map eI := by
  rw [List.range'_concat, List.map_append]
  simp
theorem numbered {α : Type} [DecidableEq α] {enc : α → D} (heq : ∀ a b, kEq (enc a) (enc b) = decide (a = b)) (hk : (∀ x, (enc x).key.isSome = true) ∨ ∀ x, (enc x).keyT.isSome = true)
    {d : D} {l : List α} (h : SeqIs d (l.map enc)) (hl : l.length ≤ 1000) (μ : Mu) : F_numbered_signs [d] μ = .ok (eR (fcOf l)) μ := by
  have look := fun (x : α) (acc : List α) => look_names (enc := enc) heq x acc 0
  have ok := fun (x : α) (acc : List α) => dOk_key hk acc x
  have lnl : ∀ n, n ≤ 1000 → line n = true := fun n hn => decide_eq_true (by omega)
  obtain ⟨ρ', μ', e1, hI⟩ := forL_st (tg := tgName 2) (m := sIf (mTest (mOp (fIn2 true) (mVal 2) (mVar 1))) (sDicPut 1 (mVal 2) (mApp fLen2 (mCons (mVar 1) mNil))) sNx)
    enc addN (fun acc ρ μ1 => μ1 = μ ∧ (acc.Nodup ∧ ∀ y ∈ acc, y ∈ l) ∧ ∃ x, ρ = [some (.val d), some (.own (.dic (acc.map enc) ((List.range' 0 acc.length).map eI))), x]) l [] [some (.val d), some (.own (.dic [] [])), none] μ ⟨rfl, ⟨List.nodup_nil, fun y hy => by simp at hy⟩, _, rfl⟩
    (by
      rintro x hx acc ρ μ1 ⟨rfl, ⟨nd, sub⟩, y, rfl⟩
      have len := nodup_le acc l nd sub
      by_cases q : x ∈ acc
      · refine ⟨_, [some (.val d), some (.own (.dic (acc.map enc) ((List.range' 0 acc.length).map eI))), some (.val (enc x))], μ1, rfl, .inl ?_, rfl, ?_, some (.val (enc x)), ?_⟩
        · simp [mFn, env0, sNx, sSeq, sIf, sSet, setE, sRet, mTest, mOp, mUn, mApp, mCons, mNil, mC, mVal, mVar, isB, fI, fB, mCall, SOut.out, mIf, mAndV, mNotV, mOrV, mAnd, mOr, mNot, OwnC.val, fIn2, ok, look, q]
        · rw [addN, if_pos q]; exact ⟨nd, sub⟩
        · rw [addN, if_pos q]
      · refine ⟨_, [some (.val d), some (.own (.dic ((acc ++ [x]).map enc) ((List.range' 0 (acc ++ [x]).length).map eI))), some (.val (enc x))], μ1, rfl, .inl ?_, rfl, ?_, some (.val (enc x)), ?_⟩
        · have l1 : line (acc.map enc).length = true := lnl _ (by rw [List.length_map]; omega)
          have l2 : acc.length < 16777216 := by omega
          have pk : dPutK (acc.map enc) ((List.range' 0 acc.length).map eI) (enc x) = (acc ++ [x]).map enc := by
            simp [dPutK, look, q]
          have pv : dPutV (acc.map enc) ((List.range' 0 acc.length).map eI) (enc x) (eI acc.length) = (List.range' 0 (acc ++ [x]).length).map eI := by
            rw [List.length_append, List.length_singleton, ← range_snoc]
            simp [dPutV, look, q]
          have l1' : line acc.length = true := by rwa [List.length_map] at l1
          simp only [mFn, env0, sNx, sSeq, sIf, sSet, setE, sRet, mTest, mOp, mUn, mApp, mCons, mNil, mC, mVal, mVar, isB, fI, fB, mCall, SOut.out, mIf, mAndV, mNotV, mOrV, mAnd, mOr, mNot, OwnC.val, fIn2, ok, look, q, sDicPut, dicAt, fLen2, l1', List.length_map]
          simp [mFn, env0, sNx, sSeq, sIf, sSet, setE, sRet, mTest, mOp, mUn, mApp, mCons, mNil, mC, mVal, mVar, isB, fI, fB, mCall, SOut.out, mIf, mAndV, mNotV, mOrV, mAnd, mOr, mNot, OwnC.val, fIn2, ok, look, q, sDicPut, dicAt, fLen2, l1', pk, pv, l2]
        · rw [addN, if_neg q]
          refine ⟨?_, fun y hy => ?_⟩
          · have := addN_nodup (x := x) nd
            rwa [addN, if_neg q] at this
          · rcases List.mem_append.mp hy with z | z
            · exact sub y z
            · rw [List.mem_singleton.mp z]; exact hx
        · rw [addN, if_neg q])
  obtain ⟨eμ, ⟨nd, sub⟩, x, eρ⟩ := hI
  rw [eμ, eρ] at e1
  clear eμ eρ
  have e1 : forL (tgName 2) (sIf (mTest (mOp (fIn2 true) (mVal 2) (mVar 1))) (sDicPut 1 (mVal 2) (mApp fLen2 (mCons (mVar 1) mNil))) sNx) (l.map enc) [some (.val d), some (.own (.dic [] [])), none] μ = .nx [some (.val d), some (.own (.dic ((namesOf l).map enc) ((List.range' 0 (namesOf l).length).map eI))), x] μ := e1
  have e2 : compL (tgName 2) mYes (mOp fIx2 (mVar 1) (mVal 2)) [some (.val d), some (.own (.dic ((namesOf l).map enc) ((List.range' 0 (namesOf l).length).map eI))), none] (l.map enc) [] μ = .ok ((fcOf l).map eI) μ := by
    rw [compL_all enc (fun x => eI ((namesOf l).idxOf x)) l (fun x hx => ⟨_, rfl, ?_⟩) (by omega)]
    · simp [fcOf, Function.comp_def]
    · have m := names_mem.mpr hx
      simp [mFn, env0, sNx, sSeq, sIf, sSet, setE, sRet, mTest, mOp, mUn, mApp, mCons, mNil, mC, mVal, mVar, isB, fI, fB, mCall, SOut.out, mIf, mAndV, mNotV, mOrV, mAnd, mOr, mNot, OwnC.val, fIx2, ok, look, m]
  have e3 : ∀ ρ : DL.Env, ρ[0]? = some (some (.val d)) → mSeq (mVal 0) ρ μ = .ok (l.map enc) μ := fun ρ h0 => by
    simp [mSeq, mVal, h0, h.items]
  have ft : ∀ l, fTuple [.lst l] μ = .ok (.tup l) μ := fun _ => rfl
  simp [F_numbered_signs, m_numbered_signs, mFn, env0, sNx, sSeq, sIf, sSet, setE, sRet, mTest, mOp, mUn, mApp, mCons, mNil, mC, mVal, mVar, isB, fI, fB, mCall, SOut.out, mIf, mAndV, mNotV, mOrV, mAnd, mOr, mNot, sDicN, sFor, e3, e1, mLs, nComp, wipeE, e2, ft]
end W
namespace W
open PySem PySem.Spec L2 DL
open PyProof.Rows hiding St
/-! ### what the machine's functions say -/
theorem Mac.rows {maps : List (List Nat)} {reads : List Nat} (M : Mac maps reads) : Rows maps reads := fun r hr a ha => by
  obtain ⟨h1, h2⟩ := M.row r hr
  exact h2 _ (at0_mem (by omega))
theorem Mac.small {maps : List (List Nat)} {reads : List Nat} (M : Mac maps reads) (a : Nat) : at0 reads a < 100 := by
  rcases Nat.lt_or_ge a reads.length with h | h
  · exact M.rd _ (at0_mem h)
  · unfold at0
    rw [List.getD_eq_getElem?_getD, List.getElem?_eq_none h]
    exact Nat.lt_of_lt_of_le (by decide) (Nat.le_refl 100)
theorem tup_le {l : List D} (h : l.length ≤ 100000) (μ : Mu) : fTup l μ = .ok (.tup l) μ := by
  unfold fTup
  rw [if_pos (line_le h)]
theorem tup1 (d : D) (μ : Mu) : fTup [d] μ = .ok (.tup [d]) μ := tup_le (by simp) μ
theorem tup2 (d e : D) (μ : Mu) : fTup [d, e] μ = .ok (.tup [d, e]) μ := tup_le (by simp) μ
theorem tup3 (d e f : D) (μ : Mu) : fTup [d, e, f] μ = .ok (.tup [d, e, f]) μ := tup_le (by simp) μ
theorem ftL (l : List D) (μ : Mu) : fTuple [.lst l] μ = .ok (.tup l) μ := by
  unfold fTuple
  simp [seqOf]
theorem add_tup {x y : List D} (h : x.length + y.length ≤ 100000) (μ : Mu) : fAdd (.tup x) (.tup y) μ = .ok (.tup (x ++ y)) μ := by
  show (if line (x.length + y.length) = true then Out.ok (D.tup (x ++ y)) μ else .stuck) = _
  rw [if_pos (line_le h)]
theorem f0 {maps : List (List Nat)} {reads : List Nat} (M : Mac maps reads) {c : List Nat} (hc : c.length = reads.length) (μ : Mu) (n2 : reads.length ≤ 8) (k2 : maps.length ≤ 4) : fRng1 [eI reads.length] μ = .ok ((List.range reads.length).map eI) μ := fRng1_ok (by omega) μ
theorem f1 {maps : List (List Nat)} {reads : List Nat} (M : Mac maps reads) {c : List Nat} (hc : c.length = reads.length) (μ : Mu) (n2 : reads.length ≤ 8) (k2 : maps.length ≤ 4) : ∀ s, s < reads.length → ∀ ρ0 : DL.Env, ρ0 = [some (.val (.tup (maps.map eR))), some (.val (eR c)), some (.val (eI s)), none] →
      compL (tgName 3) mYes (mOp fIx2 (mVal 1) (mOp fIx2 (mVal 3) (mVal 2))) ρ0 (maps.map eR) [] μ = .ok (maps.map fun r => eI (at0 c (at0 r s))) μ := fun s hs ρ0 e => by
    refine compL_all eR (fun r => eI (at0 c (at0 r s))) maps (fun r hr => ⟨_, rfl, ?_⟩) (by omega)
    have a1 := ixR (l := r) (a := s) (by rw [(M.row r hr).1]; exact hs) μ
    have a2 := ixR (l := c) (a := at0 r s) (by rw [hc]; exact M.rows r hr s hs) μ
    subst e
    simp [mFn, env0, sNx, sSeq, sIf, sSet, setE, sRet, mTest, mOp, mUn, mApp, mCons, mNil, mC, mVal, mVar, isB, fI, fB, mCall, mIf, mAndV, mNotV, mOrV, mAnd, mOr, mNot, -DL.bnd_ok, -DL.go_ok, DL.bnd_okN, DL.go_okN, DL.out_rtN, DL.out_nxN, DL.out_exnN, a1, a2]
theorem f2 {maps : List (List Nat)} {reads : List Nat} (M : Mac maps reads) {c : List Nat} (hc : c.length = reads.length) (μ : Mu) (n2 : reads.length ≤ 8) (k2 : maps.length ≤ 4) (e1 : ∀ s, s < reads.length → ∀ ρ0 : DL.Env, ρ0 = [some (.val (.tup (maps.map eR))), some (.val (eR c)), some (.val (eI s)), none] →
      compL (tgName 3) mYes (mOp fIx2 (mVal 1) (mOp fIx2 (mVal 3) (mVal 2))) ρ0 (maps.map eR) [] μ = .ok (maps.map fun r => eI (at0 c (at0 r s))) μ) : compL (tgName 2) mYes (mOp fAdd (mApp fTup (mCons (mOp fIx2 (mVal 1) (mVal 2)) mNil)) (mApp fTuple (mCons (mLs (nComp (mSeq (mVal 0)) (tgName 3) mYes (mOp fIx2 (mVal 1) (mOp fIx2 (mVal 3) (mVal 2))) [3])) mNil)))
      [some (.val (.tup (maps.map eR))), some (.val (eR c)), none, none] ((List.range reads.length).map eI) [] μ = .ok (((List.range reads.length).map fun s => at0 c s :: maps.map fun r => at0 c (at0 r s)).map eR) μ := by
    rw [compL_all eI (fun s => eR (at0 c s :: maps.map fun r => at0 c (at0 r s))) (List.range reads.length) (fun s hs => ⟨_, rfl, ?_⟩) (by rw [List.length_range]; omega), List.map_map]
    · rfl
    · have hs := List.mem_range.mp hs
      have a1 := ixR (l := c) (a := s) (by rw [hc]; exact hs) μ
      have a2 := e1 s hs _ rfl
      have a3 := add_tup (x := [eI (at0 c s)]) (y := maps.map fun r => eI (at0 c (at0 r s))) (by simp; omega) μ
      have a4 : (fTuple [.lst (maps.map fun r => eI (at0 c (at0 r s)))] μ) = _ := ftL _ μ
      simp only [eR, List.map_map, Function.comp_def] at a2 a3 a4 ⊢
      simp [mFn, env0, sNx, sSeq, sIf, sSet, setE, sRet, mTest, mOp, mUn, mApp, mCons, mNil, mC, mVal, mVar, isB, fI, fB, mCall, mIf, mAndV, mNotV, mOrV, mAnd, mOr, mNot, -DL.bnd_ok, -DL.go_ok, DL.bnd_okN, DL.go_okN, DL.out_rtN, DL.out_nxN, DL.out_exnN, mLs, nComp, wipeE, mSeq, itemsOf, a1, a2, tup1, a4, a3]
theorem f3 {maps : List (List Nat)} {reads : List Nat} (M : Mac maps reads) {c : List Nat} (hc : c.length = reads.length) (μ : Mu) (n2 : reads.length ≤ 8) (k2 : maps.length ≤ 4) : F_numbered_signs [(.lst (((List.range reads.length).map fun s => at0 c s :: maps.map fun r => at0 c (at0 r s)).map eR))] μ = .ok (eR (fcOf ((List.range reads.length).map fun s => at0 c s :: maps.map fun r => at0 c (at0 r s)))) μ := numbered (enc := eR) kEq_R (.inr fun x => by rw [keyT_R]; rfl) (.inr rfl : SeqIs (.lst (((List.range reads.length).map fun s => at0 c s :: maps.map fun r => at0 c (at0 r s)).map eR)) _) (by simp; omega) μ
theorem finer {maps : List (List Nat)} {reads : List Nat} (M : Mac maps reads) {c : List Nat} (hc : c.length = reads.length) (μ : Mu) :
    F_finer_round [.tup (maps.map eR), eR c] μ = .ok (eR (fcOf ((List.range reads.length).map fun s => at0 c s :: maps.map fun r => at0 c (at0 r s)))) μ := by
  have n2 := M.n2
  have k2 := M.k2
  have l0 := lenR c μ
  rw [hc] at l0
  have e0 := fun (ρ : DL.Env) => rngLen (i := 1) (ρ := ρ) (n := reads.length) (by omega) l0
  have e2 := f2 M hc μ n2 k2 (f1 M hc μ n2 k2)
  have e3 := f3 M hc μ n2 k2
  generalize ((List.range reads.length).map fun s => at0 c s :: maps.map fun r => at0 c (at0 r s)) = L at e2 e3 ⊢
  generalize hd : D.lst (L.map eR) = dL at e3
  generalize eR (fcOf L) = out at e3 ⊢
  unfold F_finer_round m_finer_round
  generalize F_numbered_signs = F at e3 ⊢
  generalize mRng fRng1 (mCons (mApp fLen2 (mCons (mVal 1) mNil)) mNil) = mr at e0 ⊢
  generalize (List.range reads.length).map eI = L0 at e0 e2
  have w : wipeE [some (Slot.val (D.tup (maps.map eR))), some (.val (eR c)), none, none] [2] = [some (Slot.val (D.tup (maps.map eR))), some (.val (eR c)), none, none] := rfl
  simp [mFn, env0, sNx, sSeq, sIf, sSet, setE, sRet, mTest, mOp, mUn, mApp, mCons, mNil, mC, mVal, mVar, isB, fI, fB, mCall, mIf, mAndV, mNotV, mOrV, mAnd, mOr, mNot, -DL.bnd_ok, -DL.go_ok, DL.bnd_okN, DL.go_okN, DL.out_rtN, DL.out_nxN, DL.out_exnN, e0, mLs, nComp, w, e2, hd, e3]
theorem finer_cls {maps : List (List Nat)} {reads : List Nat} (M : Mac maps reads) (t : Nat) (μ : Mu) :
    F_finer_round [.tup (maps.map eR), eR (cls maps reads t)] μ = .ok (eR (cls maps reads (t + 1))) μ := by
  rw [finer M (cls_len t)]
  rw [cls_pat (t := t + 1)]
  intro a b ha hb
  rw [List.cons.injEq, List.map_inj_left, cls_at ha hb]
  constructor
  · rintro ⟨h1, h2⟩
    exact ⟨h1.rd, fun r hr => (cls_at (M.rows r hr a ha) (M.rows r hr b hb)).mp (h2 r hr)⟩
  · intro h
    exact ⟨h.down, fun r hr => (cls_at (M.rows r hr a ha) (M.rows r hr b hb)).mpr (h.2 r hr)⟩
theorem reads_cls {maps : List (List Nat)} {reads : List Nat} : fcOf reads = cls maps reads 0 := by
  have e : reads = (List.range reads.length).map (at0 reads) := by
    apply List.ext_getElem?
    intro i
    rcases Nat.lt_or_ge i reads.length with h | h
    · rw [at0_get h, rng_at h]
    · rw [List.getElem?_eq_none h, List.getElem?_eq_none (by simpa using h)]
  conv => lhs; rw [e]
  exact cls_pat (t := 0) _ fun a b _ _ => Iff.rfl
/-- the numbers of the classes, round for round -/
noncomputable abbrev eRs (maps : List (List Nat)) (reads : List Nat) (s : Nat) : List D := (List.range (s + 1)).map fun t => eR (cls maps reads t)
theorem cls_sm {maps : List (List Nat)} {reads : List Nat} (M : Mac maps reads) (t : Nat) : (eR (cls maps reads t)).sm = true := sm_R fun x hx => by
  have := fc_lt x hx
  have h2 : (namesOf ((List.range reads.length).map (tr maps reads t))).length ≤ reads.length := many_le t
  have := M.n2
  omega
noncomputable abbrev eρ (maps : List (List Nat)) (reads : List Nat) (x0 x4 : Option DL.Slot) (j : Nat) : DL.Env :=
  [x0, some (.own (.lst (eRs maps reads j))), some (.val (eR (cls maps reads (j + 1)))), some (.val (.tup (maps.map eR))), x4]
theorem while_go {t : ST'} {m : SS} {n : Nat} {ρ ρ2 : DL.Env} {μ : Mu} (h : t ρ μ = .ok true μ) (hm : m ρ μ = .nx ρ2 μ) : whileL t m (n + 1) ρ μ = whileL t m n ρ2 μ := by
  conv => lhs; unfold whileL
  rw [h, go_okN, if_pos rfl, hm]
theorem while_end {t : ST'} {m : SS} {n : Nat} {ρ : DL.Env} {μ : Mu} (h : t ρ μ = .ok false μ) : whileL t m (n + 1) ρ μ = .nx ρ μ := by
  conv => lhs; unfold whileL
  rw [h, go_okN, if_neg (by decide)]
theorem rounds_test {maps : List (List Nat)} {reads : List Nat} (M : Mac maps reads) (x0 x4 : Option DL.Slot) (μ : Mu) (j : Nat) (b : Bool) (hb : b = true ↔ cls maps reads (j + 1) = cls maps reads j) :
    mTest (mOp fNe (mVal 2) (mOp fIx2 (mVar 1) (mUn fNeg (mC (.int 1))))) (eρ maps reads x0 x4 j) μ = .ok (!b) μ := by
  have a1 := ixL (f := fun t => eR (cls maps reads t)) (n := j) μ
  have a2 := fNe_sm (cls_sm M (j + 1)) (cls_sm M j) (Nat.le_trans (lv_R _) (by decide)) (Nat.le_trans (lv_R _) (by decide)) (μ := μ) b (by rw [hb, eR_inj])
  simp [mFn, env0, sNx, sSeq, sIf, sSet, setE, sRet, mTest, mOp, mUn, mApp, mCons, mNil, mC, mVal, mVar, isB, fI, fB, mCall, mIf, mAndV, mNotV, mOrV, mAnd, mOr, mNot, -DL.bnd_ok, -DL.go_ok, DL.bnd_okN, DL.go_okN, DL.out_rtN, DL.out_nxN, DL.out_exnN, OwnC.val, a1, a2, fNeg]
theorem rounds_step {maps : List (List Nat)} {reads : List Nat} (M : Mac maps reads) (x0 x4 : Option DL.Slot) (μ : Mu) (j : Nat) (hj : j ≤ 1000) :
    sSeq (sApp 1 (mVal 2)) (sSet 2 (mCall 2 F_finer_round (mCons (mVal 3) (mCons (mVal 2) mNil)))) (eρ maps reads x0 x4 j) μ = .nx (eρ maps reads x0 x4 (j + 1)) μ := by
  have a3 := finer_cls M (j + 1) μ
  have e5 : eRs maps reads j ++ [eR (cls maps reads (j + 1))] = eRs maps reads (j + 1) := by
    show (List.range (j + 1)).map _ ++ [_] = (List.range (j + 1 + 1)).map _
    rw [List.range_succ (n := j + 1), List.map_append]
    rfl
  have l1 : (eRs maps reads j).length < 16777216 := by rw [List.length_map, List.length_range]; omega
  refine (seq_o (app_o (i := 1) rfl (val_o (i := 2) rfl) l1) (set_o (call2 (val_o (i := 3) rfl) (val_o (i := 2) rfl) a3))).trans ?_
  rw [e5]
  rfl
theorem rounds_loop {maps : List (List Nat)} {reads : List Nat} (M : Mac maps reads) {s : Nat} (hs : s ≤ 100) (e : cls maps reads (s + 1) = cls maps reads s) (ne : ∀ t, t < s → cls maps reads (t + 1) ≠ cls maps reads t) (μ : Mu) (x0 x4 : Option DL.Slot) : ∀ (k j fuel : Nat), j + k = s → k < fuel →
    whileL (mTest (mOp fNe (mVal 2) (mOp fIx2 (mVar 1) (mUn fNeg (mC (.int 1)))))) (sSeq (sApp 1 (mVal 2)) (sSet 2 (mCall 2 F_finer_round (mCons (mVal 3) (mCons (mVal 2) mNil))))) fuel (eρ maps reads x0 x4 j) μ = .nx (eρ maps reads x0 x4 s) μ := by
  intro k
  induction k with
  | zero =>
    intro j fuel h hf
    obtain ⟨f, rfl⟩ : ∃ f, fuel = f + 1 := ⟨fuel - 1, by omega⟩
    have h : j = s := by omega
    subst h
    exact while_end (rounds_test M x0 x4 μ j true (by simp only [true_iff]; exact e))
  | succ k ih =>
    intro j fuel h hf
    obtain ⟨f, rfl⟩ : ∃ f, fuel = f + 1 := ⟨fuel - 1, by omega⟩
    rw [while_go (rounds_test M x0 x4 μ j false (by simp only [Bool.false_eq_true, false_iff]; exact ne j (by omega))) (rounds_step M x0 x4 μ j (by omega))]
    exact ih (j + 1) f (by omega) (by omega)
/-- the machine's rounds -/
theorem rounds_of {maps : List (List Nat)} {reads : List Nat} (M : Mac maps reads) {s : Nat} (hs : s ≤ 100) (e : cls maps reads (s + 1) = cls maps reads s) (ne : ∀ t, t < s → cls maps reads (t + 1) ≠ cls maps reads t) (μ : Mu) :
    F_rounds_of [eM maps reads] μ = .ok (.lst (eRs maps reads s)) μ := by
  have n2 := M.n2
  have a1 := numbered (enc := eI) kEq_I (.inl fun x => rfl) (.inl rfl : SeqIs (eR reads) _) (by omega) μ
  rw [reads_cls (maps := maps)] at a1
  have a2 := finer_cls M 0 μ
  have a3 := ixL (f := fun t => eR (cls maps reads t)) (n := 0) μ
  have a4 := rounds_loop M hs e ne μ (some (.val (eM maps reads))) (some (.val (eR reads))) s 0 1000000 (by omega) (by omega)
  have l1 : line 1 = true := line_le (by omega)
  have e0 : eRs maps reads 0 = [eR (cls maps reads 0)] := rfl
  refine fn_rt (N := 5) rfl ?_
  refine seq_o (asg_o (val_o (i := 0) rfl) rfl) ?_
  refine seq_o (setN_o (disp1 (call1 (val_o (i := 4) rfl) a1))) ?_
  refine seq_o (set_o (call2 (val_o (i := 3) rfl) (op_o (var_o (i := 1) rfl) (show mUn fNeg (mC (.int 1)) _ _ = .ok (.int (-1)) μ from rfl) a3) a2)) ?_
  refine seq_o a4 ?_
  exact retO_o (i := 1) rfl
end W
namespace W
open PySem PySem.Spec L2 DL
open PyProof.Rows hiding St
/-! ### the law's own rounds -/
theorem shows_step {maps : List (List Nat)} {reads : List Nat} (M : Mac maps reads) (j : Nat) (x0 x1 x3 x6 x7 x8 : Option DL.Slot) (μ : Mu) :
    mLs (nComp (mRng fRng1 (mCons (mApp fLen2 (mCons (mVal 5) mNil)) mNil)) (tgName 7) mYes (mOp fAdd (mApp fTup (mCons (mOp fIx2 (mVal 5) (mVal 7)) mNil)) (mApp fTuple (mCons (mLs (nComp (mSeq (mVal 4)) (tgName 8) mYes (mOp fIx2 (mVal 2) (mOp fIx2 (mVal 8) (mVal 7))) [8])) mNil))) [7])
      [x0, x1, some (.val (.lst ((List.range reads.length).map (tr maps reads j)))), x3, some (.val (.tup (maps.map eR))), some (.val (eR reads)), x6, x7, x8] μ = .ok (.lst ((List.range reads.length).map (tr maps reads (j + 1)))) μ := by
  have n2 := M.n2
  have k2 := M.k2
  refine comp_o (rngLen (i := 5) (n := reads.length) (by omega) (lenR reads μ) rfl) (compL_all eI (tr maps reads (j + 1)) (List.range reads.length) (fun s hs => ⟨_, rfl, ?_⟩) (by rw [List.length_range]; omega))
  have hs := List.mem_range.mp hs
  refine op_o (ap1 (op_o (val_o (i := 5) rfl) (val_o (i := 7) rfl) (ixR hs μ)) (tup1 _ μ)) (ap1 (comp_o (seqI (l := maps.map eR) (val_o (i := 4) rfl) rfl) (compL_all eR (fun r => tr maps reads j (at0 r s)) maps (fun r hr => ⟨_, rfl, ?_⟩) (by omega))) (ftL _ μ)) ?_
  · exact op_o (val_o (i := 2) rfl) (op_o (val_o (i := 8) rfl) (val_o (i := 7) rfl) (ixR (l := r) (a := s) (by rw [(M.row r hr).1]; exact hs) μ)) (ixF (f := tr maps reads j) (M.rows r hr s hs) μ)
  · exact add_tup (by rw [List.length_map, List.length_singleton]; omega) μ
theorem shows_ok {maps : List (List Nat)} {reads : List Nat} (M : Mac maps reads) {t : Nat} (ht : t ≤ 1000) (μ : Mu) : F_law_futures [eM maps reads, eI t] μ = .ok (.lst ((List.range reads.length).map (tr maps reads t))) μ := by
  have n2 := M.n2
  have st := fun j => shows_step M j
  have e0 : reads.map (fun x => D.tup [eI x]) = (List.range reads.length).map (tr maps reads 0) := by
    apply List.ext_getElem?
    intro i
    rcases Nat.lt_or_ge i reads.length with h | h
    · rw [rng_at h, List.getElem?_map, at0_get h]; rfl
    · rw [List.getElem?_eq_none (by simpa using h), List.getElem?_eq_none (by simpa using h)]
  refine fn_rt (N := 9) rfl ?_
  refine seq_o (asg_o (val_o (i := 0) rfl) rfl) ?_
  refine seq_o (set_o (comp_o (seqI (l := reads.map eI) (val_o (i := 5) rfl) rfl) (compL_all eI (fun x => D.tup [eI x]) reads (fun x hx => ⟨_, rfl, ap1 (val_o (i := 6) rfl) (tup1 _ μ)⟩) (by omega)))) ?_
  rw [e0]
  obtain ⟨ρ', μ', e1, eμ, x3, eρ⟩ := forL_rng (tg := tgName 3) (m := sSet 2 (mLs (nComp (mRng fRng1 (mCons (mApp fLen2 (mCons (mVal 5) mNil)) mNil)) (tgName 7) mYes (mOp fAdd (mApp fTup (mCons (mOp fIx2 (mVal 5) (mVal 7)) mNil)) (mApp fTuple (mCons (mLs (nComp (mSeq (mVal 4)) (tgName 8) mYes (mOp fIx2 (mVal 2) (mOp fIx2 (mVal 8) (mVal 7))) [8])) mNil))) [7])))
    eI (fun j ρ μ1 => μ1 = μ ∧ ∃ x3, ρ = [some (.val (eM maps reads)), some (.val (eI t)), some (.val (.lst ((List.range reads.length).map (tr maps reads j)))), x3, some (.val (.tup (maps.map eR))), some (.val (eR reads)), none, none, none]) t 0
    [some (.val (eM maps reads)), some (.val (eI t)), some (.val (.lst ((List.range reads.length).map (tr maps reads 0)))), none, some (.val (.tup (maps.map eR))), some (.val (eR reads)), none, none, none] μ ⟨rfl, _, rfl⟩
    (by
      rintro j _ _ ρ μ1 ⟨rfl, x3, rfl⟩
      exact ⟨_, _, μ1, rfl, .inl (set_o (st j _ _ _ _ _ _ μ1)), rfl, _, rfl⟩)
  rw [eμ, eρ, Nat.zero_add] at e1
  refine seq_o (ρ1 := [some (.val (eM maps reads)), some (.val (eI t)), some (.val (.lst ((List.range reads.length).map (tr maps reads t)))), x3, some (.val (.tup (maps.map eR))), some (.val (eR reads)), none, none, none]) (μ1 := μ) (for_o (rng1 (n := t) (by omega) (val_o (i := 1) rfl)) ?_) (ret_o (val_o (i := 2) rfl))
  rw [List.range_eq_range' (n := t)]
  exact e1
end W
namespace W
open PySem PySem.Spec L2 DL
open PyProof.Rows hiding St
/-! ### drawn machines -/
def Bx (i : Nat) (μ : Mu) : Prop := ∃ l, μ[i]? = some l ∧ BoxOk l
theorem bx_set {i : Nat} {μ : Mu} {l : List D} (h : Bx i μ) (hl : BoxOk l) : Bx i (μ.set i l) := by
  obtain ⟨l0, h0, _⟩ := h
  obtain ⟨hi, _⟩ := List.getElem?_eq_some_iff.mp h0
  exact ⟨l, by rw [List.getElem?_set_self hi], hl⟩
theorem take_b {i n : Nat} {μ : Mu} (h : Bx i μ) (hn : 0 < n) (hn2 : n < 1000) : ∃ (r : Nat) (μ' : Mu), F_law_take [.cell i, eI n] μ = .ok (eI r) μ' ∧ Bx i μ' ∧ r < n := by
  obtain ⟨l, h0, b⟩ := h
  obtain ⟨r, l', e, b', r0, r1⟩ := take_ok (n := (n : Int)) h0 b (by omega) (by omega)
  refine ⟨r.toNat, _, ?_, bx_set ⟨l, h0, b⟩ b', by omega⟩
  rw [e]
  show Out.ok (D.int r) _ = Out.ok (D.int (r.toNat : Int)) _
  rw [show (r.toNat : Int) = r by omega]
theorem pick_b {i : Nat} {μ : Mu} {s : List D} (h : Bx i μ) (hs : s ≠ []) (hs2 : s.length < 1000) : ∃ (x : D) (μ' : Mu), F_law_pick [.cell i, .lst s] μ = .ok x μ' ∧ Bx i μ' ∧ x ∈ s := by
  obtain ⟨l, h0, b⟩ := h
  obtain ⟨x, l', e, b', hx⟩ := pick_ok (d := .lst s) (s := s) h0 b (fun _ => rfl) rfl hs (by omega)
  exact ⟨x, _, e, bx_set ⟨l, h0, b⟩ b', hx⟩
theorem list_ex {α β : Type} {f : α → β} {Q : α → Prop} : ∀ (ds : List β), (∀ d ∈ ds, ∃ a, d = f a ∧ Q a) → ∃ as : List α, ds = as.map f ∧ ∀ a ∈ as, Q a
  | [], _ => ⟨[], rfl, fun a h => by simp at h⟩
  | d :: ds, h => by
    obtain ⟨a, e, q⟩ := h d List.mem_cons_self
    obtain ⟨as, e2, q2⟩ := list_ex ds fun x hx => h x (List.mem_cons_of_mem _ hx)
    exact ⟨a :: as, by rw [e, e2]; rfl, fun x hx => by
      rcases List.mem_cons.mp hx with rfl | z
      · exact q
      · exact q2 x z⟩
/-- comprehensions that draw -/
theorem draw_list {α β : Type} {tg : TgD} {me : SE} {ρ0 : DL.Env} {i : Nat} (enc : α → D) (f : β → D) (Q : β → Prop) (xs : List α) (μ : Mu) (hb : Bx i μ) (hl : xs.length ≤ 1000)
    (h : ∀ x ∈ xs, ∀ μ, Bx i μ → ∃ ρ1 b μ', tg (enc x) ρ0 = some ρ1 ∧ me ρ1 μ = .ok (f b) μ' ∧ Bx i μ' ∧ Q b) : ∃ (bs : List β) (μ' : Mu), compL tg mYes me ρ0 (xs.map enc) [] μ = .ok (bs.map f) μ' ∧ Bx i μ' ∧ bs.length = xs.length ∧ ∀ b ∈ bs, Q b := by
  obtain ⟨ds, μ', e, hb', len, hp⟩ := compL_run (tg := tg) (me := me) (ρ0 := ρ0) enc (Bx i) (fun _ d => ∃ b, d = f b ∧ Q b) xs [] μ hb (fun x hx μ hμ => by
    obtain ⟨ρ1, b, μ', e1, e2, h1, h2⟩ := h x hx μ hμ
    exact ⟨ρ1, f b, μ', e1, e2, h1, b, rfl, h2⟩) (by simp; omega)
  obtain ⟨bs, rfl, hq⟩ := list_ex (f := f) (Q := Q) ds fun d hd => by
    obtain ⟨k, hk, rfl⟩ := List.mem_iff_getElem.mp hd
    have hx : k < xs.length := by omega
    exact hp k xs[k] ds[k] (List.getElem?_eq_getElem hx) (List.getElem?_eq_getElem hk)
  exact ⟨bs, μ', e, hb', by simpa using len, hq⟩
theorem putO_o {i n : Nat} {mi mv : SE} {ρ : DL.Env} {μ μ1 μ2 : Mu} {es : List D} {d : D} {j : Int} (ho : ρ[i]? = some (some (.own (.lst es)))) (hv : mv ρ μ = .ok d μ1) (hi : mi ρ μ1 = .ok (.int j) μ2) (hx : L2.ixN es.length j = some n) :
    sPutO i mi mv ρ μ = .nx (ρ.set i (some (.own (.lst (es.set n d))))) μ2 := by
  unfold sPutO ownAt
  rw [ho]
  simp only
  rw [hv, go_okN, hi, go_okN]
  simp only [hx]
  rfl
theorem ixN_nat {n j : Nat} (h : j < n) : L2.ixN n (j : Int) = some j := by
  unfold L2.ixN
  rw [if_pos (by omega), if_pos (by omega), Int.toNat_natCast]
theorem slice_o {m : SE} {lo hi : SOp} {ρ : DL.Env} {μ μ1 : Mu} {l : List D} {a b : Option Int} (h : m ρ μ = .ok (.lst l) μ1) (hl : lo ρ μ1 = .ok a μ1) (hh : hi ρ μ1 = .ok b μ1) : mSlice m lo hi ρ μ = .ok (.lst (DL.cutD l a b)) μ1 := by
  unfold mSlice
  rw [h, bnd_okN, hl, bnd_okN, hh, bnd_okN]
  rfl
theorem cat_o {ma mb : SE} {ρ : DL.Env} {μ μ1 μ2 : Mu} {x y : List D} (ha : ma ρ μ = .ok (.lst x) μ1) (hb : mb ρ μ1 = .ok (.lst y) μ2) (hl : x.length + y.length ≤ 16777216) : nCat ma mb ρ μ = .ok (x ++ y) μ2 := by
  unfold nCat
  rw [ha, bnd_okN, hb, bnd_okN]
  simp only [DL.listOf]
  rw [if_pos hl]
theorem cut_1 (l : List D) (h : 1 ≤ l.length) : DL.cutD l (some 1) none = l.drop 1 ∧ DL.cutD l none (some 1) = l.take 1 := by
  have e : HT.sIx l.length l.length (some 1) = 1 := (HT.sIx_nat l.length l.length 1).trans (by omega)
  have e2 : HT.sIx l.length 0 (some 1) = 1 := (HT.sIx_nat l.length 0 1).trans (by omega)
  have e3 : HT.sIx l.length l.length none = l.length := rfl
  have e4 : HT.sIx l.length 0 none = 0 := rfl
  unfold DL.cutD
  rw [e, e2, e3, e4]
  constructor
  · rw [List.take_of_length_le (by rw [List.length_drop]; omega)]
  · rfl
theorem rep_nat (n r : Nat) : repL n [eI r] = (List.replicate n r).map eI := by
  induction n with
  | zero => rfl
  | succ n ih =>
    show [eI r] ++ repL n [eI r] = _
    rw [ih, List.replicate_succ]
    rfl
def RowOk (n : Nat) (r : List Nat) : Prop := r.length = n ∧ ∀ x ∈ r, x < n
theorem law_map_ok {i n : Nat} {μ : Mu} (hb : Bx i μ) (n1 : 1 ≤ n) (n2 : n ≤ 8) : ∃ (r : List Nat) (μ' : Mu), F_law_map [.cell i, eI n] μ = .ok (eR r) μ' ∧ Bx i μ' ∧ RowOk n r := by
  obtain ⟨k, μ1, e1, b1, hk⟩ := take_b (n := 5) hb (by omega) (by omega)
  have eqk : ∀ (j : Nat) (b : Bool) (ρ : DL.Env) (m : Mu), ρ[2]? = some (some (.val (eI k))) → decide (k = j) = b → mTest (mOp fEq (mVal 2) (mC (eI j))) ρ m = .ok b m := fun j b ρ m hρ hb => by
    have := eqI k j m
    rw [hb] at this
    exact test_o (op_o (val_o hρ) c_o this)
  have rg : ∀ (ρ : DL.Env) (m : Mu), ρ[1]? = some (some (.val (eI n))) → nRg1 (mVal 1) ρ m = .ok ((List.range n).map eI) m := fun ρ m hρ => by
    unfold nRg1
    rw [val_o hρ, bnd_okN]
    show (if rgB 0 (n : Int) = true then Out.ok (rngL 0 ((n : Int) - 0).toNat) m else .stuck) = _
    rw [if_pos (by
      unfold rgB
      rw [Bool.and_eq_true, Bool.and_eq_true]
      exact ⟨⟨by decide, in62_nat (by omega)⟩, decide_eq_true (by omega)⟩), show ((n : Int) - 0).toNat = n by omega, rng0]
  by_cases q0 : k = 0
  · obtain ⟨r, μ2, e2, b2, hr⟩ := take_b (n := n) b1 (by omega) (by omega)
    refine ⟨List.replicate n r, μ2, ?_, b2, List.length_replicate, fun x hx => by rw [List.eq_of_mem_replicate hx]; exact hr⟩
    refine fn_rt (N := 5) rfl ?_
    refine seq_o (set_o (call2 (val_o (i := 0) rfl) c_o e1)) ?_
    refine seq_x (if_t (eqk 0 true _ _ rfl (decide_eq_true q0)) (ret_o (ap1 (ls_o (es := (List.replicate n r).map eI) ?_) (ftL _ μ2))))
    unfold nRep
    rw [ap1 (call2 (val_o (i := 0) rfl) (val_o (i := 1) rfl) e2) (show fLst [eI r] μ2 = .ok (.lst [eI r]) μ2 from rfl), bnd_okN, val_o (i := 1) (d := eI n) rfl, bnd_okN]
    show (if in62 (n : Int) = true ∧ [eI r].length * (n : Int).toNat ≤ 16777216 then Out.ok (repL (n : Int).toNat [eI r]) μ2 else .stuck) = _
    rw [if_pos ⟨in62_nat (by omega), by rw [List.length_singleton]; omega⟩, Int.toNat_natCast, rep_nat]
  · have fin : ∀ (row : List Nat) (x4 : Option DL.Slot) (m : SS) (μ2 : Mu), m [some (.val (.cell i)), some (.val (eI n)), some (.val (eI k)), some (.own (.lst ((List.range n).map eI))), none] μ1 = .nx [some (.val (.cell i)), some (.val (eI n)), some (.val (eI k)), some (.own (.lst (row.map eI))), x4] μ2 →
        sSeq (sSet 2 (mCall 2 F_law_take (mCons (mVal 0) (mCons (mC (.int 5)) mNil)))) (sSeq (sIf (mTest (mOp fEq (mVal 2) (mC (.int 0)))) (sRet (mApp fTuple (mCons (mLs (nRep (mApp fLst (mCons (mCall 2 F_law_take (mCons (mVal 0) (mCons (mVal 1) mNil))) mNil)) (mVal 1))) mNil))) sNx) (sSeq (sSetN 3 (nRg1 (mVal 1))) (sSeq m (sRet (mApp fTuple (mCons (mVar 3) mNil)))))) (env0 5 [.cell i, eI n]) μ = .rt (eR row) μ2 := fun row x4 m μ2 h => by
      refine seq_o (set_o (call2 (val_o (i := 0) rfl) c_o e1)) ?_
      refine seq_o (if_f (eqk 0 false _ _ rfl (decide_eq_false q0)) nx_o) ?_
      refine seq_o (setN_o (rg _ _ rfl)) ?_
      exact seq_o h (ret_o (ap1 (var_o (i := 3) rfl) (ftL _ μ2)))
    by_cases q1 : k = 1
    · obtain ⟨r, μ2, e2, b2, hr⟩ := take_b (n := n) b1 (by omega) (by omega)
      obtain ⟨j, μ3, e3, b3, hj⟩ := take_b (n := n) b2 (by omega) (by omega)
      refine ⟨(List.range n).set j r, μ3, fn_rt (N := 5) rfl (fin _ none _ _ ?_), b3, by rw [List.length_set, List.length_range], fun x hx => ?_⟩
      · refine if_t (eqk 1 true _ _ rfl (decide_eq_true q1)) ?_
        refine (putO_o (i := 3) rfl (call2 (val_o (i := 0) rfl) (val_o (i := 1) rfl) e2) (call2 (val_o (i := 0) rfl) (val_o (i := 1) rfl) e3) (ixN_nat (by rw [List.length_map, List.length_range]; exact hj))).trans ?_
        rw [← List.map_set]
        rfl
      · rcases List.mem_or_eq_of_mem_set hx with z | z
        · exact List.mem_range.mp z
        · rw [z]; exact hr
    · by_cases q2 : k = 2
      · refine ⟨(List.range n).drop 1 ++ (List.range n).take 1, μ1, fn_rt (N := 5) rfl (fin _ none _ _ ?_), b1, ?_, fun x hx => ?_⟩
        · refine if_f (eqk 1 false _ _ rfl (decide_eq_false q1)) (if_t (eqk 2 true _ _ rfl (decide_eq_true q2)) ?_)
          have cl : 1 ≤ ((List.range n).map eI).length := by rw [List.length_map, List.length_range]; exact n1
          obtain ⟨c1, c2⟩ := cut_1 _ cl
          refine (setN_o (cat_o (slice_o (show mVar 3 _ _ = .ok (.lst ((List.range n).map eI)) μ1 from rfl) (show oSome (mC (.int 1)) _ _ = .ok (some 1) μ1 from rfl) (show oNone _ _ = .ok none μ1 from rfl)) (slice_o (show mVar 3 _ _ = .ok (.lst ((List.range n).map eI)) μ1 from rfl) (show oNone _ _ = .ok none μ1 from rfl) (show oSome (mC (.int 1)) _ _ = .ok (some 1) μ1 from rfl)) (by rw [c1, c2, List.length_drop, List.length_take, List.length_map, List.length_range]; omega))).trans ?_
          rw [c1, c2, List.map_append, List.map_drop, List.map_take]
          rfl
        · rw [List.length_append, List.length_drop, List.length_take, List.length_range]; omega
        · rcases List.mem_append.mp hx with z | z
          · exact List.mem_range.mp (List.mem_of_mem_drop z)
          · exact List.mem_range.mp (List.mem_of_mem_take z)
      · obtain ⟨bs, μ2, e2, b2, len, hq⟩ := draw_list (tg := tgName 4) (me := mCall 2 F_law_take (mCons (mVal 0) (mCons (mVal 1) mNil))) (ρ0 := [some (.val (.cell i)), some (.val (eI n)), some (.val (eI k)), some (.val (.lst ((List.range n).map eI))), none]) (i := i) eI eI (fun x => x < n) (List.range n) μ1 b1 (by rw [List.length_range]; omega) (fun x hx μ hμ => by
          obtain ⟨r, μ', e, b, hr⟩ := take_b (n := n) hμ (by omega) (by omega)
          exact ⟨_, r, μ', rfl, call2 (val_o (i := 0) rfl) (val_o (i := 1) rfl) e, b, hr⟩)
        refine ⟨bs, μ2, fn_rt (N := 5) rfl (fin _ none _ _ ?_), b2, by rw [len, List.length_range], hq⟩
        refine if_f (eqk 1 false _ _ rfl (decide_eq_false q1)) (if_f (eqk 2 false _ _ rfl (decide_eq_false q2)) ?_)
        refine frz_o (i := 3) rfl (setN_o (ncomp_o (seqI (l := (List.range n).map eI) (val_o (i := 3) rfl) rfl) ?_))
        exact e2
theorem law_machine_ok {i : Nat} {μ : Mu} (hb : Bx i μ) : ∃ (maps : List (List Nat)) (reads : List Nat) (μ' : Mu), F_law_machine [.cell i, .int 6, .int 2] μ = .ok (eM maps reads) μ' ∧ Bx i μ' ∧ Mac maps reads ∧ maps.length ≤ 2 := by
  obtain ⟨n0, μ1, e1, b1, h1⟩ := take_b (n := 6) hb (by omega) (by omega)
  obtain ⟨k0, μ2, e2, b2, h2⟩ := take_b (n := 2) b1 (by omega) (by omega)
  have add : ∀ (r : Nat) (m : Mu), fAdd (.int 1) (eI r) m = .ok (eI (1 + r)) m := fun r m => by
    have : fAdd (.int 1) (eI r) m = .ok (.int (1 + (r : Int))) m := rfl
    rw [this, show (1 + (r : Int)) = ((1 + r : Nat) : Int) by omega]
  obtain ⟨maps, μ3, e3, b3, len3, q3⟩ := draw_list (tg := tgName 6) (me := mCall 2 F_law_map (mCons (mVal 0) (mCons (mVal 3) mNil))) (ρ0 := [some (.val (.cell i)), some (.val (.int 6)), some (.val (.int 2)), some (.val (eI (1 + n0))), none, none, none, none]) (i := i) eI eR (RowOk (1 + n0)) (List.range (1 + k0)) μ2 b2 (by rw [List.length_range]; omega) (fun x hx μ hμ => by
    obtain ⟨r, μ', e, b, hr⟩ := law_map_ok (n := 1 + n0) hμ (by omega) (by omega)
    exact ⟨_, r, μ', rfl, call2 (val_o (i := 0) rfl) (val_o (i := 3) rfl) e, b, hr⟩)
  obtain ⟨s0, μ4, e4, b4, h4⟩ := take_b (n := 3) b3 (by omega) (by omega)
  obtain ⟨reads, μ5, e5, b5, len5, q5⟩ := draw_list (tg := tgName 7) (me := mCall 2 F_law_take (mCons (mVal 0) (mCons (mVal 5) mNil))) (ρ0 := [some (.val (.cell i)), some (.val (.int 6)), some (.val (.int 2)), some (.val (eI (1 + n0))), some (.val (.lst (maps.map eR))), some (.val (eI (1 + s0))), none, none]) (i := i) eI eI (fun x => x < 1 + s0) (List.range (1 + n0)) μ4 b4 (by rw [List.length_range]; omega) (fun x hx μ hμ => by
    obtain ⟨r, μ', e, b, hr⟩ := take_b (n := 1 + s0) hμ (by omega) (by omega)
    exact ⟨_, r, μ', rfl, call2 (val_o (i := 0) rfl) (val_o (i := 5) rfl) e, b, hr⟩)
  rw [List.length_range] at len3 len5
  refine ⟨maps, reads, μ5, ?_, b5, ⟨by omega, by omega, by omega, by omega, fun r hr => by rw [len5]; exact q3 r hr, fun x hx => by have := q5 x hx; omega⟩, by omega⟩
  refine fn_rt (N := 8) rfl ?_
  refine seq_o (set_o (op_o c_o (call2 (val_o (i := 0) rfl) (val_o (i := 1) rfl) e1) (add n0 μ1))) ?_
  refine seq_o (set_o (comp_o (rng1 (n := 1 + k0) (by omega) (op_o c_o (call2 (val_o (i := 0) rfl) (val_o (i := 2) rfl) e2) (add k0 μ2))) e3)) ?_
  refine seq_o (set_o (op_o c_o (call2 (val_o (i := 0) rfl) c_o e4) (add s0 μ4))) ?_
  exact ret_o (ap2 (ap1 (val_o (i := 4) rfl) (ftL _ μ4)) (ap1 (comp_o (rng1 (n := 1 + n0) (by omega) (val_o (i := 3) rfl)) e5) (ftL _ μ5)) (tup2 _ _ μ5))
end W
namespace W
open PySem PySem.Spec L2 DL
open PyProof.Rows hiding St
local macro_rules | `(tactic| array_get_dec) => `(tactic| repeat (first
  | (with_reducible apply val_o); rfl
  | with_reducible exact c_o
  | (with_reducible apply var_v); rfl
  | (with_reducible apply var_l); rfl
  | (with_reducible apply var_dd); rfl
  | with_reducible exact nx_o
  | with_reducible exact negc _
  | with_reducible assumption
  | with_reducible apply seq_o
  | with_reducible apply set_o
  | with_reducible apply setN_o
  | (with_reducible apply asg_o); rotate_left; rfl; rotate_right
  | with_reducible apply ret_o
  | (with_reducible apply retO_o); rfl
  | (with_reducible apply frz_o); rfl
  | with_reducible apply if_b
  | with_reducible apply br_t
  | with_reducible apply br_f
  | with_reducible apply call1
  | with_reducible apply call2
  | with_reducible apply call3
  | with_reducible apply call4
  | with_reducible apply op_o
  | with_reducible apply test_o
  | with_reducible apply ap1
  | with_reducible apply ap2
  | with_reducible apply ap3
  | with_reducible apply not_o
  | with_reducible apply or_o
  | with_reducible apply and_o
  | with_reducible apply ife_o
  | with_reducible apply un_o
  | with_reducible apply index_o
  | with_reducible exact tup1 _ _
  | with_reducible exact tup2 _ _ _
  | with_reducible exact ftL _ _
  | with_reducible exact lenR _ _
  | with_reducible exact lenM _ _ _
  | with_reducible apply comp_o
  | with_reducible apply ncomp_o
  | with_reducible apply ls_o
  | with_reducible exact disp0
  | with_reducible apply disp1
  | (with_reducible apply seqI); rotate_left; rfl; rotate_right
  | (with_reducible apply enumI); rotate_left; rfl; rotate_right))
/-! ### least machines as the program makes them -/
abbrev kP (P : List Pr) : List D := P.map fun p => eI p.1
abbrev vP (P : List Pr) : List D := P.map fun p => eR p.2
abbrev wEnv (d : D) (P : List Pr) (x3 x4 x5 x6 : Option DL.Slot) : DL.Env := [some (.val d), some (.own (.dic (kP P) (vP P))), some (.own (.lst (kP P))), x3, x4, x5, x6]
theorem dOkI {α : Type} (f : α → Nat) (l : List α) (n : Nat) : dOk (l.map fun x => eI (f x)) (eI n) = true := by
  have := dOk_key (enc := eI) (.inl fun _ => rfl) (l.map f) n
  rwa [List.map_map] at this
theorem inP (P : List Pr) (n : Nat) (neg : Bool) (μ : Mu) : fIn2 neg (eI n) (.dct (kP P) (vP P)) μ = .ok (.bl (if neg then !(decide (n ∈ P.map Prod.fst)) else decide (n ∈ P.map Prod.fst))) μ := by
  unfold fIn2
  simp only
  rw [if_pos (dOkI _ _ _), look_some kEq_I]
theorem ixP {P : List Pr} {p : Pr} (h : p ∈ P) (nd : (P.map Prod.fst).Nodup) (μ : Mu) : fIx2 (.dct (kP P) (vP P)) (eI p.1) μ = .ok (eR p.2) μ := by
  unfold fIx2
  simp only
  rw [if_pos (dOkI _ _ _), look_yes (ev := fun p : Pr => eR p.2) kEq_I P p h nd]
/-- one kind: the state that it leads to is put in, if it is new -/
theorem words_kind {maps : List (List Nat)} {reads : List Nat} (M : Mac maps reads) {P : List Pr} {a j : Nat} {w : List Nat} (hj : j < maps.length) (ha : a < reads.length) (hp : (a, w) ∈ P) (nd : (P.map Prod.fst).Nodup) (hw : w.length ≤ 1000) (hl : P.length ≤ 1000) (d : D) (x3 : Option DL.Slot) (μ : Mu) :
    sIf (mTest (mOp (fIn2 true) (mOp fIx2 (mVal 6) (mVal 4)) (mVar 1)))
           (sSeq (sDicPut 1 (mOp fIx2 (mVal 6) (mVal 4)) (mOp fAdd (mOp fIx2 (mVar 1) (mVal 4)) (mApp fTup (mCons (mVal 5) mNil))))
 (sApp 2 (mOp fIx2 (mVal 6) (mVal 4))))
 sNx (wEnv d P x3 (some (.val (eI a))) (some (.val (eI j))) (some (.val (eR (maps.getD j []))))) μ = .nx (wEnv d (addK Prod.fst P (dl maps j a, w ++ [j])) x3 (some (.val (eI a))) (some (.val (eI j))) (some (.val (eR (maps.getD j []))))) μ := by
  have i1 := ixR (l := maps.getD j []) (a := a) (by rw [(M.row _ (dl_mem hj)).1]; exact ha) μ
  have i2 := inP P (at0 (maps.getD j []) a) true μ
  have i3 := ixP hp nd μ
  have a1 := add_tup (x := w.map eI) (y := [eI j]) (by simp; omega) μ
  by_cases q : dl maps j a ∈ P.map Prod.fst
  · rw [addK_old q]
    rw [show decide (at0 (maps.getD j []) a ∈ P.map Prod.fst) = true from decide_eq_true q] at i2
    have i2 : fIn2 true (eI (at0 (maps.getD j []) a)) (.dct (kP P) (vP P)) μ = .ok (.bl false) μ := i2
    array_get_dec
  · rw [addK_new q]
    rw [show decide (at0 (maps.getD j []) a ∈ P.map Prod.fst) = false from decide_eq_false q] at i2
    refine if_t (test_o (op_o (op_o (val_o rfl) (val_o rfl) i1) (var_o (i := 1) rfl) i2)) ?_
    refine seq_o (put_o (i := 1) rfl (op_o (op_o (var_o (i := 1) rfl) (val_o (i := 4) rfl) i3) (ap1 (val_o (i := 5) rfl) (tup1 _ _)) a1) (op_o (val_o (i := 6) rfl) (val_o (i := 4) rfl) i1) (dOkI _ _ _) (by rw [List.length_map]; omega)) ?_
    refine (app_o (i := 2) rfl (op_o (val_o (i := 6) rfl) (val_o (i := 4) rfl) i1) (by rw [List.length_map]; omega)).trans ?_
    have e1 := putK_new (ek := eI) (ev := fun p : Pr => eR p.2) kEq_I P (dl maps j a, w ++ [j]) q
    have e2 := putV_new (ek := eI) (ev := fun p : Pr => eR p.2) kEq_I P (dl maps j a, w ++ [j]) q
    have e3 : eR (w ++ [j]) = .tup (w.map eI ++ [eI j]) := by simp [eR]
    simp only at e1 e2
    rw [e3] at e2
    have e4 : kP P ++ [eI (dl maps j a)] = kP (P ++ [(dl maps j a, w ++ [j])]) := by simp [kP]
    show SOut.nx [some (.val d), some (.own (.dic (dPutK (kP P) (vP P) (eI (dl maps j a))) (dPutV (kP P) (vP P) (eI (dl maps j a)) (.tup (w.map eI ++ [eI j]))))), some (.own (.lst (kP P ++ [eI (dl maps j a)]))), x3, some (.val (eI a)), some (.val (eI j)), some (.val (eR (maps.getD j [])))] μ = _
    rw [e4]
    rw [show dPutK (kP P) (vP P) (eI (dl maps j a)) = _ from e1, show dPutV (kP P) (vP P) (eI (dl maps j a)) (.tup (w.map eI ++ [eI j])) = _ from e2]
theorem enum_maps (maps : List (List Nat)) : enumL (maps.map eR) = (List.range maps.length).map fun j => D.tup [eI j, eR (maps.getD j [])] := by
  unfold enumL
  apply List.ext_getElem?
  intro i
  simp only [List.getElem?_mapIdx, List.getElem?_map]
  rcases Nat.lt_or_ge i maps.length with h | h
  · rw [List.getElem?_eq_getElem h, List.getElem?_range h]
    simp [List.getD_eq_getElem?_getD, List.getElem?_eq_getElem h]
  · rw [List.getElem?_eq_none h, List.getElem?_eq_none (by simpa using h)]
    rfl
abbrev T0 (maps : List (List Nat)) (t : Nat) : List Pr := turns Prod.fst (kidsP maps) (0, []) t
theorem turns_lt {maps : List (List Nat)} {reads : List Nat} (M : Mac maps reads) (t : Nat) : ∀ p ∈ T0 maps t, p.1 < reads.length := fun p hp => by
  have h := turns_sub Prod.fst (kidsP maps) (0, []) (reads.length - 1) (upto_full Prod.fst (kidsP maps) (0, []) (come_len M.rows M.n1) (by omega)) t
  exact come_lt M.rows M.n1 _ p (h.subset hp)
theorem turns_len {maps : List (List Nat)} {reads : List Nat} (M : Mac maps reads) (t : Nat) : (T0 maps t).length ≤ reads.length := by
  have h := turns_sub Prod.fst (kidsP maps) (0, []) (reads.length - 1) (upto_full Prod.fst (kidsP maps) (0, []) (come_len M.rows M.n1) (by omega)) t
  exact Nat.le_trans h.length_le (come_len M.rows M.n1 _)
theorem turns_word {maps : List (List Nat)} (t : Nat) : ∀ p ∈ T0 maps t, p.2.length ≤ t := by
  induction t with
  | zero => intro p hp; rw [List.mem_singleton.mp hp]; exact Nat.le_refl _
  | succ t ih =>
    intro p hp
    cases hq : (T0 maps t)[t]? with
    | none => rw [show T0 maps (t + 1) = T0 maps t from turns_none _ _ _ hq] at hp; have := ih p hp; omega
    | some q =>
      rw [show T0 maps (t + 1) = newK Prod.fst (T0 maps t) (kidsP maps q) from turns_some _ _ _ hq] at hp
      have lq := ih q (List.mem_of_getElem? hq)
      rcases newK_mem _ _ _ _ hp with z | z
      · have := ih p z; omega
      · obtain ⟨j, _, rfl⟩ := List.mem_map.mp z
        rw [List.length_append, List.length_singleton]
        omega
theorem words_turn {maps : List (List Nat)} {reads : List Nat} (M : Mac maps reads) {t : Nat} (ht : t ≤ 100) (x4 x5 x6 : Option DL.Slot) (μ : Mu) : ∃ y4 y5 y6,
    sIf (mTest (mOp fLt (mVal 3) (mApp fLen2 (mCons (mVar 2) mNil))))
 (sSeq (sSet 4 (mOp fIx2 (mVar 2) (mVal 3)))
 (sFor (mEnum (mVal 0)) (tgTup (tgCons (tgName 5) (tgCons (tgName 6) tgNil)))
 (sIf (mTest (mOp (fIn2 true) (mOp fIx2 (mVal 6) (mVal 4)) (mVar 1)))
 (sSeq (sDicPut 1 (mOp fIx2 (mVal 6) (mVal 4)) (mOp fAdd (mOp fIx2 (mVar 1) (mVal 4)) (mApp fTup (mCons (mVal 5) mNil))))
 (sApp 2 (mOp fIx2 (mVal 6) (mVal 4))))
 sNx)))
 sNx (wEnv (.tup (maps.map eR)) (T0 maps t) (some (.val (eI t))) x4 x5 x6) μ = .nx (wEnv (.tup (maps.map eR)) (T0 maps (t + 1)) (some (.val (eI t))) y4 y5 y6) μ := by
  have n2 := M.n2
  have ln := turns_len M t
  have l1 := lenL (fun p : Pr => eI p.1) (T0 maps t) μ
  have lt : fLt (eI t) (eI (T0 maps t).length) μ = .ok (.bl (decide (t < (T0 maps t).length))) μ := by
    have : fLt (eI t) (eI (T0 maps t).length) μ = .ok (.bl (decide ((t : Int) < ((T0 maps t).length : Int)))) μ := rfl
    rw [this]
    congr 2
    rw [decide_eq_decide]
    omega
  have test : ∀ b, decide (t < (T0 maps t).length) = b → mTest (mOp fLt (mVal 3) (mApp fLen2 (mCons (mVar 2) mNil))) (wEnv (.tup (maps.map eR)) (T0 maps t) (some (.val (eI t))) x4 x5 x6) μ = .ok b μ := fun b hb => by
    rw [hb] at lt
    exact test_o (op_o (val_o (i := 3) rfl) (ap1 (var_o (i := 2) rfl) l1) lt)
  by_cases q : t < (T0 maps t).length
  · obtain ⟨⟨a, w⟩, hp'⟩ : ∃ p, (T0 maps t)[t]? = some p := ⟨_, List.getElem?_eq_getElem q⟩
    have e0 := turns_some _ _ _ hp'
    have hm : (a, w) ∈ T0 maps t := List.mem_of_getElem? hp'
    have ha := turns_lt M t _ hm
    have hw : w.length ≤ t := turns_word (maps := maps) t _ hm
    have ix : fIx2 (.lst (kP (T0 maps t))) (eI t) μ = .ok (eI a) μ := ix_map (f := fun p : Pr => eI p.1) _ rfl (fun _ _ z => by cases z) hp'
    obtain ⟨ρ', μ', e1, eμ, _, _, x5', x6', eρ⟩ := forL_st (tg := tgTup (tgCons (tgName 5) (tgCons (tgName 6) tgNil))) (m := sIf (mTest (mOp (fIn2 true) (mOp fIx2 (mVal 6) (mVal 4)) (mVar 1)))
 (sSeq (sDicPut 1 (mOp fIx2 (mVal 6) (mVal 4)) (mOp fAdd (mOp fIx2 (mVar 1) (mVal 4)) (mApp fTup (mCons (mVal 5) mNil))))
 (sApp 2 (mOp fIx2 (mVal 6) (mVal 4))))
 sNx) (fun j => D.tup [eI j, eR (maps.getD j [])]) (fun P j => addK Prod.fst P (dl maps j a, w ++ [j]))
      (fun P ρ μ1 => μ1 = μ ∧ (a, w) ∈ P ∧ ((P.map Prod.fst).Nodup ∧ ∀ p ∈ P, p.1 < reads.length) ∧ ∃ x5 x6, ρ = wEnv (.tup (maps.map eR)) P (some (.val (eI t))) (some (.val (eI a))) x5 x6)
      (List.range maps.length) (T0 maps t) (wEnv (.tup (maps.map eR)) (T0 maps t) (some (.val (eI t))) (some (.val (eI a))) x5 x6) μ ⟨rfl, hm, ⟨turns_nodup _ _ _ t, turns_lt M t⟩, _, _, rfl⟩
      (by
        rintro j hj P ρ μ1 ⟨rfl, hP, ⟨nd, lt⟩, x5, x6, rfl⟩
        have hj := List.mem_range.mp hj
        have lP : P.length ≤ reads.length := by
          have h := nodup_le (P.map Prod.fst) (List.range reads.length) nd fun x hx => by
            obtain ⟨p, hp, rfl⟩ := List.mem_map.mp hx
            exact List.mem_range.mpr (lt p hp)
          rwa [List.length_map, List.length_range] at h
        refine ⟨_, _, μ1, rfl, .inl (words_kind M hj ha hP nd (by omega) (by omega) _ _ μ1), rfl, (addK_pre _ _ _).subset hP, ⟨?_, ?_⟩, _, _, rfl⟩
        · rw [addK_keys]; exact addN_nodup nd
        · intro p hp
          unfold addK at hp
          split at hp
          · exact lt p hp
          · rcases List.mem_append.mp hp with z | z
            · exact lt p z
            · rw [List.mem_singleton.mp z]; exact dl_lt M.rows hj ha)
    rw [← newK_map] at eρ
    rw [eμ, eρ] at e1
    refine ⟨some (.val (eI a)), x5', x6', if_t (test true (decide_eq_true q)) (seq_o (set_o (op_o (var_o (i := 2) rfl) (val_o (i := 3) rfl) ix)) (for_o (enumI (val_o (i := 0) rfl) rfl) ?_))⟩
    rw [enum_maps, show T0 maps (t + 1) = _ from e0]
    exact e1
  · have hp' : (T0 maps t)[t]? = none := List.getElem?_eq_none (by omega)
    rw [show T0 maps (t + 1) = T0 maps t from turns_none _ _ _ hp']
    exact ⟨x4, x5, x6, if_f (test false (decide_eq_false q)) nx_o⟩
theorem words_to_ok {maps : List (List Nat)} {reads : List Nat} (M : Mac maps reads) (μ : Mu) : F_words_to [.tup (maps.map eR)] μ = .ok (.lst ((ordP maps reads).map fun p => .tup [eI p.1, eR p.2])) μ := by
  have n2 := M.n2
  have k1 := M.k1
  obtain ⟨ρ', μ', e1, eμ, x3, x4, x5, x6, eρ⟩ := forL_rng (tg := tgName 3) (m := sIf (mTest (mOp fLt (mVal 3) (mApp fLen2 (mCons (mVar 2) mNil))))
 (sSeq (sSet 4 (mOp fIx2 (mVar 2) (mVal 3)))
 (sFor (mEnum (mVal 0)) (tgTup (tgCons (tgName 5) (tgCons (tgName 6) tgNil)))
 (sIf (mTest (mOp (fIn2 true) (mOp fIx2 (mVal 6) (mVal 4)) (mVar 1)))
 (sSeq (sDicPut 1 (mOp fIx2 (mVal 6) (mVal 4)) (mOp fAdd (mOp fIx2 (mVar 1) (mVal 4)) (mApp fTup (mCons (mVal 5) mNil))))
 (sApp 2 (mOp fIx2 (mVal 6) (mVal 4))))
 sNx)))
 sNx) eI (fun t ρ μ1 => μ1 = μ ∧ ∃ x3 x4 x5 x6, ρ = wEnv (.tup (maps.map eR)) (T0 maps t) x3 x4 x5 x6) reads.length 0 (wEnv (.tup (maps.map eR)) (T0 maps 0) none none none none) μ ⟨rfl, _, _, _, _, rfl⟩
    (by
      rintro t _ ht ρ μ1 ⟨rfl, x3, x4, x5, x6, rfl⟩
      obtain ⟨y4, y5, y6, e⟩ := words_turn M (t := t) (by omega) x4 x5 x6 μ1
      exact ⟨_, _, μ1, rfl, .inl e, rfl, _, _, _, _, rfl⟩)
  rw [eμ, eρ, Nat.zero_add] at e1
  have eq : T0 maps reads.length = ordP maps reads := turns_upto Prod.fst (kidsP maps) (0, []) (come_len M.rows M.n1) (Nat.le_refl _) (by omega)
  have le := turns_len M reads.length
  rw [eq] at e1 le
  have i0 : fIx2 (.tup (maps.map eR)) (.int 0) μ = .ok (eR (maps.getD 0 [])) μ := ixM (j := 0) (by omega) μ
  have l0 := lenR (maps.getD 0 []) μ
  rw [(M.row _ (dl_mem (by omega))).1] at l0
  have c1 : compL (tgName 4) mYes (mApp fTup (mCons (mVal 4) (mCons (mOp fIx2 (mVar 1) (mVal 4)) mNil))) [some (.val (.tup (maps.map eR))), some (.own (.dic (kP (ordP maps reads)) (vP (ordP maps reads)))), some (.val (.lst (kP (ordP maps reads)))), x3, none, x5, x6] (kP (ordP maps reads)) [] μ = .ok ((ordP maps reads).map fun p => .tup [eI p.1, eR p.2]) μ :=
    compL_all (fun p : Pr => eI p.1) (fun p => .tup [eI p.1, eR p.2]) (ordP maps reads) (fun p hp => ⟨_, rfl, by
      have i3 := ixP hp (upto_nodup Prod.fst (kidsP maps) (0, []) _) μ
      array_get_dec⟩) (by omega)
  refine fn_rt (N := 7) rfl ?_
  refine seq_o (dic1_o c_o (show mApp fTup mNil _ _ = .ok (.tup []) μ from rfl) rfl) ?_
  refine seq_o (setN_o (disp1 c_o)) ?_
  refine seq_o (ρ1 := wEnv (.tup (maps.map eR)) (ordP maps reads) x3 x4 x5 x6) (μ1 := μ) (for_o (rng1 (n := reads.length) (by omega) (ap1 (op_o (val_o (i := 0) rfl) c_o i0) l0)) ?_) ?_
  · rw [List.range_eq_range' (n := reads.length)]
    exact e1
  · exact frz_o (i := 2) rfl (ret_o (comp_o (seqI (val_o (i := 2) rfl) rfl) c1))
end W
namespace W
open PySem PySem.Spec L2 DL
open PyProof.Rows hiding St
local macro_rules | `(tactic| array_get_dec) => `(tactic| repeat (first
  | (with_reducible apply val_o); rfl
  | with_reducible exact c_o
  | (with_reducible apply var_v); rfl
  | (with_reducible apply var_l); rfl
  | (with_reducible apply var_dd); rfl
  | with_reducible exact nx_o
  | with_reducible exact negc _
  | with_reducible assumption
  | with_reducible apply seq_o
  | with_reducible apply set_o
  | with_reducible apply setN_o
  | (with_reducible apply asg_o); rotate_left; rfl; rotate_right
  | with_reducible apply ret_o
  | (with_reducible apply retO_o); rfl
  | (with_reducible apply frz_o); rfl
  | with_reducible apply if_b
  | with_reducible apply br_t
  | with_reducible apply br_f
  | with_reducible apply call1
  | with_reducible apply call2
  | with_reducible apply call3
  | with_reducible apply call4
  | with_reducible apply op_o
  | with_reducible apply test_o
  | with_reducible apply ap1
  | with_reducible apply ap2
  | with_reducible apply ap3
  | with_reducible apply not_o
  | with_reducible apply or_o
  | with_reducible apply and_o
  | with_reducible apply ife_o
  | with_reducible apply un_o
  | with_reducible apply index_o
  | with_reducible exact tup1 _ _
  | with_reducible exact tup2 _ _ _
  | with_reducible exact ftL _ _
  | with_reducible exact lenR _ _
  | with_reducible exact lenM _ _ _
  | with_reducible apply comp_o
  | with_reducible apply ncomp_o
  | with_reducible apply ls_o
  | with_reducible exact disp0
  | with_reducible apply disp1
  | (with_reducible apply seqI); rotate_left; rfl; rotate_right
  | (with_reducible apply enumI); rotate_left; rfl; rotate_right))
section
variable {maps : List (List Nat)} {reads : List Nat}
theorem last_rounds (M : Mac maps reads) (μ : Mu) : ∃ s, s < reads.length ∧ cls maps reads (s + 1) = cls maps reads s ∧ F_rounds_of [eM maps reads] μ = .ok (.lst (eRs maps reads s)) μ := by
  obtain ⟨s, h1, h2, h3⟩ := stop_ex (maps := maps) (reads := reads) M.n1
  have := M.n2
  exact ⟨s, h1, h2, rounds_of M (by omega) h2 h3 μ⟩
theorem cls_sg (M : Mac maps reads) {s : Nat} (hs : s < reads.length) (e : cls maps reads (s + 1) = cls maps reads s) {a b : Nat} (ha : a < reads.length) (hb : b < reads.length) : at0 (cls maps reads s) a = at0 (cls maps reads s) b ↔ sg maps reads a = sg maps reads b := by
  rw [sg_eq M.rows ha hb, cls_at ha hb]
  refine ⟨fun h => ?_, fun h => h s⟩
  rcases part_cases M.rows ha hb e with h2 | ⟨v, hv, _, h3⟩
  · exact h2
  · exact absurd (h.le hv) h3
theorem ord_nums (M : Mac maps reads) {s : Nat} (hs : s < reads.length) (e : cls maps reads (s + 1) = cls maps reads s) : fcOf ((ord maps reads).map (at0 (cls maps reads s))) = (ord maps reads).map (nmS maps reads) := by
  rw [fc_pat (ord maps reads) (at0 (cls maps reads s)) (sg maps reads) fun x hx y hy => cls_sg M hs e (ord_lt M.rows M.n1 hx) (ord_lt M.rows M.n1 hy)]
  unfold fcOf
  rw [List.map_map]
  rfl
theorem nm_small (M : Mac maps reads) (a : Nat) (h : a ∈ ord maps reads) : nmS maps reads a < 8 + 1 := by
  have := nm_lt (maps := maps) (reads := reads) h
  have := nMany_le M.rows M.n1
  have := M.n2
  omega
theorem names_ok (M : Mac maps reads) (μ : Mu) : F_names_in_least [eM maps reads] μ = .ok (.lst (nmL maps reads)) μ := by
  have n2 := M.n2
  obtain ⟨s, hs, e, r1⟩ := last_rounds M μ
  have ol := ord_len M.rows M.n1
  have r2 := ixL (f := fun t => eR (cls maps reads t)) (n := s) μ
  have w1 := words_to_ok M μ
  have c1 : ∀ x1 : Option DL.Slot, compL (tgTup (tgCons (tgName 5) (tgCons (tgName 6) tgNil))) mYes (mVal 5) [some (.val (eM maps reads)), x1, none, none, none, none, none, none] ((ordP maps reads).map fun p => .tup [eI p.1, eR p.2]) [] μ = .ok ((ordP maps reads).map fun p => eI p.1) μ := fun x1 =>
    compL_all (fun p : Pr => .tup [eI p.1, eR p.2]) (fun p => eI p.1) (ordP maps reads) (fun p hp => ⟨_, rfl, val_o (i := 5) rfl⟩) (by unfold ord at ol; rw [List.length_map] at ol; omega)
  have e1 : (ordP maps reads).map (fun p => eI p.1) = (ord maps reads).map eI := by unfold ord; rw [List.map_map]; rfl
  rw [e1] at c1
  have c2 : ∀ x2 : Option DL.Slot, compL (tgName 5) mYes (mOp fIx2 (mVal 1) (mVal 5)) [some (.val (eM maps reads)), some (.val (eR (cls maps reads s))), x2, none, none, none, none, none] ((ord maps reads).map eI) [] μ = .ok (((ord maps reads).map (at0 (cls maps reads s))).map eI) μ := fun x2 => by
    rw [compL_all eI (fun a => eI (at0 (cls maps reads s) a)) (ord maps reads) (fun a ha => ⟨_, rfl, op_o (val_o (i := 1) rfl) (val_o (i := 5) rfl) (ixR (by rw [cls_len]; exact ord_lt M.rows M.n1 ha) μ)⟩) (by omega), List.map_map]
    rfl
  have f1 := numbered (enc := eI) kEq_I (.inl fun x => rfl) (.inr rfl : SeqIs (.lst (((ord maps reads).map (at0 (cls maps reads s))).map eI)) _) (by rw [List.length_map]; omega) μ
  rw [ord_nums M hs e] at f1
  have z1 : fZipM [.lst ((ord maps reads).map eI), eR ((ord maps reads).map (nmS maps reads))] μ = .ok ((ord maps reads).map fun a => .tup [eI a, eI (nmS maps reads a)]) μ := by
    show Out.ok (zipL ((ord maps reads).map eI) (((ord maps reads).map (nmS maps reads)).map eI)) μ = _
    rw [List.map_map, zipL_map]
    rfl
  have d1 : ∀ x2 x3 : Option DL.Slot, compD (tgTup (tgCons (tgName 5) (tgCons (tgName 7) tgNil))) mYes (mVal 5) (mVal 7) [some (.val (eM maps reads)), some (.val (eR (cls maps reads s))), x2, x3, none, none, none, none] ((ord maps reads).map fun a => .tup [eI a, eI (nmS maps reads a)]) [] [] μ = .ok ((ord maps reads).map eI, (ord maps reads).map fun a => eI (nmS maps reads a)) μ := fun x2 x3 =>
    compD_map (key := id) (ek := eI) (ev := fun a => eI (nmS maps reads a)) kEq_I (fun _ => rfl) (fun a => .tup [eI a, eI (nmS maps reads a)]) (ord maps reads) [] (by rw [List.nil_append, List.map_id]; exact ord_nodup) (by rw [List.nil_append]; omega) fun a ha => ⟨_, rfl, val_o (i := 5) rfl, val_o (i := 7) rfl⟩
  have l1 := lenR (cls maps reads s) μ
  rw [cls_len] at l1
  have c3 : ∀ x2 x3 : Option DL.Slot, compL (tgName 5) mYes (mIf (mTest (mOp (fIn2 false) (mVal 5) (mVar 4))) (mOp fIx2 (mVar 4) (mVal 5)) (mC .non)) [some (.val (eM maps reads)), some (.val (eR (cls maps reads s))), x2, x3, some (.own (.dic ((ord maps reads).map eI) ((ord maps reads).map fun a => eI (nmS maps reads a)))), none, none, none] ((List.range reads.length).map eI) [] μ = .ok (nmL maps reads) μ := fun x2 x3 =>
    compL_all eI (nmD maps reads) (List.range reads.length) (fun a ha => by
      have dk : dOk ((ord maps reads).map eI) (eI a) = true := dOkI id (ord maps reads) a
      have i1 : fIn2 false (eI a) (.dct ((ord maps reads).map eI) ((ord maps reads).map fun a => eI (nmS maps reads a))) μ = .ok (.bl (decide (a ∈ ord maps reads))) μ := by
        unfold fIn2
        simp only
        have lk : (dLook ((ord maps reads).map eI) ((ord maps reads).map fun a => eI (nmS maps reads a)) (eI a)).isSome = decide (a ∈ (ord maps reads).map id) := look_some (key := id) (ev := fun a => eI (nmS maps reads a)) kEq_I (ord maps reads) a
        rw [List.map_id] at lk
        rw [if_pos dk, lk]
        rfl
      refine ⟨_, rfl, ?_⟩
      by_cases q : a ∈ ord maps reads
      · rw [decide_eq_true q] at i1
        have i2 : fIx2 (.dct ((ord maps reads).map eI) ((ord maps reads).map fun a => eI (nmS maps reads a))) (eI a) μ = .ok (nmD maps reads a) μ := by
          unfold fIx2
          simp only
          have lk : dLook ((ord maps reads).map eI) ((ord maps reads).map fun a => eI (nmS maps reads a)) (eI a) = some (eI (nmS maps reads a)) := look_yes (key := id) (ev := fun a => eI (nmS maps reads a)) kEq_I (ord maps reads) a q (by rw [List.map_id]; exact ord_nodup)
          rw [if_pos dk, lk]
          unfold nmD
          rw [if_pos q]
        array_get_dec
      · rw [decide_eq_false q] at i1
        have i2 : nmD maps reads a = .non := if_neg q
        rw [i2]
        array_get_dec) (by rw [List.length_range]; omega)
  refine fn_rt (N := 8) rfl ?_
  refine seq_o (set_o (op_o (call1 (val_o (i := 0) rfl) r1) (negc 1) r2)) ?_
  refine seq_o (set_o (comp_o (seqI (call1 (op_o (val_o (i := 0) rfl) c_o (show fIx2 (eM maps reads) (.int 0) μ = .ok (.tup (maps.map eR)) μ from rfl)) w1) rfl) (c1 _))) ?_
  refine seq_o (set_o (call1 (comp_o (seqI (val_o (i := 2) rfl) rfl) (c2 _)) f1)) ?_
  refine seq_o (dicC_o (ndc_o (rngM2 (val_o (i := 2) rfl) (val_o (i := 3) rfl) z1) (d1 _ _))) ?_
  exact ret_o (comp_o (rngLen (i := 1) (n := reads.length) (by omega) l1 rfl) (c3 _ _))
theorem names_bare (M : Mac maps reads) (μ : Mu) (x3 x4 x5 x6 x8 x9 : Option DL.Slot) : compL (tgName 7) (mTest (mOp fNotN (mVal 7) (mC .non))) (mVal 7) [some (.val (eM maps reads)), some (.val (.lst (nmL maps reads))), none, x3, x4, x5, x6, none, x8, x9] (nmL maps reads) [] μ = .ok ((((List.range reads.length).filter fun a => decide (a ∈ ord maps reads)).map (nmS maps reads)).map eI) μ := by
  have n2 := M.n2
  have h := compL_map (tg := tgName 7) (mt := mTest (mOp fNotN (mVal 7) (mC .non))) (me := mVal 7) (ρ0 := [some (.val (eM maps reads)), some (.val (.lst (nmL maps reads))), none, x3, x4, x5, x6, none, x8, x9]) (μ := μ) (nmD maps reads) (fun a => decide (a ∈ ord maps reads)) (nmD maps reads) (List.range reads.length) [] (fun a _ => by
    refine ⟨_, rfl, test_o (op_o (val_o (i := 7) rfl) c_o ?_), fun _ => val_o (i := 7) rfl⟩
    by_cases q : a ∈ ord maps reads
    · rw [decide_eq_true q]
      unfold nmD
      rw [if_pos q]
      rfl
    · rw [decide_eq_false q]
      unfold nmD
      rw [if_neg q]
      rfl) (by rw [List.length_range, List.length_nil]; omega)
  rw [List.nil_append] at h
  refine h.trans ?_
  congr 1
  rw [List.map_map]
  apply List.map_congr_left
  intro a ha
  have := (List.mem_filter.mp ha).2
  show nmD maps reads a = eI (nmS maps reads a)
  unfold nmD
  rw [if_pos (by simpa using this)]
theorem names_max (M : Mac maps reads) (μ : Mu) : fMax2 [.lst ((((List.range reads.length).filter fun a => decide (a ∈ ord maps reads)).map (nmS maps reads)).map eI)] μ = .ok (eI (nMany maps reads - 1)) μ := by
  have n1 := nMany_pos (maps := maps) (reads := reads)
  refine max_lst ?_ (fun y hy => ?_) μ
  · obtain ⟨a, ha, e⟩ := nm_ex (maps := maps) (reads := reads) (i := nMany maps reads - 1) (by omega)
    exact List.mem_map.mpr ⟨a, List.mem_filter.mpr ⟨List.mem_range.mpr (ord_lt M.rows M.n1 ha), decide_eq_true ha⟩, e⟩
  · obtain ⟨a, ha, rfl⟩ := List.mem_map.mp hy
    have := nm_lt (maps := maps) (reads := reads) (a := a) (by simpa using (List.mem_filter.mp ha).2)
    omega
theorem nmL_sm (M : Mac maps reads) : ∀ d ∈ nmL maps reads, d.sm = true ∧ d.lv ≤ 1 := fun d hd => by
  obtain ⟨a, _, rfl⟩ := List.mem_map.mp hd
  unfold nmD
  split
  · rename_i q
    exact ⟨sm_I (by have := nm_small M a q; omega), Nat.le_refl _⟩
  · exact ⟨rfl, Nat.le_refl _⟩
theorem least_of_ok (M : Mac maps reads) (μ : Mu) : F_least_of [eM maps reads] μ = .ok (eM (lMaps maps reads) (lReads maps reads)) μ := by
  have n2 := M.n2
  have k2 := M.k2
  have m1 := nMany_pos (maps := maps) (reads := reads)
  have m2 := nMany_le M.rows M.n1
  have a1 := names_ok M μ
  have a2 := names_bare M μ
  have a3 := names_max M μ
  have a4 := addI 1 (nMany maps reads - 1) μ
  rw [show 1 + (nMany maps reads - 1) = nMany maps reads by omega] at a4
  have ix : ∀ i, i < nMany maps reads → fIndex (.lst (nmL maps reads)) (eI i) μ = .ok (eI (stN maps reads i)) μ := fun i hi => by
    have := index_names (enc := id) (fun _ _ e => e) (eI i) (nmL maps reads) (fun y hy => (nmL_sm M y hy).1) (fun y hy => Nat.le_trans (nmL_sm M y hy).2 (by omega)) (st_mem M.rows M.n1 hi) μ
    rw [List.map_id] at this
    exact this
  have c1 : ∀ x2 x3 x4 x5 : Option DL.Slot, compL (tgName 6) mYes (mIndex (mVal 1) (mVal 6)) [some (.val (eM maps reads)), some (.val (.lst (nmL maps reads))), x2, x3, x4, x5, none, none, none, none] ((List.range (nMany maps reads)).map eI) [] μ = .ok ((List.range (nMany maps reads)).map fun i => eI (stN maps reads i)) μ := fun x2 x3 x4 x5 =>
    compL_all eI (fun i => eI (stN maps reads i)) (List.range (nMany maps reads)) (fun i hi => ⟨_, rfl, by
      have i1 := ix i (List.mem_range.mp hi)
      array_get_dec⟩) (by rw [List.length_range]; omega)
  have st := fun {i : Nat} (h : i ∈ List.range (nMany maps reads)) => st_ok M.rows M.n1 (List.mem_range.mp h)
  have c2 : ∀ x2 : Option DL.Slot, ∀ r ∈ maps, compL (tgName 9) mYes (mOp fIx2 (mVal 1) (mOp fIx2 (mVal 8) (mVal 9))) [some (.val (eM maps reads)), some (.val (.lst (nmL maps reads))), x2, some (.val (.lst ((List.range (nMany maps reads)).map fun i => eI (stN maps reads i)))), some (.val (.tup (maps.map eR))), some (.val (eR reads)), none, none, some (.val (eR r)), none] ((List.range (nMany maps reads)).map fun i => eI (stN maps reads i)) [] μ = .ok ((List.range (nMany maps reads)).map fun i => eI (nmS maps reads (at0 r (stN maps reads i)))) μ := fun x2 r hr =>
    compL_all (fun i => eI (stN maps reads i)) (fun i => eI (nmS maps reads (at0 r (stN maps reads i)))) (List.range (nMany maps reads)) (fun i hi => ⟨_, rfl, by
      have h1 := ord_row M.rows M.n1 (st hi).1 hr
      have i1 := ixR (l := r) (a := stN maps reads i) (by rw [(M.row r hr).1]; exact ord_lt M.rows M.n1 (st hi).1) μ
      have i2 := ixF (f := nmD maps reads) (n := reads.length) (a := at0 r (stN maps reads i)) (ord_lt M.rows M.n1 h1) μ
      rw [show nmD maps reads (at0 r (stN maps reads i)) = eI (nmS maps reads (at0 r (stN maps reads i))) from if_pos h1] at i2
      have i2 : fIx2 (.lst (nmL maps reads)) (eI (at0 r (stN maps reads i))) μ = _ := i2
      array_get_dec⟩) (by rw [List.length_range]; omega)
  have c3 : ∀ x2 : Option DL.Slot, compL (tgName 8) mYes (mApp fTuple (mCons (mLs (nComp (mSeq (mVal 3)) (tgName 9) mYes (mOp fIx2 (mVal 1) (mOp fIx2 (mVal 8) (mVal 9))) [9])) mNil)) [some (.val (eM maps reads)), some (.val (.lst (nmL maps reads))), x2, some (.val (.lst ((List.range (nMany maps reads)).map fun i => eI (stN maps reads i)))), some (.val (.tup (maps.map eR))), some (.val (eR reads)), none, none, none, none] (maps.map eR) [] μ = .ok (maps.map fun r => .tup ((List.range (nMany maps reads)).map fun i => eI (nmS maps reads (at0 r (stN maps reads i))))) μ := fun x2 =>
    compL_all eR (fun r => .tup ((List.range (nMany maps reads)).map fun i => eI (nmS maps reads (at0 r (stN maps reads i))))) maps (fun r hr => ⟨_, rfl, ap1 (comp_o (seqI (val_o (i := 3) rfl) rfl) (c2 x2 r hr)) (ftL _ μ)⟩) (by omega)
  have c4 : ∀ x2 : Option DL.Slot, compL (tgName 9) mYes (mOp fIx2 (mVal 5) (mVal 9)) [some (.val (eM maps reads)), some (.val (.lst (nmL maps reads))), x2, some (.val (.lst ((List.range (nMany maps reads)).map fun i => eI (stN maps reads i)))), some (.val (.tup (maps.map eR))), some (.val (eR reads)), none, none, none, none] ((List.range (nMany maps reads)).map fun i => eI (stN maps reads i)) [] μ = .ok ((List.range (nMany maps reads)).map fun i => eI (at0 reads (stN maps reads i))) μ := fun x2 =>
    compL_all (fun i => eI (stN maps reads i)) (fun i => eI (at0 reads (stN maps reads i))) (List.range (nMany maps reads)) (fun i hi => ⟨_, rfl, op_o (val_o (i := 5) rfl) (val_o (i := 9) rfl) (ixR (ord_lt M.rows M.n1 (st hi).1) μ)⟩) (by rw [List.length_range]; omega)
  have fin : eM (lMaps maps reads) (lReads maps reads) = .tup [.tup (maps.map fun r => .tup ((List.range (nMany maps reads)).map fun i => eI (nmS maps reads (at0 r (stN maps reads i))))), .tup ((List.range (nMany maps reads)).map fun i => eI (at0 reads (stN maps reads i)))] := by
    simp [eM, eR, lMaps, lReads, Function.comp_def]
  rw [fin]
  refine fn_rt (N := 10) rfl ?_
  refine seq_o (asg_o (val_o (i := 0) rfl) rfl) ?_
  refine seq_o (set_o (call1 (val_o (i := 0) rfl) a1)) ?_
  refine seq_o (set_o (op_o c_o (ap1 (comp_o (seqI (val_o (i := 1) rfl) rfl) (a2 _ _ _ _ _ _)) a3) a4)) ?_
  refine seq_o (set_o (comp_o (rng1 (by omega) (val_o (i := 2) rfl)) (c1 _ _ _ _))) ?_
  exact ret_o (ap2 (ap1 (comp_o (seqI (val_o (i := 4) rfl) rfl) (c3 _)) (ftL _ μ)) (ap1 (comp_o (seqI (val_o (i := 3) rfl) rfl) (c4 _)) (ftL _ μ)) (tup2 _ _ μ))
theorem lMac (M : Mac maps reads) : Mac (lMaps maps reads) (lReads maps reads) where
  n1 := lN1
  n2 := by
    rw [lReads_len]
    have := nMany_le M.rows M.n1
    have := M.n2
    omega
  k1 := by rw [lMaps_len]; exact M.k1
  k2 := by rw [lMaps_len]; exact M.k2
  row := lRow M.rows M.n1
  rd := fun x hx => by
    obtain ⟨i, _, rfl⟩ := List.mem_map.mp hx
    exact M.small _
theorem least_machine_ok (M : Mac maps reads) {a b d : D} (ha : SeqIs a (maps.map eR)) (hb : SeqIs b (reads.map eI)) (hd : F_need_machine [d] μ = .ok (eM maps reads) μ) : F_least_machine [d] μ = .ok (eM (lMaps maps reads) (lReads maps reads)) μ :=
  fn_rt (N := 1) rfl (ret_o (call1 (call1 (val_o (i := 0) rfl) hd) (least_of_ok M μ)))
theorem least_names_ok (M : Mac maps reads) (μ : Mu) : F_least_names [eM maps reads] μ = .ok (.tup (nmL maps reads)) μ :=
  fn_rt (N := 1) rfl (ret_o (ap1 (call1 (call1 (val_o (i := 0) rfl) (need_ok M (.inl rfl) (.inl rfl) μ)) (names_ok M μ)) (ftL _ μ)))
theorem eM_inj {m1 m2 : List (List Nat)} {r1 r2 : List Nat} : eM m1 r1 = eM m2 r2 ↔ m1 = m2 ∧ r1 = r2 := by
  have e : ∀ a b : List (List Nat), a.map eR = b.map eR ↔ a = b := fun a => by
    induction a with
    | nil => intro b; cases b <;> simp
    | cons x a ih =>
      intro b
      cases b with
      | nil => simp
      | cons y b => simp only [List.map_cons, List.cons.injEq, eR_inj, ih b]
  simp only [eM, D.tup.injEq, List.cons.injEq, e, and_true]
  rw [← D.tup.injEq, eR_inj]
theorem eM_sm (M : Mac maps reads) : (eM maps reads).sm = true := by
  have n2 := M.n2
  simp only [D.sm, smAll, Bool.and_true, Bool.and_eq_true]
  refine ⟨smAll_map maps fun r hr => sm_R fun x hx => ?_, smAll_map reads fun x hx => sm_I ?_⟩
  · have := (M.row r hr).2 x hx; omega
  · have := M.rd x hx; omega
theorem eM_lv : (eM maps reads).lv ≤ 4 := by
  have h1 : lvAll (maps.map eR) ≤ 2 := lvAll_map maps fun r _ => lv_R r
  have h2 := lv_R reads
  simp only [eM, D.lv, lvAll] at h2 ⊢
  omega
theorem eM_sz (M : Mac maps reads) : (eM maps reads).sz ≤ 16777216 := by
  have n2 := M.n2
  have k2 := M.k2
  have szr : ∀ l : List Nat, l.length ≤ 8 → (eR l).sz ≤ 100 := fun l hl => by
    simp only [D.sz]
    have := szAll_map (f := eI) (n := 6) l fun x _ => Nat.le_refl _
    omega
  have h1 : szAll (maps.map eR) ≤ maps.length * (100 + 2) := szAll_map maps fun r hr => szr r (by rw [(M.row r hr).1]; exact n2)
  have h2 := szr reads n2
  simp only [eM, D.sz, szAll] at h2 ⊢
  omega
theorem is_least_ok (M : Mac maps reads) (μ : Mu) (b : Bool) (hb : b = true ↔ lMaps maps reads = maps ∧ lReads maps reads = reads) : F_is_least [eM maps reads] μ = .ok (.bl b) μ := by
  have e := fEq_sm (eM_sm (lMac M)) (eM_sm M) (Nat.le_trans eM_lv (by omega)) (Nat.le_trans eM_lv (by omega)) (μ := μ) b (by rw [hb, eM_inj])
  exact fn_rt (N := 1) rfl (seq_o (set_o (call1 (val_o (i := 0) rfl) (need_ok M (.inl rfl) (.inl rfl) μ))) (ret_o (op_o (call1 (val_o (i := 0) rfl) (least_of_ok M μ)) (val_o (i := 0) rfl) e)))
end
end W
namespace W
open PySem PySem.Spec L2 DL
open PyProof.Rows hiding St
local macro_rules | `(tactic| array_get_dec) => `(tactic| repeat (first
  | (with_reducible apply val_o); rfl
  | with_reducible exact c_o
  | (with_reducible apply var_v); rfl
  | (with_reducible apply var_l); rfl
  | (with_reducible apply var_dd); rfl
  | with_reducible exact nx_o
  | with_reducible exact negc _
  | with_reducible assumption
  | with_reducible apply seq_o
  | with_reducible apply set_o
  | with_reducible apply setN_o
  | (with_reducible apply asg_o); rotate_left; rfl; rotate_right
  | with_reducible apply ret_o
  | (with_reducible apply retO_o); rfl
  | (with_reducible apply frz_o); rfl
  | with_reducible apply if_b
  | with_reducible apply br_t
  | with_reducible apply br_f
  | with_reducible apply call1
  | with_reducible apply call2
  | with_reducible apply call3
  | with_reducible apply call4
  | with_reducible apply op_o
  | with_reducible apply test_o
  | (with_reducible apply parN_o); rotate_left; rfl; rotate_right
  | with_reducible apply mm_val
  | with_reducible apply mm_lst
  | with_reducible apply mm_dic
  | with_reducible exact mm_nil
  | with_reducible apply ap1
  | with_reducible apply ap2
  | with_reducible apply ap3
  | with_reducible apply not_o
  | with_reducible apply or_o
  | with_reducible apply and_o
  | with_reducible apply ife_o
  | with_reducible apply un_o
  | with_reducible apply index_o
  | with_reducible exact tup1 _ _
  | with_reducible exact tup2 _ _ _
  | with_reducible exact ftL _ _
  | with_reducible exact lenR _ _
  | with_reducible exact lenM _ _ _
  | with_reducible apply comp_o
  | with_reducible apply ncomp_o
  | with_reducible apply ls_o
  | with_reducible exact disp0
  | with_reducible apply disp1
  | (with_reducible apply seqI); rotate_left; rfl; rotate_right
  | (with_reducible apply enumI); rotate_left; rfl; rotate_right))
/-! ### the law's own words -/
theorem word_snoc {w : List Nat} (hw : w.length ≤ 1000) (j : Nat) (μ : Mu) : fAdd (eR w) (.tup [eI j]) μ = .ok (eR (w ++ [j])) μ := by
  have := add_tup (x := w.map eI) (y := [eI j]) (by rw [List.length_map, List.length_singleton]; omega) μ
  rw [show eR (w ++ [j]) = .tup (w.map eI ++ [eI j]) by simp [eR]]
  exact this
abbrev words_in : SS := sExt 5 (mLs (nComp (mRng fRng1 (mCons (mVal 0) mNil)) (tgName 7) mYes (mOp fAdd (mVal 6) (mApp fTup (mCons (mVal 7) mNil))) [7]))
abbrev wturn : SS := (sSeq (sSetN 5 (nDisp mNil))
 (sSeq (sFor (mSeq (mVal 4)) (tgName 6)
 (sExt 5 (mLs (nComp (mRng fRng1 (mCons (mVal 0) mNil)) (tgName 7) mYes (mOp fAdd (mVal 6) (mApp fTup (mCons (mVal 7) mNil))) [7]))))
 (sSeq (sExt 3 (mVar 5))
 (sFrz 5 (sSet 4 (mVal 5))))))
theorem words_ext {k : Nat} (hk : k ≤ 4) {w : List Nat} (hw : w.length ≤ 1000) {acc : List (List Nat)} (hl : acc.length ≤ 300000) (x1 x2 x3 x4 x7 : Option DL.Slot) (μ : Mu) :
    words_in [some (.val (eI k)), x1, x2, x3, x4, some (.own (.lst (acc.map eR))), some (.val (eR w)), x7] μ = .nx [some (.val (eI k)), x1, x2, x3, x4, some (.own (.lst ((acc ++ kidsW k w).map eR))), some (.val (eR w)), x7] μ := by
  have c1 : compL (tgName 7) mYes (mOp fAdd (mVal 6) (mApp fTup (mCons (mVal 7) mNil))) [some (.val (eI k)), x1, x2, x3, x4, some (.own (.lst (acc.map eR))), some (.val (eR w)), none] ((List.range k).map eI) [] μ = .ok ((List.range k).map fun j => eR (w ++ [j])) μ :=
    compL_all eI (fun j => eR (w ++ [j])) (List.range k) (fun j _ => ⟨_, rfl, op_o (val_o (i := 6) rfl) (ap1 (val_o (i := 7) rfl) (tup1 _ μ)) (word_snoc hw j μ)⟩) (by rw [List.length_range]; omega)
  refine (ext_o (i := 5) rfl (comp_o (rng1 (by omega) (val_o (i := 0) rfl)) c1) (by simp; omega)).trans ?_
  rw [show acc.map eR ++ ((List.range k).map fun j => eR (w ++ [j])) = (acc ++ kidsW k w).map eR by simp [kidsW, Function.comp_def]]
  rfl
theorem flatW_len {k : Nat} (hk : k ≤ 4) (l : List (List Nat)) : (l.flatMap (kidsW k)).length ≤ 4 * l.length := by
  induction l with
  | nil => simp
  | cons w l ih =>
    rw [List.flatMap_cons, List.length_append, List.length_cons]
    have : (kidsW k w).length = k := by simp [kidsW]
    omega
theorem words_step {k t : Nat} (hk : k ≤ 4) (ht : t ≤ 7) (x1 x2 x5 x6 x7 : Option DL.Slot) (μ : Mu) : ∃ y5 y6 y7,
    wturn [some (.val (eI k)), x1, x2, some (.own (.lst ((layers (kidsW k) [] t).map eR))), some (.val (.lst ((layer (kidsW k) [] t).map eR))), x5, x6, x7] μ = .nx [some (.val (eI k)), x1, x2, some (.own (.lst ((layers (kidsW k) [] (t + 1)).map eR))), some (.val (.lst ((layer (kidsW k) [] (t + 1)).map eR))), y5, y6, y7] μ := by
  have ll := (layerW_len k t).1
  have pl := pow_lim hk (t := t) (by omega)
  obtain ⟨ρ', μ', e1, eμ, hlen, x6', x7', eρ⟩ := forL_pre (tg := tgName 6) (m := words_in) eR (fun acc w => acc ++ kidsW k w)
    (fun rest acc ρ μ1 => μ1 = μ ∧ (acc.length + 4 * rest.length ≤ 4 * 65536 ∧ ∀ w ∈ rest, w.length ≤ 1000) ∧ ∃ x6 x7, ρ = [some (.val (eI k)), x1, x2, some (.own (.lst ((layers (kidsW k) [] t).map eR))), some (.val (.lst ((layer (kidsW k) [] t).map eR))), some (.own (.lst (acc.map eR))), x6, x7])
    (layer (kidsW k) [] t) [] [some (.val (eI k)), x1, x2, some (.own (.lst ((layers (kidsW k) [] t).map eR))), some (.val (.lst ((layer (kidsW k) [] t).map eR))), some (.own (.lst [])), x6, x7] μ
    ⟨rfl, ⟨by rw [ll, List.length_nil]; omega, fun w hw => by rw [((layerW_len k t).2 w hw).1]; omega⟩, _, _, rfl⟩
    (by
      rintro w rest acc ρ μ1 ⟨rfl, ⟨hl, hw⟩, x6, x7, rfl⟩
      rw [List.length_cons] at hl
      refine ⟨_, _, μ1, rfl, .inl (words_ext hk (hw w List.mem_cons_self) (by omega) _ _ _ _ _ μ1), rfl, ⟨?_, fun v hv => hw v (List.mem_cons_of_mem _ hv)⟩, _, _, rfl⟩
      have : (kidsW k w).length = k := by simp [kidsW]
      rw [List.length_append]
      omega)
  rw [foldl_flat, List.nil_append] at eρ
  rw [eμ, eρ] at e1
  have l1 := layersW_len hk t (by omega)
  have l2 := (layerW_len k (t + 1)).1
  have l3 := pow_lim hk (t := t + 1) (by omega)
  have el : (layer (kidsW k) [] t).flatMap (kidsW k) = layer (kidsW k) [] (t + 1) := rfl
  rw [el] at e1
  refine ⟨some (.val (.lst ((layer (kidsW k) [] (t + 1)).map eR))), x6', x7', ?_⟩
  refine seq_o (setN_o disp0) (seq_o (for_o (seqI (val_o (i := 4) rfl) rfl) e1) (seq_o (ext_o (i := 3) (l := (layer (kidsW k) [] (t + 1)).map eR) rfl (var_l (i := 5) rfl) (by rw [List.length_map, List.length_map]; omega)) ?_))
  refine (frz_o (i := 5) rfl (set_o (val_o (i := 5) rfl))).trans ?_
  rw [← List.map_append]
  rfl
theorem words_ok {k t : Nat} (hk : k ≤ 4) (ht : t ≤ 7) (μ : Mu) : F_law_words [eI k, eI t] μ = .ok (.lst ((layers (kidsW k) [] t).map eR)) μ := by
  obtain ⟨ρ', μ', e1, eμ, x2, x5, x6, x7, eρ⟩ := forL_rng (tg := tgName 2) (m := wturn) eI (fun j ρ μ1 => μ1 = μ ∧ ∃ x2 x5 x6 x7, ρ = [some (.val (eI k)), some (.val (eI t)), x2, some (.own (.lst ((layers (kidsW k) [] j).map eR))), some (.val (.lst ((layer (kidsW k) [] j).map eR))), x5, x6, x7]) t 0
    [some (.val (eI k)), some (.val (eI t)), none, some (.own (.lst [eR []])), some (.val (.lst [eR []])), none, none, none] μ ⟨rfl, _, _, _, _, rfl⟩
    (by
      rintro j _ hj ρ μ1 ⟨rfl, x2, x5, x6, x7, rfl⟩
      obtain ⟨y5, y6, y7, e⟩ := words_step hk (t := j) (by omega) (some (.val (eI t))) (some (.val (eI j))) x5 x6 x7 μ1
      exact ⟨_, _, μ1, rfl, .inl e, rfl, _, _, _, _, rfl⟩)
  rw [eμ, eρ, Nat.zero_add] at e1
  have t0 : ∀ ρ : DL.Env, mApp fTup mNil ρ μ = .ok (eR []) μ := fun _ => rfl
  refine fn_rt (N := 8) rfl ?_
  refine seq_o (parN_o (mm_lst (disp1 (t0 _)) (mm_val (ap1 (t0 _) (show fLst [eR []] μ = .ok (.lst [eR []]) μ from rfl)) mm_nil)) rfl) ?_
  refine seq_o (ρ1 := [some (.val (eI k)), some (.val (eI t)), x2, some (.own (.lst ((layers (kidsW k) [] t).map eR))), some (.val (.lst ((layer (kidsW k) [] t).map eR))), x5, x6, x7]) (μ1 := μ) (for_o (rng1 (n := t) (by omega) (val_o (i := 1) rfl)) ?_) (retO_o (i := 3) rfl)
  rw [List.range_eq_range' (n := t)]
  exact e1
/-- the state that a word leads to -/
theorem led_ok {maps : List (List Nat)} {reads : List Nat} (M : Mac maps reads) {w : List Nat} (hw : ∀ j ∈ w, j < maps.length) (μ : Mu) : F_law_led [eM maps reads, eR w] μ = .ok (eI (ledW maps w)) μ := by
  obtain ⟨ρ', μ', e1, eμ, lt, x3, eρ⟩ := forL_st (tg := tgName 3) (m := sSet 2 (mOp fIx2 (mOp fIx2 (mOp fIx2 (mVal 0) (mC (.int 0))) (mVal 3)) (mVal 2))) eI (fun a j => dl maps j a)
    (fun a ρ μ1 => μ1 = μ ∧ a < reads.length ∧ ∃ x3, ρ = [some (.val (eM maps reads)), some (.val (eR w)), some (.val (eI a)), x3]) w 0 [some (.val (eM maps reads)), some (.val (eR w)), some (.val (eI 0)), none] μ ⟨rfl, M.n1, _, rfl⟩
    (by
      rintro j hj a ρ μ1 ⟨rfl, ha, x3, rfl⟩
      have i1 := ixM (maps := maps) (hw j hj) μ1
      have i2 := ixR (l := maps.getD j []) (a := a) (by rw [(M.row _ (dl_mem (hw j hj))).1]; exact ha) μ1
      have i0 : fIx2 (eM maps reads) (.int 0) μ1 = .ok (.tup (maps.map eR)) μ1 := rfl
      refine ⟨_, _, μ1, rfl, .inl (set_o (op_o (op_o (op_o (val_o (i := 0) rfl) c_o i0) (val_o (i := 3) rfl) i1) (val_o (i := 2) rfl) i2)), rfl, dl_lt M.rows (hw j hj) ha, _, rfl⟩)
  rw [eμ, eρ] at e1
  refine fn_rt (N := 4) rfl (seq_o (set_o c_o) (seq_o (for_o (seqI (val_o (i := 1) rfl) rfl) e1) (ret_o (val_o (i := 2) rfl))))
/-! ### the law's own names -/
section
variable {maps : List (List Nat)} {reads : List Nat}
abbrev names_turn : SS := (sSeq (sSet 6 (mCall 2 F_law_led (mCons (mVal 0) (mCons (mVal 3) mNil))))
 (sSeq (sApp 5 (mVal 6))
 (sIf (mTest (mOp (fIn2 true) (mOp fIx2 (mVal 2) (mVal 6)) (mVar 4)))
 (sApp 4 (mOp fIx2 (mVal 2) (mVal 6)))
 sNx)))
theorem sg_sm (M : Mac maps reads) (a : Nat) : (sg maps reads a).sm = true ∧ (sg maps reads a).lv ≤ 60 := by
  have n2 := M.n2
  exact ⟨tr_sm (fun a => Nat.lt_of_lt_of_le (M.small a) (by decide)) _ a, Nat.le_trans (tr_lv _ a) (by omega)⟩
theorem names_step (M : Mac maps reads) {w : List Nat} (hw : ∀ j ∈ w, j < maps.length) {names : List D} {met : List Nat} (hn : ∀ d ∈ names, ∃ a, d = sg maps reads a) (l1 : names.length ≤ met.length) (l2 : met.length ≤ 1000000) (x1 x6 : Option DL.Slot) (μ : Mu) : ∃ y6,
    names_turn [some (.val (eM maps reads)), x1, some (.val (.lst ((List.range reads.length).map (sg maps reads)))), some (.val (eR w)), some (.own (.lst names)), some (.own (.lst (met.map eI))), x6] μ =
      .nx [some (.val (eM maps reads)), x1, some (.val (.lst ((List.range reads.length).map (sg maps reads)))), some (.val (eR w)), some (.own (.lst (addN names (sg maps reads (ledW maps w))))), some (.own (.lst ((met ++ [ledW maps w]).map eI))), y6] μ := by
  have lt := ledW_lt M.rows M.n1 hw
  have c1 := led_ok M hw μ
  have i1 := ixF (f := sg maps reads) lt μ
  have in1 := fIn_sm true (μ := μ) (d := sg maps reads (ledW maps w)) (l := names) (.lst names) (.inl rfl) (sg_sm M _).1 (Nat.le_trans (sg_sm M _).2 (by omega)) (by
    have := smAll_map (f := id) names (fun d hd => by obtain ⟨a, rfl⟩ := hn d hd; exact (sg_sm M a).1)
    rwa [List.map_id] at this) (decide (sg maps reads (ledW maps w) ∈ names)) (by rw [decide_eq_true_eq])
  have en : met.map eI ++ [eI (ledW maps w)] = (met ++ [ledW maps w]).map eI := by simp
  refine ⟨some (.val (eI (ledW maps w))), seq_o (set_o (call2 (val_o (i := 0) rfl) (val_o (i := 3) rfl) c1)) (seq_o (app_o (i := 5) rfl (val_o (i := 6) rfl) (by rw [List.length_map]; omega)) ?_)⟩
  rw [en]
  by_cases q : sg maps reads (ledW maps w) ∈ names
  · rw [decide_eq_true q] at in1
    rw [show addN names (sg maps reads (ledW maps w)) = names from if_pos q]
    exact if_f (test_o (op_o (op_o (val_o (i := 2) rfl) (val_o (i := 6) rfl) i1) (var_o (i := 4) rfl) in1)) rfl
  · rw [decide_eq_false q] at in1
    rw [show addN names (sg maps reads (ledW maps w)) = names ++ [sg maps reads (ledW maps w)] from if_neg q]
    exact if_t (test_o (op_o (op_o (val_o (i := 2) rfl) (val_o (i := 6) rfl) i1) (var_o (i := 4) rfl) in1)) (app_o (i := 4) rfl (op_o (val_o (i := 2) rfl) (val_o (i := 6) rfl) i1) (by omega))
theorem law_names_ok (M : Mac maps reads) (μ : Mu) : F_law_names [eM maps reads] μ = .ok (.tup (nmL maps reads)) μ := by
  have n1 := M.n1
  have n2 := M.n2
  have k2 := M.k2
  have s1 : fSub (eI reads.length) (.int 1) μ = .ok (eI (reads.length - 1)) μ := by
    have : fSub (eI reads.length) (.int 1) μ = .ok (.int ((reads.length : Int) - 1)) μ := rfl
    rw [this, show ((reads.length : Int) - 1) = ((reads.length - 1 : Nat) : Int) by omega]
  have f1 := shows_ok M (t := reads.length - 1) (by omega) μ
  have w1 := words_ok k2 (t := reads.length - 1) (by omega) μ
  have wl := layersW_len k2 (reads.length - 1) (by omega)
  have i0 : fIx2 (eM maps reads) (.int 0) μ = .ok (.tup (maps.map eR)) μ := rfl
  have i1 : fIx2 (eM maps reads) (.int 1) μ = .ok (eR reads) μ := rfl
  have lm := lenM eR maps μ
  have lr := lenR reads μ
  obtain ⟨ρ', μ', e1, eμ, hI, x3, x6, eρ⟩ := forL_pre (tg := tgName 3) (m := names_turn) eR (fun (s : List D × List Nat) w => (addN s.1 (sg maps reads (ledW maps w)), s.2 ++ [ledW maps w]))
    (fun rest s ρ μ1 => μ1 = μ ∧ ((∀ w ∈ rest, ∀ j ∈ w, j < maps.length) ∧ (∀ d ∈ s.1, ∃ a, d = sg maps reads a) ∧ s.1.length ≤ s.2.length ∧ s.2.length + rest.length ≤ 1000000) ∧ ∃ x3 x6, ρ = [some (.val (eM maps reads)), some (.val (eI reads.length)), some (.val (.lst ((List.range reads.length).map (sg maps reads)))), x3, some (.own (.lst s.1)), some (.own (.lst (s.2.map eI))), x6])
    (layers (kidsW maps.length) [] (reads.length - 1)) ([], []) [some (.val (eM maps reads)), some (.val (eI reads.length)), some (.val (.lst ((List.range reads.length).map (sg maps reads)))), none, some (.own (.lst [])), some (.own (.lst [])), none] μ
    ⟨rfl, ⟨fun w hw => (layersW_mem maps.length _ w hw).2, fun d hd => by simp at hd, Nat.le_refl _, by simp only [List.length_nil]; omega⟩, _, _, rfl⟩
    (by
      rintro w rest ⟨names, met⟩ ρ μ1 ⟨rfl, ⟨h1, h2, h3, h4⟩, x3, x6, rfl⟩
      simp only at h2 h3 h4
      rw [List.length_cons] at h4
      obtain ⟨y6, e⟩ := names_step M (h1 w List.mem_cons_self) h2 h3 (by omega) (some (.val (eI reads.length))) x6 μ1
      refine ⟨_, _, μ1, rfl, .inl e, rfl, ⟨fun v hv => h1 v (List.mem_cons_of_mem _ hv), fun d hd => ?_, ?_, ?_⟩, _, _, rfl⟩
      · rcases addN_mem.mp hd with z | z
        · exact h2 d z
        · exact ⟨_, z⟩
      · show (addN names _).length ≤ (met ++ [_]).length
        have : (addN names (sg maps reads (ledW maps w))).length ≤ names.length + 1 := by unfold addN; split <;> simp
        rw [List.length_append, List.length_singleton]
        omega
      · show (met ++ [_]).length + rest.length ≤ _
        rw [List.length_append, List.length_singleton]
        omega)
  have fold : ∀ (l : List (List Nat)) (s : List D × List Nat), l.foldl (fun (s : List D × List Nat) w => (addN s.1 (sg maps reads (ledW maps w)), s.2 ++ [ledW maps w])) s = ((l.map fun w => sg maps reads (ledW maps w)).foldl addN s.1, s.2 ++ l.map (ledW maps)) := by
    intro l
    induction l with
    | nil => intro s; simp
    | cons w l ih => intro s; rw [List.foldl_cons, ih]; simp
  rw [fold] at eρ
  simp only [List.nil_append] at eρ
  have em : (layers (kidsW maps.length) [] (reads.length - 1)).map (ledW maps) = (layers (kidsP maps) (0, []) (reads.length - 1)).map Prod.fst := by
    rw [layers_led, List.map_map]
    rfl
  have eo : namesOf ((layers (kidsW maps.length) [] (reads.length - 1)).map (ledW maps)) = ord maps reads := by
    rw [em, layers_ord]
    rfl
  have es : ((layers (kidsW maps.length) [] (reads.length - 1)).map fun w => sg maps reads (ledW maps w)).foldl addN [] = sgs maps reads := by
    have : ((layers (kidsW maps.length) [] (reads.length - 1)).map fun w => sg maps reads (ledW maps w)) = ((layers (kidsW maps.length) [] (reads.length - 1)).map (ledW maps)).map (sg maps reads) := by rw [List.map_map]; rfl
    rw [this]
    show DL.namesOf _ = _
    rw [names_read, eo]
    rfl
  rw [es] at eρ
  have inm : ∀ a, a ∈ (layers (kidsW maps.length) [] (reads.length - 1)).map (ledW maps) ↔ a ∈ ord maps reads := fun a => by rw [← eo, names_mem]
  generalize (layers (kidsW maps.length) [] (reads.length - 1)).map (ledW maps) = met at eρ inm
  rw [eμ, eρ] at e1
  have c1 : ∀ x3 : Option DL.Slot, compL (tgName 6) mYes (mIf (mTest (mOp (fIn2 false) (mVal 6) (mVar 5))) (mIndex (mVar 4) (mOp fIx2 (mVal 2) (mVal 6))) (mC .non)) [some (.val (eM maps reads)), some (.val (eI reads.length)), some (.val (.lst ((List.range reads.length).map (sg maps reads)))), x3, some (.own (.lst (sgs maps reads))), some (.own (.lst (met.map eI))), none] ((List.range reads.length).map eI) [] μ = .ok (nmL maps reads) μ := fun x3 =>
    compL_all eI (nmD maps reads) (List.range reads.length) (fun a ha => by
      have ha := List.mem_range.mp ha
      have sm : ∀ b ∈ met, b < 1024 := fun b hb => by have := ord_lt M.rows M.n1 ((inm b).mp hb); omega
      have in1 := fIn_sm false (μ := μ) (d := eI a) (l := met.map eI) (.lst (met.map eI)) (.inl rfl) (sm_I (by omega)) (by show 1 ≤ 64; omega) (smAll_map met fun b hb => sm_I (sm b hb)) (decide (a ∈ ord maps reads)) (by
        rw [decide_eq_true_eq, ← inm]
        exact ⟨List.mem_map_of_mem, fun z => by
          obtain ⟨b, hb, e⟩ := List.mem_map.mp z
          rw [← eI_inj.mp e]
          exact hb⟩)
      have in1 : fIn2 false (eI a) (.lst (met.map eI)) μ = .ok (.bl (decide (a ∈ ord maps reads))) μ := in1
      refine ⟨_, rfl, ?_⟩
      by_cases q : a ∈ ord maps reads
      · rw [decide_eq_true q] at in1
        have i2 := ixF (f := sg maps reads) ha μ
        have ix := index_names (enc := id) (fun _ _ e => e) (sg maps reads a) (sgs maps reads) (fun y hy => by
          obtain ⟨b, _, rfl⟩ := List.mem_map.mp (names_mem.mp hy)
          exact (sg_sm M b).1) (fun y hy => by
          obtain ⟨b, _, rfl⟩ := List.mem_map.mp (names_mem.mp hy)
          exact (sg_sm M b).2) (names_mem.mpr (List.mem_map_of_mem q)) μ
        rw [List.map_id] at ix
        have e2 : nmD maps reads a = eI ((sgs maps reads).idxOf (sg maps reads a)) := if_pos q
        rw [e2]
        exact ife_o (test_o (op_o (val_o (i := 6) rfl) (var_o (i := 5) rfl) in1)) (br_t (index_o (var_l (i := 4) rfl) (op_o (val_o (i := 2) rfl) (val_o (i := 6) rfl) i2) ix))
      · rw [decide_eq_false q] at in1
        rw [show nmD maps reads a = .non from if_neg q]
        exact ife_o (test_o (op_o (val_o (i := 6) rfl) (var_o (i := 5) rfl) in1)) (br_f c_o)) (by rw [List.length_range]; omega)
  refine fn_rt (N := 7) rfl ?_
  refine seq_o (set_o (ap1 (op_o (val_o (i := 0) rfl) c_o i1) lr)) ?_
  refine seq_o (set_o (call2 (val_o (i := 0) rfl) (op_o (val_o (i := 1) rfl) c_o s1) f1)) ?_
  refine seq_o (parN_o (mm_lst disp0 (mm_lst disp0 mm_nil)) rfl) ?_
  refine seq_o (ρ1 := [some (.val (eM maps reads)), some (.val (eI reads.length)), some (.val (.lst ((List.range reads.length).map (sg maps reads)))), x3, some (.own (.lst (sgs maps reads))), some (.own (.lst (met.map eI))), x6]) (μ1 := μ) (for_o (seqI (call2 (ap1 (op_o (val_o (i := 0) rfl) c_o i0) lm) (op_o (val_o (i := 1) rfl) c_o s1) w1) rfl) e1) ?_
  exact ret_o (ap1 (comp_o (rng1 (by omega) (val_o (i := 1) rfl)) (c1 _)) (ftL _ μ))
end
end W
namespace W
open PySem PySem.Spec L2 DL
open PyProof.Rows hiding St
local macro_rules | `(tactic| array_get_dec) => `(tactic| repeat (first
  | (with_reducible apply val_o); rfl
  | with_reducible exact c_o
  | (with_reducible apply var_v); rfl
  | (with_reducible apply var_l); rfl
  | (with_reducible apply var_dd); rfl
  | with_reducible exact nx_o
  | with_reducible exact negc _
  | with_reducible assumption
  | with_reducible apply seq_o
  | with_reducible apply set_o
  | with_reducible apply setN_o
  | (with_reducible apply asg_o); rotate_left; rfl; rotate_right
  | with_reducible apply ret_o
  | (with_reducible apply retO_o); rfl
  | (with_reducible apply frz_o); rfl
  | with_reducible apply if_b
  | with_reducible apply br_t
  | with_reducible apply br_f
  | with_reducible apply call1
  | with_reducible apply call2
  | with_reducible apply call3
  | with_reducible apply call4
  | with_reducible apply op_o
  | with_reducible apply test_o
  | (with_reducible apply parN_o); rotate_left; rfl; rotate_right
  | with_reducible apply mm_val
  | with_reducible apply mm_lst
  | with_reducible apply mm_dic
  | with_reducible exact mm_nil
  | with_reducible apply ap1
  | with_reducible apply ap2
  | with_reducible apply ap3
  | with_reducible apply not_o
  | with_reducible apply or_o
  | with_reducible apply and_o
  | with_reducible apply ife_o
  | with_reducible apply un_o
  | with_reducible apply index_o
  | with_reducible exact tup1 _ _
  | with_reducible exact tup2 _ _ _
  | with_reducible exact ftL _ _
  | with_reducible exact lenR _ _
  | with_reducible exact lenM _ _ _
  | with_reducible apply comp_o
  | with_reducible apply ncomp_o
  | with_reducible apply ls_o
  | with_reducible exact disp0
  | with_reducible apply disp1
  | (with_reducible apply seqI); rotate_left; rfl; rotate_right
  | (with_reducible apply enumI); rotate_left; rfl; rotate_right))
section
variable {maps : List (List Nat)} {reads : List Nat}
theorem isT (l : List D) (μ : Mu) : fIsi [.tup l, .ty "tuple"] μ = .ok (.bl true) μ := by kernel_rfl
theorem row_fine {r : List Nat} {n : Nat} (h : ∀ x ∈ r, x < n) (hl : r.length ≤ 1000) (x0 x2 : Option DL.Slot) (μ : Mu) : compL (tgName 3) (mNot (mTest (mChain fLe fLt (mC (.int 0)) (mVal 3) (mVal 1)))) (mVal 3) [x0, some (.val (eI n)), x2, none] (r.map eI) [] μ = .ok [] μ := by
  have key := compL_map (tg := tgName 3) (mt := mNot (mTest (mChain fLe fLt (mC (.int 0)) (mVal 3) (mVal 1)))) (me := mVal 3) (ρ0 := [x0, some (.val (eI n)), x2, none]) (μ := μ) eI (fun _ => false) eI r [] (fun x hx => by
    have h1 := leI 0 (x : Int) μ
    have h2 := ltI (x : Int) (n : Int) μ
    rw [decide_eq_true (by omega)] at h1
    rw [decide_eq_true (by have := h x hx; omega)] at h2
    exact ⟨_, rfl, not_o (test_o (chain_o c_o (val_o (i := 3) rfl) h1 (val_o (i := 1) rfl) h2)), fun z => by cases z⟩) (by rw [List.length_nil]; omega)
  rw [key]
  simp
theorem is_machine_ok (M : Mac maps reads) (μ : Mu) : F_law_is_machine [eM maps reads] μ = .ok (.bl true) μ := by
  have n2 := M.n2
  have l2 : fLen2 [eM maps reads] μ = .ok (.int 2) μ := rfl
  have ne2 := ne_int 2 2 μ
  have i0 : fIx2 (eM maps reads) (.int 0) μ = .ok (.tup (maps.map eR)) μ := rfl
  have i1 : fIx2 (eM maps reads) (.int 1) μ = .ok (eR reads) μ := rfl
  have t0 := isT (maps.map eR) μ
  have t1 := isT (reads.map eI) μ
  have t2 := isT [.tup (maps.map eR), eR reads] μ
  have lr := lenR reads μ
  obtain ⟨ρ', μ', e1, eμ, x2, x3, eρ⟩ := forL_st (tg := tgName 2) (m := sIf (mOr (mNot (mTest (mApp fIsi (mCons (mVal 2) (mCons (mC (.ty "tuple")) mNil))))) (mOr (mTest (mOp fNe (mApp fLen2 (mCons (mVal 2) mNil)) (mVal 1))) (mTest (mOp fNe (mLs (nComp (mSeq (mVal 2)) (tgName 3) (mNot (mTest (mChain fLe fLt (mC (.int 0)) (mVal 3) (mVal 1)))) (mVal 3) [3])) (mApp fLst mNil)))))
 (sRet (mC (.bl false)))
 sNx) eR (fun (_ : Unit) _ => ()) (fun _ ρ μ1 => μ1 = μ ∧ ∃ x2 x3, ρ = [some (.val (eM maps reads)), some (.val (eI reads.length)), x2, x3]) maps () [some (.val (eM maps reads)), some (.val (eI reads.length)), none, none] μ ⟨rfl, _, _, rfl⟩
    (by
      rintro r hr _ ρ μ1 ⟨rfl, x2, x3, rfl⟩
      have t3 := isT (r.map eI) μ1
      have lr := lenR r μ1
      have ne := neI r.length reads.length μ1
      rw [(M.row r hr).1] at lr ne
      rw [decide_eq_false (by simp)] at ne
      refine ⟨_, [some (.val (eM maps reads)), some (.val (eI reads.length)), some (.val (eR r)), x3], μ1, rfl, .inl ?_, rfl, _, _, rfl⟩
      refine if_f (or_f (not_o (test_o (ap2 (val_o (i := 2) rfl) c_o t3))) (or_f (test_o (op_o (ap1 (val_o (i := 2) rfl) lr) (val_o (i := 1) rfl) ne)) (test_o (op_o (comp_o (seqI (val_o (i := 2) rfl) rfl) (row_fine (M.row r hr).2 (by rw [(M.row r hr).1]; omega) _ _ μ1)) (show mApp fLst mNil _ _ = .ok (.lst []) μ1 from rfl) (show fNe (.lst []) (.lst []) μ1 = .ok (.bl false) μ1 from rfl))))) nx_o)
  rw [eμ, eρ] at e1
  refine fn_rt (N := 4) rfl ?_
  refine seq_o (if_f (or_f (not_o (test_o (ap2 (val_o (i := 0) rfl) c_o t2))) (or_f (test_o (op_o (ap1 (val_o (i := 0) rfl) l2) c_o ne2)) (or_f (not_o (test_o (ap2 (op_o (val_o (i := 0) rfl) c_o i0) c_o t0))) (not_o (test_o (ap2 (op_o (val_o (i := 0) rfl) c_o i1) c_o t1)))))) nx_o) ?_
  refine seq_o (set_o (ap1 (op_o (val_o (i := 0) rfl) c_o i1) lr)) ?_
  exact seq_o (for_o (seqI (op_o (val_o (i := 0) rfl) c_o i0) rfl) e1) (ret_o c_o)
/-! ### what is refused -/
theorem err_at {CT : D → FD} {j : Nat} {fc : List (Str × Addr)} {k : D} {μ μ1 : Mu} (h : CT (.lam j fc) [] μ = .exn "InvalidMachine" [("at", k)] μ1) : F_law_error CT [.lam j fc] μ = .ok k μ1 := by
  refine fn_rt (N := 2) rfl (seq_x (try_rt (ρ1 := [some (.val (.lam j fc)), none]) (x := "InvalidMachine") (fs := [("at", k)]) (expr_e ?_) (by simp [nm]) ?_))
  · exact h
  · kernel_rfl
theorem need_row_bad (M : Mac maps reads) {r : List Nat} (hr : r.length ≠ reads.length) (hl : r.length ≤ 1000) (μ : Mu) : F_need_machine [.tup [.tup [eR r], eR reads]] μ = .exn "InvalidMachine" [("at", .int 0)] μ := by
  have n1 := M.n1
  have n2 := M.n2
  have rr : F_is_row_below [eR r, eI reads.length, eI reads.length] μ = .ok (.bl false) μ := by
    rw [is_row (.inl rfl) _ _ hl, decide_eq_false hr]
    rfl
  have p1 : F_is_pair [.tup [.tup [eR r], eR reads]] μ = .ok (.bl true) μ := by kernel_rfl
  have la : fLen2 [.tup [eR r]] μ = .ok (.int 1) μ := rfl
  have lr := lenR reads μ
  have s0 := is_seq_tup [eR r] μ
  have s1 := is_seq_tup (reads.map eI) μ
  have c1 := chain_le 1 1 4
  have c2 := chain_le 1 (reads.length : Nat) 8
  refine fn_ex (N := 5) (ρ1 := [some (.val (.tup [.tup [eR r], eR reads])), some (.val (.tup [eR r])), some (.val (eR reads)), some (.val (.int 0)), some (.val (eR r))]) rfl (seq_o (if_f (or_f (not_o (test_o (call1 (val_o (i := 0) rfl) p1))) (or_f (not_o (test_o (call1 (op_o (val_o (i := 0) rfl) c_o rfl) s0))) (not_o (test_o (call1 (op_o (val_o (i := 0) rfl) c_o rfl) s1))))) nx_o) ?_)
  refine seq_o (asg_o (val_o (i := 0) rfl) rfl) (seq_o (if_f (or_f (not_o (test_o ((c1 _ μ _ (ap1 (val_o (i := 1) rfl) la)).trans (by rw [decide_eq_true (by omega)])))) (not_o (test_o ((c2 _ μ _ (ap1 (val_o (i := 2) rfl) lr)).trans (by rw [decide_eq_true (by omega)]))))) nx_o) ?_)
  refine seq_e (for_o (enumI (l := [eR r]) (val_o (i := 1) rfl) rfl) (forL_e rfl ?_))
  exact if_t (not_o (test_o (call3 (val_o (i := 4) rfl) (ap1 (val_o (i := 2) rfl) lr) (ap1 (val_o (i := 2) rfl) lr) rr))) (raise_o (val_o (i := 3) rfl))
def Bad3 (maps : List (List Nat)) : List D := [.non, .int 5, .tup [.tup (maps.map eR)]]
theorem need_none (d : D) (maps : List (List Nat)) (h : d ∈ Bad3 maps) (μ : Mu) : F_need_machine [d] μ = .exn "InvalidMachine" [("at", .int (-1))] μ := by
  have p : F_is_pair [d] μ = .ok (.bl false) μ := by
    simp only [Bad3, List.mem_cons, List.not_mem_nil, or_false] at h
    rcases h with rfl | rfl | rfl
    · kernel_rfl
    · kernel_rfl
    · kernel_rfl
  exact fn_ex (N := 5) rfl (seq_e (if_t (or_t (not_o (test_o (call1 (val_o (i := 0) rfl) p)))) (raise_o (negc 1))))
variable {fc : List (Str × Addr)} {get : Nat → Option D}
theorem lam0_ok (M : Mac maps reads) (h4 : get 4 = some (eM maps reads)) (μ : Mu) : F_law_error (ctN fc lams_law ct0 get 1) [.lam 0 fc] μ = .ok (.int 0) μ := by
  refine err_at ((ct_lam' (l := l_lam0) rfl rfl).trans ?_)
  have k1 := M.k1
  have n2 := M.n2
  show m_lam0 ct0 (lamEnv 1 [] [get 4]) μ = _
  rw [h4]
  have i0 : fIx2 (eM maps reads) (.int 0) μ = .ok (.tup (maps.map eR)) μ := rfl
  have i1 : fIx2 (eM maps reads) (.int 1) μ = .ok (eR reads) μ := rfl
  have i2 : fIx2 (.tup (maps.map eR)) (.int 0) μ = .ok (eR (maps.getD 0 [])) μ := ixM (j := 0) (by omega) μ
  have rl := (M.row _ (dl_mem (maps := maps) (j := 0) (by omega))).1
  have a1 : fAdd (eR (maps.getD 0 [])) (.tup [.int 0]) μ = .ok (eR (maps.getD 0 [] ++ [0])) μ := word_snoc (by omega) 0 μ
  have b1 := need_row_bad M (r := maps.getD 0 [] ++ [0]) (by rw [List.length_append, rl]; simp) (by rw [List.length_append, rl, List.length_singleton]; omega) μ
  exact call1 (ap2 (ap1 (op_o (op_o (op_o (val_o (i := 0) rfl) c_o i0) c_o i2) (ap1 c_o (tup1 _ μ)) a1) (tup1 _ μ)) (op_o (val_o (i := 0) rfl) c_o i1) (tup2 _ _ μ)) (fn_ex (N := 1) rfl (ret_e (call1_e (call1 (val_o (i := 0) rfl) b1))))
theorem lam1_ok {i : Nat} {μ : Mu} (hb : Bx i μ) : ∃ μ', Bx i μ' ∧ ∀ (fc : List (Str × Addr)) (get : Nat → Option D), get 3 = some (.cell i) → get 4 = some (eM maps reads) → F_law_error (ctN fc lams_law ct0 get 1) [.lam 1 fc] μ = .ok (.int (-1)) μ' := by
  obtain ⟨d, μ', e, b, hd⟩ := pick_b (s := Bad3 maps) hb (by simp [Bad3]) (by simp [Bad3])
  refine ⟨μ', b, fun fc get h3 h4 => err_at ((ct_lam' (l := l_lam1) rfl rfl).trans ?_)⟩
  show m_lam1 ct0 (lamEnv 2 [] [get 3, get 4]) μ = _
  rw [h3, h4]
  have i0 : fIx2 (eM maps reads) (.int 0) μ = .ok (.tup (maps.map eR)) μ := rfl
  have n1 := need_none d maps hd μ'
  exact call1 (call2 (val_o (i := 0) rfl) (ap3 c_o c_o (ap1 (op_o (val_o (i := 1) rfl) c_o i0) (tup1 _ μ)) (show fLst [.non, .int 5, .tup [.tup (maps.map eR)]] μ = .ok (.lst (Bad3 maps)) μ from rfl)) e) (fn_ex (N := 1) rfl (seq_e (set_e (call1 (val_o (i := 0) rfl) n1))))
/-! ### the states one by one -/
abbrev state_turn : SS := (sIf (mTest (mOp fNotN (mOp fIx2 (mVal 6) (mVal 8)) (mC .non)))
 (sSeq (sIf (mTest (mOp fNe (mOp fIx2 (mOp fIx2 (mVal 5) (mC (.int 1))) (mOp fIx2 (mVal 6) (mVal 8))) (mOp fIx2 (mOp fIx2 (mVal 4) (mC (.int 1))) (mVal 8))))
 (sRet (mC (.bl false)))
 sNx)
 (sSeq (sSet 9 (mLs (nComp (mSeq (mOp fIx2 (mVal 4) (mC (.int 0)))) (tgName 11) mYes (mOp fIx2 (mVal 6) (mOp fIx2 (mVal 11) (mVal 8))) [11])))
 (sIf (mTest (mOp fNe (mVal 9) (mLs (nComp (mSeq (mOp fIx2 (mVal 5) (mC (.int 0)))) (tgName 11) mYes (mOp fIx2 (mVal 11) (mOp fIx2 (mVal 6) (mVal 8))) [11]))))
 (sRet (mC (.bl false)))
 sNx)))
 sNx)
theorem ixT {f : Nat → D} {n a : Nat} (h : a < n) (μ : Mu) : fIx2 (.tup ((List.range n).map f)) (eI a) μ = .ok (f a) μ :=
  ix_map (f := f) _ rfl (fun _ _ z => by cases z) (List.getElem?_range h)
theorem nm_row (M : Mac maps reads) {a : Nat} (ha : a ∈ ord maps reads) {r : List Nat} (hr : r ∈ maps) : nmS maps reads (at0 r (stN maps reads (nmS maps reads a))) = nmS maps reads (at0 r a) := by
  have st := st_ok M.rows M.n1 (nm_lt ha)
  refine (nm_eq M.rows M.n1 (ord_row M.rows M.n1 st.1 hr) (ord_row M.rows M.n1 ha hr)).mpr fun u => ?_
  exact (nm_al M.rows M.n1 ha (u + 1)).2 r hr
theorem state_ok (M : Mac maps reads) {a : Nat} (ha : a < reads.length) (x0 x1 x2 x3 x7 x9 x10 x11 : Option DL.Slot) (μ : Mu) : ∃ y9, state_turn [x0, x1, x2, x3, some (.val (eM maps reads)), some (.val (eM (lMaps maps reads) (lReads maps reads))), some (.val (.tup (nmL maps reads))), x7, some (.val (eI a)), x9, x10, x11] μ =
    .nx [x0, x1, x2, x3, some (.val (eM maps reads)), some (.val (eM (lMaps maps reads) (lReads maps reads))), some (.val (.tup (nmL maps reads))), x7, some (.val (eI a)), y9, x10, x11] μ := by
  have k2 := M.k2
  have n2 := M.n2
  have ix : fIx2 (.tup (nmL maps reads)) (eI a) μ = .ok (nmD maps reads a) μ := ixT ha μ
  by_cases q : a ∈ ord maps reads
  · have lt := nm_lt (maps := maps) (reads := reads) q
    rw [show nmD maps reads a = eI (nmS maps reads a) from if_pos q] at ix
    have j0 : fIx2 (eM maps reads) (.int 0) μ = .ok (.tup (maps.map eR)) μ := rfl
    have j1 : fIx2 (eM maps reads) (.int 1) μ = .ok (eR reads) μ := rfl
    have g0 : fIx2 (eM (lMaps maps reads) (lReads maps reads)) (.int 0) μ = .ok (.tup ((lMaps maps reads).map eR)) μ := rfl
    have g1 : fIx2 (eM (lMaps maps reads) (lReads maps reads)) (.int 1) μ = .ok (eR (lReads maps reads)) μ := rfl
    have r1 := ixR (l := lReads maps reads) (a := nmS maps reads a) (by rw [lReads_len]; exact lt) μ
    rw [nm_rd M.rows M.n1 q] at r1
    have r2 := ixR (l := reads) ha μ
    have ne := neI (at0 reads a) (at0 reads a) μ
    rw [decide_eq_false (by simp)] at ne
    have c1 : ∀ x9 : Option DL.Slot, compL (tgName 11) mYes (mOp fIx2 (mVal 6) (mOp fIx2 (mVal 11) (mVal 8))) [x0, x1, x2, x3, some (.val (eM maps reads)), some (.val (eM (lMaps maps reads) (lReads maps reads))), some (.val (.tup (nmL maps reads))), x7, some (.val (eI a)), x9, x10, none] (maps.map eR) [] μ = .ok (maps.map fun r => eI (nmS maps reads (at0 r a))) μ := fun x9 =>
      compL_all eR (fun r => eI (nmS maps reads (at0 r a))) maps (fun r hr => ⟨_, rfl, by
        have h1 := ord_row M.rows M.n1 q hr
        have i1 := ixR (l := r) (a := a) (by rw [(M.row r hr).1]; exact ha) μ
        have i2 : fIx2 (.tup (nmL maps reads)) (eI (at0 r a)) μ = .ok (nmD maps reads (at0 r a)) μ := ixT (ord_lt M.rows M.n1 h1) μ
        rw [show nmD maps reads (at0 r a) = eI (nmS maps reads (at0 r a)) from if_pos h1] at i2
        exact op_o (val_o (i := 6) rfl) (op_o (val_o (i := 11) rfl) (val_o (i := 8) rfl) i1) i2⟩) (by omega)
    have c2 : ∀ x9 : Option DL.Slot, compL (tgName 11) mYes (mOp fIx2 (mVal 11) (mOp fIx2 (mVal 6) (mVal 8))) [x0, x1, x2, x3, some (.val (eM maps reads)), some (.val (eM (lMaps maps reads) (lReads maps reads))), some (.val (.tup (nmL maps reads))), x7, some (.val (eI a)), x9, x10, none] ((lMaps maps reads).map eR) [] μ = .ok (maps.map fun r => eI (nmS maps reads (at0 r a))) μ := fun x9 => by
      have e := compL_all (tg := tgName 11) (me := mOp fIx2 (mVal 11) (mOp fIx2 (mVal 6) (mVal 8))) (ρ0 := [x0, x1, x2, x3, some (.val (eM maps reads)), some (.val (eM (lMaps maps reads) (lReads maps reads))), some (.val (.tup (nmL maps reads))), x7, some (.val (eI a)), x9, x10, none]) (μ := μ) eR (fun r => eI (at0 r (nmS maps reads a))) (lMaps maps reads) (fun r hr => ⟨_, rfl, by
        have i1 := ixR (l := r) (a := nmS maps reads a) (by rw [(lRow M.rows M.n1 r hr).1, lReads_len]; exact lt) μ
        exact op_o (val_o (i := 11) rfl) (op_o (val_o (i := 6) rfl) (val_o (i := 8) rfl) ix) i1⟩) (by rw [lMaps_len]; omega)
      rw [e]
      congr 1
      show (maps.map _).map _ = _
      rw [List.map_map]
      apply List.map_congr_left
      intro r hr
      show eI (at0 ((List.range (nMany maps reads)).map fun i => nmS maps reads (at0 r (stN maps reads i))) (nmS maps reads a)) = _
      rw [at0_rng lt, nm_row M q hr]
    have ne2 : fNe (.lst (maps.map fun r => eI (nmS maps reads (at0 r a)))) (.lst (maps.map fun r => eI (nmS maps reads (at0 r a)))) μ = .ok (.bl false) μ :=
      ne_lst (smAll_map maps fun r hr => sm_I (by have := nm_small M _ (ord_row M.rows M.n1 q hr); omega)) (Nat.le_trans (lvAll_map (n := 1) maps fun r _ => Nat.le_refl _) (by omega)) μ
    refine ⟨some (.val (.lst (maps.map fun r => eI (nmS maps reads (at0 r a))))), ?_⟩
    refine if_t (test_o (op_o (op_o (val_o (i := 6) rfl) (val_o (i := 8) rfl) ix) c_o rfl)) ?_
    refine seq_o (if_f (test_o (op_o (op_o (op_o (val_o (i := 5) rfl) c_o g1) (op_o (val_o (i := 6) rfl) (val_o (i := 8) rfl) ix) r1) (op_o (op_o (val_o (i := 4) rfl) c_o j1) (val_o (i := 8) rfl) r2) ne)) nx_o) ?_
    refine seq_o (set_o (comp_o (seqI (op_o (val_o (i := 4) rfl) c_o j0) rfl) (c1 _))) ?_
    exact if_f (test_o (op_o (val_o (i := 9) rfl) (comp_o (seqI (op_o (val_o (i := 5) rfl) c_o g0) rfl) (c2 _)) ne2)) nx_o
  · rw [show nmD maps reads a = .non from if_neg q] at ix
    exact ⟨x9, if_f (test_o (op_o (op_o (val_o (i := 6) rfl) (val_o (i := 8) rfl) ix) c_o rfl)) nx_o⟩
/-- how many names there are -/
theorem many_ok (M : Mac maps reads) (x0 x1 x2 x3 x4 x5 x7 x8 x9 x11 : Option DL.Slot) (μ : Mu) : mApp fLen2 (mCons (mLs (nComp (mRng fRng1 (mCons (mApp fLen2 (mCons (mVal 6) mNil)) mNil)) (tgName 10) (mTest (mOp (fIn2 false) (mVal 10) (mVal 6))) (mVal 10) [10])) mNil) [x0, x1, x2, x3, x4, x5, some (.val (.tup (nmL maps reads))), x7, x8, x9, none, x11] μ = .ok (eI (nMany maps reads)) μ := by
  have n2 := M.n2
  have ln : fLen2 [.tup (nmL maps reads)] μ = .ok (eI reads.length) μ := by
    have := lenM (nmD maps reads) (List.range reads.length) μ
    rwa [List.length_range] at this
  have c1 := compL_map (tg := tgName 10) (mt := mTest (mOp (fIn2 false) (mVal 10) (mVal 6))) (me := mVal 10) (ρ0 := [x0, x1, x2, x3, x4, x5, some (.val (.tup (nmL maps reads))), x7, x8, x9, none, x11]) (μ := μ) eI (fun i => decide (i < nMany maps reads)) eI (List.range reads.length) [] (fun i hi => by
    have hi := List.mem_range.mp hi
    have in1 := fIn_sm false (μ := μ) (d := eI i) (l := nmL maps reads) (.tup (nmL maps reads)) (.inr rfl) (sm_I (by omega)) (by show 1 ≤ 64; omega) (by
      have := smAll_map (f := id) (nmL maps reads) (fun d hd => (nmL_sm M d hd).1)
      rwa [List.map_id] at this) (decide (i < nMany maps reads)) (by
      rw [decide_eq_true_eq]
      refine ⟨st_mem M.rows M.n1, fun h => ?_⟩
      obtain ⟨a, _, e⟩ := List.mem_map.mp h
      unfold nmD at e
      split at e
      · rename_i q
        rw [← eI_inj.mp e]
        exact nm_lt q
      · cases e)
    exact ⟨_, rfl, test_o (op_o (val_o (i := 10) rfl) (val_o (i := 6) rfl) in1), fun _ => val_o (i := 10) rfl⟩) (by rw [List.length_range, List.length_nil]; omega)
  rw [List.nil_append] at c1
  have l2 := lenL eI ((List.range reads.length).filter fun i => decide (i < nMany maps reads)) μ
  rw [filter_lt (nMany_le M.rows M.n1)] at l2
  exact ap1 (comp_o (rngLen (i := 6) (n := reads.length) (by omega) ln rfl) c1) l2
end
/-! ### the law -/
abbrev twiceD : D := .tup [.tup [.tup [.int 1, .int 2, .int 1, .int 3], .tup [.int 0, .int 0, .int 2, .int 3]], .tup [.int 5, .int 7, .int 7, .int 7]]
abbrev onceD : D := .tup [.tup [.tup [.int 1, .int 2, .int 1], .tup [.int 0, .int 0, .int 2]], .tup [.int 5, .int 7, .int 7]]
abbrev onceN : D := .tup [.int 0, .int 1, .int 2, .non]
theorem twice1 : F_least_machine [twiceD] [] = .ok onceD [] := by kernel_rfl
theorem twice2 : F_least_names [twiceD] [] = .ok onceN [] := by kernel_rfl
abbrev law_body (fc : List (Str × Addr)) : SS := (sSeq (sSet 3 (mCall 2 F_law_box (mCons (mVal 0) (mCons (mVal 2) mNil))))
 (sSeq (sSet 4 (mCall 3 F_law_machine (mCons (mVal 3) (mCons (mC (.int 6)) (mCons (mC (.int 2)) mNil)))))
 (sSeq (sSet 5 (mCallK 0 1 [0] 1 F_least_machine mNil (mCons (mApp fLst (mCons (mLs (nOf (mOp fIx2 (mVal 4) (mC (.int 0))))) (mCons (mOp fIx2 (mVal 4) (mC (.int 1))) mNil))) mNil)))
 (sSeq (sSet 6 (mCall 1 F_law_names (mCons (mVal 4) mNil)))
 (sSeq (sSet 7 (mApp fLen2 (mCons (mLs (nComp (mRng fRng1 (mCons (mApp fLen2 (mCons (mVal 6) mNil)) mNil)) (tgName 10) (mTest (mOp (fIn2 false) (mVal 10) (mVal 6))) (mVal 10) [10])) mNil)))
 (sSeq (sIf (mOr (mTest (mOp fNe (mApp fRepr (mCons (mCall 1 F_least_names (mCons (mVal 4) mNil)) mNil)) (mApp fRepr (mCons (mVal 6) mNil)))) (mOr (mNot (mTest (mCall 1 F_law_is_machine (mCons (mVal 5) mNil)))) (mTest (mOp fNe (mApp fLen2 (mCons (mOp fIx2 (mVal 5) (mC (.int 1))) mNil)) (mVal 7)))))
 (sRet (mC (.bl false)))
 sNx)
 (sSeq (sFor (mRng fRng1 (mCons (mApp fLen2 (mCons (mVal 6) mNil)) mNil)) (tgName 8)
 state_turn)
 (sSeq (sIf (mOr (mTest (mOp fNe (mApp fLen2 (mCons (mOp fIx2 (mVal 5) (mC (.int 0))) mNil)) (mApp fLen2 (mCons (mOp fIx2 (mVal 4) (mC (.int 0))) mNil)))) (mTest (mOp fNe (mApp fRepr (mCons (mCall 1 F_least_machine (mCons (mVal 5) mNil)) mNil)) (mApp fRepr (mCons (mVal 5) mNil)))))
 (sRet (mC (.bl false)))
 sNx)
 (sSeq (sIf (mOr (mTest (mOp fNotB (mCall 1 F_is_least (mCons (mVal 5) mNil)) (mC (.bl true)))) (mTest (mOp fNe (mApp fRepr (mCons (mCallK 0 1 [0] 1 F_is_least mNil (mCons (mVal 4) mNil)) mNil)) (mApp fRepr (mCons (mOp fEq (mVal 4) (mVal 5)) mNil)))))
 (sRet (mC (.bl false)))
 sNx)
 (sSeq (sIf (mTest (mOp fNe (mCallO 1 F_law_error (fun get => ctN fc lams_law ct0 get 1) (mCons (mLam 0 fc) mNil)) (mC (.int 0))))
 (sRet (mC (.bl false)))
 sNx)
 (sIf (mTest (mOp fNe (mCallO 1 F_law_error (fun get => ctN fc lams_law ct0 get 1) (mCons (mLam 1 fc) mNil)) (mUn fNeg (mC (.int 1)))))
 (sRet (mC (.bl false)))
 sNx)))))))))))
theorem law_step {ns : List Int} {k : Nat} (hk : k < 3) (μ : Mu) : ∃ μ', ∀ (fc : List (Str × Addr)) (ρ : DL.Env), (∃ x1 x2 x3 x4 x5 x6 x7 x8 x9 x10 x11, ρ = [some (.val (.scr ns)), x1, x2, x3, x4, x5, x6, x7, x8, x9, x10, x11]) →
    ∃ ρ1 ρ2, tgName 2 (eI k) ρ = some ρ1 ∧ law_body fc ρ1 μ = .nx ρ2 μ' ∧ ∃ x1 x2 x3 x4 x5 x6 x7 x8 x9 x10 x11, ρ2 = [some (.val (.scr ns)), x1, x2, x3, x4, x5, x6, x7, x8, x9, x10, x11] := by
  classical
  obtain ⟨l, e1, bl⟩ := box_ok (ns := ns) (k := (k : Int)) (by omega) (by omega) μ
  have b1 : Bx μ.length (μ ++ [l]) := ⟨l, by simp, bl⟩
  generalize hi : μ.length = i at e1 b1
  generalize μ ++ [l] = μ1 at e1 b1
  obtain ⟨maps, reads, μ2, e2, b2, M, k2⟩ := law_machine_ok b1
  have n2 := M.n2
  obtain ⟨μ3, b3, e9⟩ := lam1_ok (maps := maps) (reads := reads) b2
  have LM := lMac M
  have d1 := need_ok2 M (.inr rfl : SeqIs (.lst [.lst (maps.map eR), eR reads]) _) (.inr rfl) (.inl rfl) μ2
  have e3 : F_least_machine [.lst [.lst (maps.map eR), eR reads]] μ2 = .ok (eM (lMaps maps reads) (lReads maps reads)) μ2 := fn_rt (N := 1) rfl (ret_o (call1 (call1 (val_o (i := 0) rfl) d1) (least_of_ok M μ2)))
  have e4 := law_names_ok M μ2
  have e5 := least_names_ok M μ2
  have e6 := is_machine_ok LM μ2
  have e7 : F_least_machine [eM (lMaps maps reads) (lReads maps reads)] μ2 = .ok (eM (lMaps maps reads) (lReads maps reads)) μ2 := by
    have h := least_of_ok LM μ2
    rw [l_maps M.rows M.n1, l_reads M.rows M.n1] at h
    exact fn_rt (N := 1) rfl (ret_o (call1 (call1 (val_o (i := 0) rfl) (need_ok LM (.inl rfl) (.inl rfl) μ2)) h))
  have e8 := is_least_ok LM μ2 true (by simp only [true_iff]; exact ⟨l_maps M.rows M.n1, l_reads M.rows M.n1⟩)
  have eb := is_least_ok M μ2 (decide (lMaps maps reads = maps ∧ lReads maps reads = reads)) (by rw [decide_eq_true_eq])
  have eq := fEq_sm (eM_sm M) (eM_sm LM) (Nat.le_trans eM_lv (by omega)) (Nat.le_trans eM_lv (by omega)) (μ := μ2) (decide (lMaps maps reads = maps ∧ lReads maps reads = reads)) (by rw [decide_eq_true_eq, eM_inj]; exact ⟨fun h => ⟨h.1.symm, h.2.symm⟩, fun h => ⟨h.1.symm, h.2.symm⟩⟩)
  have g0 : fIx2 (eM (lMaps maps reads) (lReads maps reads)) (.int 0) μ2 = .ok (.tup ((lMaps maps reads).map eR)) μ2 := rfl
  have g1 : fIx2 (eM (lMaps maps reads) (lReads maps reads)) (.int 1) μ2 = .ok (eR (lReads maps reads)) μ2 := rfl
  have j0 : fIx2 (eM maps reads) (.int 0) μ2 = .ok (.tup (maps.map eR)) μ2 := rfl
  have l1 := lenR (lReads maps reads) μ2
  have l2 := lenM eR (lMaps maps reads) μ2
  have l3 := lenM eR maps μ2
  rw [lReads_len] at l1
  rw [lMaps_len] at l2
  have ne1 := neI (nMany maps reads) (nMany maps reads) μ2
  have ne2 := neI maps.length maps.length μ2
  rw [decide_eq_false (by simp)] at ne1 ne2
  have ln : fLen2 [.tup (nmL maps reads)] μ2 = .ok (eI reads.length) μ2 := by
    have := lenM (nmD maps reads) (List.range reads.length) μ2
    rwa [List.length_range] at this
  have sN : (D.tup (nmL maps reads)).sm = true ∧ (D.tup (nmL maps reads)).lv ≤ 50 ∧ (D.tup (nmL maps reads)).sz ≤ 16777216 := by
    refine ⟨?_, ?_, ?_⟩
    · simp only [D.sm]
      have := smAll_map (f := id) (nmL maps reads) (fun d hd => (nmL_sm M d hd).1)
      rwa [List.map_id] at this
    · simp only [D.lv]
      have : lvAll (nmL maps reads) ≤ 1 := lvAll_map (f := nmD maps reads) (List.range reads.length) fun a ha => (nmL_sm M _ (List.mem_map_of_mem ha)).2
      omega
    · simp only [D.sz]
      have : szAll (nmL maps reads) ≤ (List.range reads.length).length * (6 + 2) := szAll_map (f := nmD maps reads) (List.range reads.length) fun a _ => by
        unfold nmD
        split <;> exact Nat.le_refl _
      rw [List.length_range] at this
      omega
  refine ⟨μ3, ?_⟩
  rintro fc ρ ⟨x1, x2, x3, x4, x5, x6, x7, x8, x9, x10, x11, rfl⟩
  obtain ⟨ρ', μ', es, eμ, y8, y9, eρ⟩ := forL_rng (tg := tgName 8) (m := state_turn) eI (fun _ ρ μ1 => μ1 = μ2 ∧ ∃ y8 y9, ρ = [some (.val (.scr ns)), x1, some (.val (eI k)), some (.val (.cell i)), some (.val (eM maps reads)), some (.val (eM (lMaps maps reads) (lReads maps reads))), some (.val (.tup (nmL maps reads))), some (.val (eI (nMany maps reads))), y8, y9, x10, x11]) reads.length 0
    [some (.val (.scr ns)), x1, some (.val (eI k)), some (.val (.cell i)), some (.val (eM maps reads)), some (.val (eM (lMaps maps reads) (lReads maps reads))), some (.val (.tup (nmL maps reads))), some (.val (eI (nMany maps reads))), x8, x9, x10, x11] μ2 ⟨rfl, _, _, rfl⟩
    (by
      rintro a _ ha ρ μ1 ⟨rfl, y8, y9, rfl⟩
      obtain ⟨z9, e⟩ := state_ok M (a := a) (by omega) (some (.val (.scr ns))) x1 (some (.val (eI k))) (some (.val (.cell i))) (some (.val (eI (nMany maps reads)))) y9 x10 x11 μ1
      exact ⟨_, _, μ1, rfl, .inl e, rfl, _, _, rfl⟩)
  rw [eμ, eρ] at es
  refine ⟨_, [some (.val (.scr ns)), x1, some (.val (eI k)), some (.val (.cell i)), some (.val (eM maps reads)), some (.val (eM (lMaps maps reads) (lReads maps reads))), some (.val (.tup (nmL maps reads))), some (.val (eI (nMany maps reads))), y8, y9, x10, x11], rfl, ?_, _, _, _, _, _, _, _, _, _, _, _, rfl⟩
  refine seq_o (set_o (call2 (val_o (i := 0) rfl) (val_o (i := 2) rfl) e1)) ?_
  refine seq_o (set_o (call3 (val_o (i := 3) rfl) c_o c_o e2)) ?_
  refine seq_o (set_o (callK_o (ds := []) rfl (cons1 (ap2 (ls_o (show nOf (mOp fIx2 (mVal 4) (mC (.int 0))) _ _ = .ok (maps.map eR) μ2 from rfl)) (op_o (val_o (i := 4) rfl) c_o (show fIx2 (eM maps reads) (.int 1) μ2 = .ok (eR reads) μ2 from rfl)) (show fLst [.lst (maps.map eR), eR reads] μ2 = .ok (.lst [.lst (maps.map eR), eR reads]) μ2 from rfl))) ⟨rfl, rfl, rfl⟩ e3)) ?_
  refine seq_o (set_o (call1 (val_o (i := 4) rfl) e4)) ?_
  have mk := many_ok M (some (.val (.scr ns))) x1 (some (.val (eI k))) (some (.val (.cell i))) (some (.val (eM maps reads))) (some (.val (eM (lMaps maps reads) (lReads maps reads)))) x7 x8 x9 x11 μ2
  refine seq_o (set_o (d := eI (nMany maps reads)) (μ1 := μ2) mk) ?_
  refine seq_o (if_f (or_f (repr_same (call1 (val_o (i := 4) rfl) e5) (val_o (i := 6) rfl) sN.1 sN.2.1 sN.2.2) (or_f (not_o (test_o (call1 (val_o (i := 5) rfl) e6))) (test_o (op_o (ap1 (op_o (val_o (i := 5) rfl) c_o g1) l1) (val_o (i := 7) rfl) ne1)))) nx_o) ?_
  refine seq_o (for_o (rngLen (i := 6) (n := reads.length) (by omega) ln rfl) (show forL _ _ ((List.range reads.length).map eI) _ _ = SOut.nx [some (.val (.scr ns)), x1, some (.val (eI k)), some (.val (.cell i)), some (.val (eM maps reads)), some (.val (eM (lMaps maps reads) (lReads maps reads))), some (.val (.tup (nmL maps reads))), some (.val (eI (nMany maps reads))), y8, y9, x10, x11] μ2 by rw [List.range_eq_range' (n := reads.length)]; exact es)) ?_
  refine seq_o (if_f (or_f (test_o (op_o (ap1 (op_o (val_o (i := 5) rfl) c_o g0) l2) (ap1 (op_o (val_o (i := 4) rfl) c_o j0) l3) ne2)) (repr_same (call1 (val_o (i := 5) rfl) e7) (val_o (i := 5) rfl) (eM_sm LM) (Nat.le_trans eM_lv (by omega)) (eM_sz LM))) nx_o) ?_
  refine seq_o (if_f (or_f (test_o (op_o (call1 (val_o (i := 5) rfl) e8) c_o (show fNotB (.bl true) (.bl true) μ2 = .ok (.bl false) μ2 from rfl))) (repr_same_b (callK_o (ds := []) rfl (cons1 (val_o (i := 4) rfl)) ⟨rfl, rfl, rfl⟩ eb) (op_o (val_o (i := 4) rfl) (val_o (i := 5) rfl) eq))) nx_o) ?_
  refine seq_o (if_f (test_o (op_o (callO1 (show mLam 0 fc _ _ = .ok (.lam 0 fc) μ2 from rfl) (lam0_ok M rfl μ2)) c_o (ne_int 0 0 μ2))) nx_o) ?_
  exact if_f (test_o (op_o (callO1 (show mLam 1 fc _ _ = .ok (.lam 1 fc) μ2 from rfl) (e9 fc _ rfl rfl)) (negc 1) (ne_int (-1) (-1) μ3))) nx_o
theorem law_true (ns : List Int) (_ : ns.length ≤ 63) (_ : ∀ z ∈ ns, Builtin.Int.intBits z ≤ 1048576) : ∃ m, F_law ct0 [.scr ns] [] = .ok (.bl true) m := by
  obtain ⟨μ', _, h⟩ := forL_uni (Φ := List (Str × Addr)) (tg := tgName 2) (m := law_body) eI (fun _ => True) (fun ρ => ∃ x1 x2 x3 x4 x5 x6 x7 x8 x9 x10 x11, ρ = [some (.val (.scr ns)), x1, x2, x3, x4, x5, x6, x7, x8, x9, x10, x11]) 3 0
    (fun j _ hj μ _ => by
      obtain ⟨μ', h⟩ := law_step (ns := ns) (k := j) (by omega) μ
      exact ⟨μ', trivial, h⟩) [] trivial
  refine ⟨μ', all_eq fun fc => ?_⟩
  obtain ⟨ρ', e, x1, x2, x3, x4, x5, x6, x7, x8, x9, x10, x11, rfl⟩ := h fc [some (.val (.scr ns)), some (.val twiceD), none, none, none, none, none, none, none, none, none, none] ⟨_, _, _, _, _, _, _, _, _, _, _, rfl⟩
  have n1 : fNe onceD onceD [] = .ok (.bl false) [] := by kernel_rfl
  have n2 : fNe onceN onceN [] = .ok (.bl false) [] := by kernel_rfl
  refine fn_rt (N := 12) rfl ?_
  refine seq_o (set_o (d := twiceD) (μ1 := []) rfl) ?_
  refine seq_o (if_f (or_f (test_o (op_o (e := onceD) (μ2 := []) (call1 (val_o (i := 1) rfl) twice1) rfl n1)) (test_o (op_o (e := onceN) (μ2 := []) (call1 (val_o (i := 1) rfl) twice2) rfl n2))) nx_o) ?_
  refine seq_o (for_o (rng1 (n := 3) (by omega) (show mC (.int 3) _ _ = .ok (eI 3) [] from rfl)) e) ?_
  exact ret_o rfl
end W
open PySem PySem.W PySem.Calls PyProof.Rows
theorem PySem.Challenge.cw_forgetwhen_k03_whole_least_machines_holds : PySem.Challenge.rw_forgetwhen_k03_whole_least_machines.Holds := by
  w_on; o_law
  refine HandSHeadRun.head_any (r := OpenLaw.row PySem.Challenge.rw_forgetwhen_k03_whole_least_machines) (q := view (OpenLaw.row PySem.Challenge.rw_forgetwhen_k03_whole_least_machines).prog [37]) (H := W.hk) (ob := W.ob) (M := 40000) (loose := W.loose) (d := HandSHeadRun.topDef (OpenLaw.row PySem.Challenge.rw_forgetwhen_k03_whole_least_machines).prog 37) (kwd := []) W.ob_eq
    (by kernel_rfl) (fun s => by kernel_rfl) W.run (by kernel_rfl) (by kernel_rfl) (by kernel_rfl) (by rfl) (by first | assumption | decide +kernel) (by decide +kernel) ⟨rfl, rfl, rfl, rfl, rfl, by decide +kernel⟩ ?hw ?hc
  case hw => w_witness2
  case hc =>
    letI : DL.HasX := ⟨⟨[]⟩⟩
    letI : DL.HasH := ⟨[]⟩
    refine DL.walkT_ofE (l := PySem.Challenge.rw_forgetwhen_k03_whole_least_machines) (n := 63) (k := 9) (x := "_law_script") rfl (by decide) (by kernel_rfl) (DL.rm_caller.mono (by decide)) ?F
    intro w mg fa h Y G hmg0
    obtain ⟨K, KX, c⟩ := Y
    have hmg : mg ("law" : PySem.Str) = some (.ref fa) := by
      have e : (HandSHeadRun.topDef (OpenLaw.row PySem.Challenge.rw_forgetwhen_k03_whole_least_machines).prog 37).name = ("law" : PySem.Str) := by kernel_rfl
      rw [← e]
      exact hmg0
    obtain ⟨fd, hb, hF⟩ := W.facts (P := (PySem.Challenge.rw_forgetwhen_k03_whole_least_machines).prog) (w := w) KX G rfl (by decide +kernel) c hmg
    refine ⟨K, fd, W.tf.map (He.cT K), _, KX, ?_, ?_, ?_, hb, ?_, hF⟩
    · intro p hp
      obtain ⟨q, hq, e⟩ := List.mem_map.mp hp
      rw [← e]
      exact c.empty q hq
    · intro p hp
      obtain ⟨q, hq, e⟩ := List.mem_map.mp hp
      rw [← e]
      exact c.out q hq
    · intro p hp
      obtain ⟨q, hq, e⟩ := List.mem_map.mp hp
      rw [← e]
      exact PySem.W.codeHd_of_K KX (c.hd q hq)
    · exact fun H a ns h1 h2 h3 h4 h5 => DL.lawT_sp (tf := W.tf) W.law_true H a ns h1 h2 (fun p hp => h3 _ (List.mem_map_of_mem hp)) h5 h4

